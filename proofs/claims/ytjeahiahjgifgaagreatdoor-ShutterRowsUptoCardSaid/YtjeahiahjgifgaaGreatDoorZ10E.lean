/- Lemmas on the walk and plain lemmas that the claim of this folder uses; each states its own conditions. Lines were printed by a program of ours. -/
import Derived.Test.YtjeahiahjgifgaaGreatDoorZ10D
set_option linter.unusedVariables false
set_option linter.unusedSimpArgs false
set_option linter.unusedSectionVars false
open Go.Value renaming int → yc, pointer → ye
open Go.IntKind renaming i64 → yd
open Go.Proofs.YtjeahiahjgifgaaGreatDoor.Big renaming digs → yf, raw → yg, valL → yl, ln → yo, digs_ok → yq, zY → yr, okL_getD → yt, raw_big → yv, okL → yx, sg → yA, ln_mono' → yB, fq → yD, valL_digs → yE, hq_num → yF, hq_den → yG, valL_nonneg → yI, zpb → yJ, nn → yK, trimL → yP, hq → yQ, len_digs_nil → yR, pw → yT, zTa → yU, cmp_ge → yW, sg_abs → yX, fr → yZ
open Go.Proofs.Tryz renaming underlying40 → yh, underlying42 → yi, prog → yj, underlying44 → yk, underlying130 → ym, underlying131 → yn, underlying25 → yp, underlying46 → yw, underlying29 → yz, underlying51 → yH, underlying37 → yL, underlying35 → yM, underlying27 → yN, results93 → yO, underlying4 → yS, results14 → yV
open Go.Proofs.YtjeahiahjgifgaaGreatDoor.Sh renaming raw → yu, tm → yC, inb → yY
namespace Go.Proofs.YtjeahiahjgifgaaGreatDoor.Sp
open Go
set_option linter.unusedVariables false
set_option maxRecDepth 100000
set_option maxHeartbeats 8000000
theorem zcb {s:Bool} {p:Option Addr} {n:Nat} {cap:Nat} {l:List Int} (hn:l.length=n) (ho:yx l) (hln:n≤4398046511104):Con yj 91 [.bool s,.slice p n cap] [] [slF (rI .u32) p cap l] (Y:=(Option Addr)×Nat) (fun y=>True) (fun y=> .agg #[.bool (decide ((yA s (yl l))<0)),.slice (y.1) ((yf ((yA s (yl l)).natAbs)).length) (y.2)]) (fun y=>[]) (fun y=>[slF (rI .u32) (y.1) (y.2) (yf ((yA s (yl l)).natAbs))]):=by
 refine zv Tryz.func91 rfl rfl rfl (fun c=> ?_)
 show RunC _ _ _ _ _ [(0,.bool s),(1,.slice p n cap)] [] [slF (rI .u32) p cap l]
 refine zqa 0 rfl (fun hL0=> ?_)
 refine zj<|zc<|zE rfl rfl (zo zr42 rfl) (fun b1=> ?_)
 refine zk<|zg<|zj<|zc<|e_mv rfl<|e_p (zfa yh rfl)<|e_p (zh rfl)<|zk<|zg<|zj<|zt<|zBa (X:=Nat) (fun x:Nat=>x≤n∧yP (l.take x)=yP l) (fun x=>[(5,yc yd ((x:Nat):Int)),(4,ye (some ⟨b1,0,none⟩)),(0,.bool s),(1,.slice p n cap)]) (fun x=>[boxA b1 42 [wz.b,wz.l]]) (fun x=>[slF (rI .u32) p cap l]) (fun x:Nat=>x) n (show n≤n∧yP (l.take n)=yP l from by exact ⟨by omega,by rw [List.take_of_length_le om]⟩) ((.of rfl):SubM _ _) (ho:=((.c (i:=0) rfl .n):PickO _ _ _)) ((.c (j:=0) rfl .n):SelR _ _ _) ?_
 rintro k hI
 replace hI:k≤n∧yP (l.take k)=yP l:=hI
 try dsimp only
 obtain ⟨hk,hT⟩:=hI
 refine zj<|zAa (X:=Unit) (fun x=>True) (fun x=>[(17,.bool (decide (0<k∧l.getD (k - 1) 0=0))),(5,yc yd ((k:Nat):Int)),(4,ye (some ⟨b1,0,none⟩)),(0,.bool s),(1,.slice p n cap)]) (fun x=>[boxA b1 42 [wz.b,wz.l]]) (fun x=>[slF (rI .u32) p cap l]) ?_ ?_
 ·
  refine zc<|e_mv rfl<|e_p (zbb rfl rfl)<|zja rfl rfl (zka rfl) (fun h2=> ?_) (fun h2=> ?_)
  ·
   refine e_mv rfl<|e_mv rfl<|e_p (zna (z:=(((k:Nat):Int) - 1)) rfl rfl (w64 om))<|zW (x0:=(l.getD ((((k:Nat):Int) - 1).toNat) 0)) 0 ((((k:Nat):Int) - 1).toNat) rfl yh sz131 rfl rfl rfl cbs rfl om (gD (d:=0) om) (fun b3 o4 hok5=> ?_)
   replace hok5:=zL.1 hok5
   refine e_ru (zB (j:=0) 0 ty131 rfl rfl rfl rfl)<|e_p (zOa rfl rfl)<|e_p (zK rfl rfl)<|zk ?_
   exact zha () (show True from by first|trivial|omega|simp_all) ((.e rfl (congrArg Value.bool (by have h1:0<k:=om;have h2:((k:Int) - 1).toNat=k - 1:=om;simp [h1,h2])) (.of rfl)):SubM _ _) (ho:=((.c (i:=0) rfl .n):PickO _ _ _)) ((.c (j:=1) rfl .n):SelR _ _ _)
  ·
   refine e_no<|e_no<|e_no<|e_no<|e_no<|e_no<|e_p (zK rfl rfl)<|zk ?_
   exact zha () (show True from by first|trivial|omega|simp_all) ((.e rfl (congrArg Value.bool (by have h1:¬0<k:=om;simp [h1])) (.of rfl)):SubM _ _) (ho:=((.c (i:=0) rfl .n):PickO _ _ _)) ((.c (j:=0) rfl .n):SelR _ _ _)
 ·
  rintro ⟨⟩ -
  try dsimp only
  refine zT rfl (fun hc=> ?_) (fun hc=> ?_)
  ·
   refine zw<|zg<|zt<|zc<|e_mv rfl<|e_p (zna (z:=(((k - 1):Nat):Int)) rfl rfl (w64 om))<|e_p (zh rfl)<|zk<|zI<|zwa (k - 1) (show (k - 1)≤n∧yP (l.take (k - 1))=yP l from by exact ⟨by omega,by rw [← hT,Big.trim_go l hc.1 om hc.2]⟩) (by show k - 1<k;omega) ((.e rfl (by first|rfl|(congr 1;omega)|simp_all) (.of rfl)):SubM _ _) (ho:=((.c (i:=0) rfl .n):PickO _ _ _)) ((.c (j:=0) rfl .n):SelR _ _ _)
  ·
   have htr:l.take k=yf (yA s (yl l)).natAbs:=by rw [yX (yI ho),←Big.digs_valL ho,←hT];exact (Big.trim_stop l om hc).symm
   have hlt:(l.take k).length=k:=by rw [List.length_take];omega
   have hsg:=Big.made_sign (s:=s) ho htr hlt
   refine zla<|zn<|zn<|zA<|zg<|zj<|zc<|e_mv rfl<|zbf rfl rfl (zka rfl) (fun hs=> ?_) (fun hs=> ?_)
   ·
    refine e_mv rfl<|e_p (zbb rfl rfl)<|e_p (zK rfl rfl)<|zDa rfl rfl (zHa (rI .u32) yh inf131) (fun b6 _=> ?_)
    refine e_mv rfl<|e_mv rfl<|e_p (zZb (hi:=k) yh sz131 rfl (.s rfl) (.inr ⟨_,rfl⟩) om)<|zMc (zXc 0 rfl k om) (fun _ _=> ?_)
    refine zeb 0 rfl rfl rfl (zVa 0 rfl yh inf131 dd rfl rfl cbs rfl cbs om om) (fun _=> .z) ?_
    rintro ⟨p7,c8⟩ -
    dsimp only [aq,nq,cq]
    refine e_p (zx zr42 rfl yi (.c sz4 (.c sz40 .n)) (.c rfl (.c rfl .n)) (.c rfl rfl rfl (.take .nil) (.c rfl rfl rfl (.skip (.take .nil)) .n)))<|zl 1 rfl rfl rfl rfl rfl sz42 rfl (.t2 .nil) (.s .z)<|zk<|zg<|zS ?_
    subst hs
    refine zOb 0 rfl .z ?_
    exact zM Tryz.results91 (p7,c8) trivial (zr 1 ty42 rfl rfl (.t2 .nil)) (by rw [hsg,←htr,hlt,Nat.zero_add] <;> simp) (ho:=(.n:PickO _ _ _)) ((.e (j:=0) rfl (by rw [htr] <;> rfl) .n):SelR _ _ _)
   ·
    refine e_no<|e_no<|e_p (zK rfl rfl)<|zDa rfl rfl (zHa (rI .u32) yh inf131) (fun b9 _=> ?_)
    refine e_mv rfl<|e_mv rfl<|e_p (zZb (hi:=k) yh sz131 rfl (.s rfl) (.inr ⟨_,rfl⟩) om)<|zMc (zXc 0 rfl k om) (fun _ _=> ?_)
    refine zeb 0 rfl rfl rfl (zVa 0 rfl yh inf131 dd rfl rfl cbs rfl cbs om om) (fun _=> .z) ?_
    rintro ⟨p10,c11⟩ -
    dsimp only [aq,nq,cq]
    refine e_p (zx zr42 rfl yi (.c sz4 (.c sz40 .n)) (.c rfl (.c rfl .n)) (.c rfl rfl rfl (.take .nil) (.c rfl rfl rfl (.skip (.take .nil)) .n)))<|zl 1 rfl rfl rfl rfl rfl sz42 rfl (.t2 .nil) (.s .z)<|zk<|zg<|zS ?_
    subst hs
    refine zOb 0 rfl .z ?_
    exact zM Tryz.results91 (p10,c11) trivial (zr 1 ty42 rfl rfl (.t2 .nil)) (by rw [hsg,←htr,hlt,Nat.zero_add] <;> simp) (ho:=(.n:PickO _ _ _)) ((.e (j:=0) rfl (by rw [htr] <;> rfl) .n):SelR _ _ _)
theorem zDb {s:Bool} {a:Nat} {p:Option Addr} {cap:Nat} (hln:(yf (a)).length≤4398046511104):Con yj 91 [.bool (s),.slice (p) ((yf (a)).length) (cap)] [] [slF (rI .u32) (p) (cap) (yf (a))] (Y:=(Option Addr)×(Nat)) (fun y=>True) (fun y=> .agg #[.bool (decide ((yA s (a:Int))<0)),.slice (y.1) ((yf ((yA s (a:Int)).natAbs)).length) (y.2)]) (fun y=>[]) (fun y=>[slF (rI .u32) (y.1) (y.2) (yf ((yA s (a:Int)).natAbs))]):=by
  have h:= @zcb s p (yf a).length cap (yf a) rfl (yq a) hln
  rw [yE] at h
  exact h
theorem zsb {p:Option Addr} {n:Nat} {cap:Nat} {l:List Int} {i:Nat} (hn:l.length=n) (hi:i≤4611686018427387904):Con yj 109 [.slice p n cap,yc yd ((i:Nat):Int)] [] [slF (rI .u32) p cap l] (Y:=Unit) (fun y=>True) (fun y=> .int .u64 (l.getD i 0)) (fun y=>[]) (fun y=>[]):=by
 refine zv Tryz.func109 rfl rfl rfl (fun c=> ?_)
 show RunC _ _ _ _ _ [(0,.slice p n cap),(1,yc yd ((i:Nat):Int))] [] [slF (rI .u32) p cap l]
 refine zqa 0 rfl (fun hL0=> ?_)
 refine zj<|zc<|e_p (zh rfl)<|zk<|zg<|zj<|zj<|zc<|e_mv rfl<|e_mv rfl<|e_p (zfa yh rfl)<|e_p (zO rfl rfl)<|zk<|zg<|zT rfl (fun h1=> ?_) (fun h1=> ?_)
 ·
  refine zj<|zc<|e_mv rfl<|e_mv rfl<|zW (x0:=(l.getD i 0)) 0 i rfl yh sz131 rfl rfl rfl cbs rfl rfl (gD (d:=0) om) (fun b2 o3 hok4=> ?_)
  replace hok4:=zL.1 hok4
  refine e_ru (zB (j:=0) 0 ty131 rfl rfl rfl rfl)<|e_p (zQ (z:=(l.getD i 0)) rfl (by rw [yn];rfl) ym (wu64 om))<|e_p (zh rfl)<|zk<|zg<|zS<|zu ?_
  exact zM Tryz.results109 () trivial (zC rfl) rfl (ho:=(.n:PickO _ _ _)) (.n:SelR _ _ _)
 ·
  refine zw<|zg<|zj<|zc<|e_p (zh rfl)<|zk<|zg<|zS ?_
  exact zM Tryz.results109 () trivial (zC rfl) (by rw [show l.getD i 0=0 by simp [List.getD,List.getElem?_eq_none (show l.length≤i by omega)]]) (ho:=(.n:PickO _ _ _)) (.n:SelR _ _ _)
theorem zJc {s:Bool} {p:Option Addr} {n:Nat} {cap:Nat} {l:List Int} (hn:l.length=n):Con yj 65 [.agg #[.bool s,.slice p n cap]] [] [slF (rI .u32) p cap l] (Y:=Unit) (fun y=>True) (fun y=> .bool (decide (Big.canon s l))) (fun y=>[]) (fun y=>[]):=by
 refine zv Tryz.func65 rfl rfl rfl (fun c=> ?_)
 show RunC _ _ _ _ _ [(0,.agg #[.bool s,.slice p n cap])] [] [slF (rI .u32) p cap l]
 refine zqa 0 rfl (fun hL0=> ?_)
 refine zj<|zc<|zE rfl rfl (zZ rfl rfl) (fun b1=> ?_)
 refine e_p (zh rfl)<|zk<|zg<|zj<|zc<|e_p (zf yi rfl sz40 rfl rfl)<|e_ru (ze 0 ty40 rfl rfl rfl)<|e_p (zfa yh rfl)<|e_p (zh rfl)<|zk<|zg<|zj<|zj<|zc<|e_p (zh rfl)<|zk<|zg<|zt<|zBa (X:=Nat) (fun x:Nat=>x≤n∧∀j,j<x→l.getD j 0<1000000000) (fun x=>[(4,yc yd ((x:Nat):Int)),(3,yc yd ((n:Nat):Int)),(1,ye (some ⟨b1,0,none⟩))]) (fun x=>[boxA b1 42 [.bool s,.slice p n cap]]) (fun x=>[slF (rI .u32) p cap l]) (fun x:Nat=>n - x) 0 (show 0≤n∧∀j,j<0→l.getD j 0<1000000000 from by exact ⟨by omega,fun j h=>by omega⟩) ((.e rfl (by first|rfl|(congr 1;omega)|simp_all) (.c rfl (.c rfl .n))):SubM _ _) (ho:=((.c (i:=0) rfl .n):PickO _ _ _)) ((.c (j:=0) rfl .n):SelR _ _ _) ?_
 rintro i hI
 replace hI:i≤n∧∀j,j<i→l.getD j 0<1000000000:=hI
 try dsimp only
 obtain ⟨hi,hall⟩:=hI
 refine zj<|zj<|zc<|e_mv rfl<|e_mv rfl<|e_p (zO rfl rfl)<|zk<|zg<|zT rfl (fun h2=> ?_) (fun h2=> ?_)
 ·
  refine zw<|zg<|zj<|zt<|zj<|zc<|e_p (zf yi rfl sz40 rfl rfl)<|e_ru (ze 0 ty40 rfl rfl rfl)<|e_mv rfl<|zW (x0:=(l.getD i 0)) 0 i rfl yh sz131 rfl rfl rfl cbs rfl rfl (gD (d:=0) om) (fun b3 o4 hok5=> ?_)
  replace hok5:=zL.1 hok5
  refine e_ru (zB (j:=0) 0 ty131 rfl rfl rfl rfl)<|e_p (zob rfl rfl)<|zk<|zg<|zT rfl (fun hb=> ?_) (fun hb=> ?_)
  ·
   refine zj<|zc<|e_p (zh rfl)<|zk<|zg<|zS<|zda<|zu<|zu<|zda<|zu ?_
   exact zM Tryz.results65 () trivial (zC rfl) (congrArg Value.bool (decide_eq_false (fun h=>((Big.canon_more om).1 h).2 ⟨_,Big.getD_mem om,hb⟩))) (ho:=(.n:PickO _ _ _)) (.n:SelR _ _ _)
  ·
   refine zw<|zI<|zg<|zc<|e_mv rfl<|e_p (zH (z:=(((i+1):Nat):Int)) rfl rfl (w64 om))<|e_p (zh rfl)<|zk<|zwa (i+1) (show (i+1)≤n∧∀j,j<(i+1)→l.getD j 0<1000000000 from by refine ⟨by omega,fun j hj=> ?_⟩;by_cases e:j=i;subst e;omega;exact hall j om) (by show n - (i+1)<n - i;omega) ((.of rfl):SubM _ _) (ho:=((.c (i:=0) rfl .n):PickO _ _ _)) ((.c (j:=1) rfl .n):SelR _ _ _)
 ·
  refine zla<|zn<|zn<|zA<|zg<|zj<|zj<|zc<|e_mv rfl<|e_p (zOa rfl rfl)<|zk<|zg<|zT rfl (fun h0=> ?_) (fun h0=> ?_)
  ·
   refine zj<|zc<|e_p (zf yi rfl sz4 rfl rfl)<|e_ru (ze 0 ty4 rfl rfl rfl)<|e_p (zhc rfl)<|e_p (zh rfl)<|zk<|zg<|zS<|zu ?_
   exact zM Tryz.results65 () trivial (zC rfl) (congrArg Value.bool (by have:l.length=0:=om;cases s <;> simp [Big.canon,this])) (ho:=(.n:PickO _ _ _)) (.n:SelR _ _ _)
  ·
   refine zw<|zg<|zj<|zc<|e_p (zf yi rfl sz40 rfl rfl)<|e_ru (ze 0 ty40 rfl rfl rfl)<|e_mv rfl<|e_p (zna (z:=(((n:Nat):Int) - 1)) rfl rfl (w64 om))<|zW (x0:=(l.getD ((((n:Nat):Int) - 1).toNat) 0)) 0 ((((n:Nat):Int) - 1).toNat) rfl yh sz131 rfl rfl rfl cbs rfl om (gD (d:=0) om) (fun b6 o7 hok8=> ?_)
   replace hok8:=zL.1 hok8
   refine e_ru (zB (j:=0) 0 ty131 rfl rfl rfl rfl)<|e_p (zAb rfl rfl)<|e_p (zh rfl)<|zk<|zg<|zS ?_
   exact zM Tryz.results65 () trivial (zC rfl) (congrArg Value.bool (decide_eq_decide.2 (by rw [Big.canon_more om,hn];have e:((n:Int) - 1).toNat=n - 1:=om;rw [e];exact ⟨fun h=>h.1,fun h=>⟨h,fun ⟨g,hg,hb⟩=>by obtain ⟨j,hj,e⟩:=Big.mem_getD hg;have:=hall j om;omega⟩⟩))) (ho:=(.n:PickO _ _ _)) (.n:SelR _ _ _)
theorem zmb {s:Bool} {p:Option Addr} {n:Nat} {cap:Nat} {l:List Int} (hn:l.length=n) (hln:n≤1099511627776):Con yj 90 [.agg #[.bool s,.slice p n cap]] [] [slF (rI .u32) p cap l] (Y:=(Option Addr)×Nat) (fun y=>True) (fun y=> .agg #[.bool (decide ((yg s l)<0)),.slice (y.1) ((yf ((yg s l).natAbs)).length) (y.2)]) (fun y=>[]) (fun y=>[slF (rI .u32) (y.1) (y.2) (yf ((yg s l).natAbs))]):=by
 refine zv Tryz.func90 rfl rfl rfl (fun c=> ?_)
 show RunC _ _ _ _ _ [(0,.agg #[.bool s,.slice p n cap])] [] [slF (rI .u32) p cap l]
 refine zqa 0 rfl (fun hL0=> ?_)
 refine zfb 0 rfl (fun hE0=> ?_)
 have hnn:yK l:=fun g hg=>(zL.1 (hE0 g hg)).1
 refine zj<|zc<|zE rfl rfl (zZ rfl rfl) (fun b1=> ?_)
 refine zE rfl rfl (zo zr42 rfl) (fun b2=> ?_)
 refine zk<|zg<|zj<|zj<|zc<|e_ru (zd 1 ty42 rfl rfl (.t2 .nil))<|zU rfl rfl (.c rfl .n) ce65 (zJc (s:=s) (p:=p) (n:=n) (cap:=cap) (l:=l) (hn:=ass)) (.c (j:=0) rfl .n)<|e_p (zKa rfl)<|zk<|zg<|zT rfl (fun hc=> ?_) (fun hc=> ?_)
 ·
  refine zj<|zc<|e_p (zx zr42 rfl yi (.c sz4 (.c sz40 .n)) .n .n)<|zl 0 rfl rfl rfl rfl rfl sz42 rfl (.t2 .nil) .z<|zk<|zg<|zS<|zu ?_
  have hz:yg s l=0:=by unfold yg;rw [if_neg hc]
  refine zPc (rI .u32) ?_
  exact zM Tryz.results90 (none,0) trivial (zr 0 ty42 rfl rfl (.t2 .nil)) (by rw [hz];rfl) (ho:=(.n:PickO _ _ _)) ((.e (j:=0) rfl (by rw [hz];rfl) .n):SelR _ _ _)
 ·
  refine zw<|zg<|zj<|zP (OW:=[boxA b2 42 [wz.b,wz.l]]) (O:=[boxA b1 42 [.bool s,.slice p n cap]]) 5 mixed (.then .ret) kr<|e_pv 0 rfl rfl (zf yi rfl sz4 rfl rfl)<|e_u 1 rfl rfl (ze 0 ty4 rfl rfl rfl)<|e_pv 3 rfl rfl (zf yi rfl sz40 rfl rfl)<|e_uw 4 rfl rfl (ze 1 ty40 rfl rfl rfl)<|e_one 2 (zua rfl rfl rfl rfl (zHa (rI .u32) yh inf131) (fun b3 _=> ?_))
  refine e_one 5 (zVf (A':=fun v:Option Addr×Nat=>rowA 131 (rI .u32) v.1 v.2 (([])++l)) kr rfl rfl rfl (zVa 0 rfl yh inf131 dd rfl rfl cbs rfl cbs om om) ?_)
  rintro ⟨p4,c5⟩ -
  dsimp only [aq,nq,cq]
  refine e_pv 6 rfl rfl (zx zr42 rfl yi (.c sz4 (.c sz40 .n)) (.c rfl (.c rfl .n)) (.c rfl rfl rfl (.take .nil) (.c rfl rfl rfl (.skip (.take .nil)) .n)))<|zhb (zoa (i:=1) rfl)<|e_one 7 (zp kr rfl rfl rfl rfl rfl sz42 rfl (.t2 .nil) ?_)
  refine zN kr<|zg<|zS ?_
  have hcc:Big.canon s l:=Decidable.not_not.1 hc
  have hd:yf (yg s l).natAbs=l:=by rw [Big.raw_digs hnn,if_pos hcc]
  have hs:=Big.raw_sign hnn hcc
  refine zOb 1 rfl (.s .z) ?_
  exact zM Tryz.results90 (p4,c5) trivial (zr 0 ty42 rfl rfl (.t2 .nil)) (by rw [hs,hd,hn,Nat.zero_add]) (ho:=(.n:PickO _ _ _)) ((.e (j:=0) rfl (by rw [hd] <;> rfl) .n):SelR _ _ _)
theorem zid {z:Int} {p:Option Addr} {cap:Nat} (hln:yo z≤1099511627776):Con yj 90 [.agg #[.bool (decide ((z)<0)),.slice (p) ((yf ((z).natAbs)).length) (cap)]] [] [slF (rI .u32) (p) (cap) (yf ((z).natAbs))] (Y:=(Option Addr)×(Nat)) (fun y=>True) (fun y=> .agg #[.bool (decide ((z)<0)),.slice (y.1) ((yf ((z).natAbs)).length) (y.2)]) (fun y=>[]) (fun y=>[slF (rI .u32) (y.1) (y.2) (yf ((z).natAbs))]):=by
  have h:= @zmb (decide ((z)<0)) p (yf (z).natAbs).length cap (yf (z).natAbs) rfl hln
  rw [yv] at h
  exact h
theorem zqf {z:Int} (hz: -9223372036854775808≤z∧z≤9223372036854775807):Con yj 87 [yc yd z] [] [] (Y:=(Option Addr)×Nat) (fun y=>True) (fun y=> .agg #[.bool (decide (z<0)),.slice (y.1) ((yf ((z).natAbs)).length) (y.2)]) (fun y=>[]) (fun y=>[slF (rI .u32) (y.1) (y.2) (yf ((z).natAbs))]):=by
 refine zv Tryz.func87 rfl rfl rfl (fun c=> ?_)
 show RunC _ _ _ _ _ [(0,yc yd z)] [] []
 refine zj<|zc<|zE rfl rfl (zo zr42 rfl) (fun b1=> ?_)
 refine zk<|zg<|zj<|zc<|e_mv rfl<|e_p (zQ (z:=(z%18446744073709551616)) rfl (by rw [Tryz.underlying3];rfl) ym (wu64m om))<|e_p (zh rfl)<|zk<|zg<|zAa (X:=Unit) (fun x=>True) (fun x=>[(3,.int .u64 ((z.natAbs:Nat):Int)),(2,ye (some ⟨b1,0,none⟩)),(0,yc yd z)]) (fun x=>[boxA b1 42 [wz.b,wz.l]]) (fun x=>[]) ?_ ?_
 ·
  refine zj<|zc<|e_mv rfl<|e_p (zO rfl rfl)<|zk<|zg<|zT rfl (fun hs=> ?_) (fun hs=> ?_)
  ·
   refine zc<|e_mv rfl<|e_p (zH (z:=(z+1)) rfl rfl (w64 om))<|e_p (zgc (z:=(-(z+1))) rfl (w64 om))<|e_p (zQ (z:=(-(z+1))) rfl (by rw [Tryz.underlying3];rfl) ym (wu64 om))<|e_p (zH (z:=((z.natAbs:Nat):Int)) rfl rfl (wu64 om))<|e_p (zh rfl)<|zk ?_
   exact zha () (show True from by first|trivial|omega|simp_all) ((.of rfl):SubM _ _) (ho:=((.c (i:=0) rfl .n):PickO _ _ _)) (.n:SelR _ _ _)
  ·
   have e2:((z%18446744073709551616):Int)=((z.natAbs:Nat):Int):=by omega
   rw [e2]
   refine zw ?_
   exact zha () (show True from by first|trivial|omega|simp_all) ((.of rfl):SubM _ _) (ho:=((.c (i:=0) rfl .n):PickO _ _ _)) (.n:SelR _ _ _)
 ·
  rintro ⟨⟩ -
  try dsimp only
  refine zj<|zc<|zDa rfl rfl (zHa (rI .u32) yh inf131) (fun b3 _=> ?_)
  refine e_p (zh rfl)<|zk<|zg<|zj<|zt<|zBa (X:=Nat×(Option Addr)×Nat×(List Int)) (fun x:Nat×(Option Addr)×Nat×(List Int)=>x.1≤z.natAbs∧x.2.2.2++yf x.1=yf z.natAbs) (fun x=>[(4,.slice (x.2.1) (x.2.2.2.length) (x.2.2.1)),(3,.int .u64 ((x.1:Nat):Int)),(2,ye (some ⟨b1,0,none⟩)),(0,yc yd z)]) (fun x=>[rowA 131 (rI .u32) (x.2.1) (x.2.2.1) (x.2.2.2),boxA b1 42 [wz.b,wz.l]]) (fun x=>[]) (fun x:Nat×(Option Addr)×Nat×(List Int)=>x.1) (z.natAbs,some ⟨b3,0,none⟩,0,[]) (show z.natAbs≤z.natAbs∧([])++yf z.natAbs=yf z.natAbs from by exact ⟨Nat.le_refl _,rfl⟩) ((.e rfl (by first|rfl|(congr 1;omega)|simp_all) (.of rfl)):SubM _ _) (ho:=((.of [0,0] rfl):PickO _ _ _)) (.n:SelR _ _ _) ?_
  rintro ⟨m,p,c,os⟩ hI
  replace hI:m≤z.natAbs∧os++yf m=yf z.natAbs:=hI
  try dsimp only
  obtain ⟨hnn,hos⟩:=hI
  have hlen0:os.length+(yf m).length≤3:=by have:=congrArg List.length hos;rw [List.length_append] at this;have:=Big.zjf (show z.natAbs<18446744073709551616 by omega);omega
  refine zj<|zj<|zc<|e_mv rfl<|e_p (zbb rfl rfl)<|zk<|zg<|zT rfl (fun h4=> ?_) (fun h4=> ?_)
  ·
   refine zw<|zg<|zt<|zj<|zc<|e_mv rfl<|e_mv rfl<|e_p (znb (z:=(((m%1000000000):Nat):Int)) rfl rfl om (remN om om))<|e_p (zQ (z:=(((m%1000000000):Nat):Int)) rfl (by rw [ym];rfl) yn (wu32 om))<|zDa rfl rfl (zR (enc:=fun z:Int=>[.int .u32 z]) (ok:=InK .u32) (h1:=fun _=>rfl) (h2:=fun _=>rfl) (k:=1) yh inf131 rfl dd dd dd (.c (x:=(((m%1000000000):Nat):Int)) rfl rfl (fun _ _=>by exact zL.2 om) .n)) (fun b5 _=> ?_)
   refine zia 0 rfl .z<|zeb 1 rfl rfl rfl (zVa 0 rfl yh inf131 dd rfl rfl cbs rfl cbs om om) (fun _=>(.s .z)) ?_
   rintro ⟨p6,c7⟩ -
   dsimp only [aq,nq,cq]
   refine e_p (zh rfl)<|zk<|zg<|zc<|e_mv rfl<|e_p (zab (z:=(((m / 1000000000):Nat):Int)) rfl rfl om (by rw [quoN (z:=(((m / 1000000000):Nat):Int)) om om];exact wu64 om))<|e_p (zh rfl)<|zk<|zI<|zwa ((m / 1000000000),p6,c7,os++[((m%1000000000:Nat):Int)]) (show (m / 1000000000)≤z.natAbs∧(os++[((m%1000000000:Nat):Int)])++yf (m / 1000000000)=yf z.natAbs from by exact ⟨by omega,Big.split_step om hos⟩) (by show m / 1000000000<m;omega) ((.e rfl (by simp) (.of rfl)):SubM _ _) (ho:=((.e (i:=1) rfl (by first|rfl|(congr 1;omega)|simp_all) (.c (i:=1) rfl .n)):PickO _ _ _)) (.n:SelR _ _ _)
  ·
   have hm0:m=0:=by omega
   subst hm0
   have hd:os=yf z.natAbs:=by simpa [Big.digs_zero] using hos
   have hok:yx os:=by rw [hd];exact yq _
   have hlen:os.length≤3:=by rw [hd];exact Big.zjf om
   have hsg:yA (decide (z<0)) (yl os)=z:=by rw [hd,yE];exact Big.sg_big z
   refine zla<|zn<|zn<|zA<|zg<|zj<|zc<|e_mv rfl<|e_p (zO rfl rfl)<|e_mv rfl<|zia 0 rfl .z<|zG rfl rfl (.c rfl (.c rfl .n)) ce91 (zcb (s:=decide (z<0)) (p:=p) (n:=os.length) (cap:=c) (l:=os) (hn:=by first|rfl|omega) (ho:=by exact hok) (hln:=by first|rfl|omega)) (.c (j:=0) rfl .n) ?_
   rintro ⟨p28,c29⟩ -
   dsimp only [aq,nq,cq]
   refine zl 1 rfl rfl rfl rfl rfl sz42 rfl (.t2 .nil) (.s .z)<|zk<|zg<|zS ?_
   exact zM Tryz.results87 (p28,c29) trivial (zr 1 ty42 rfl rfl (.t2 .nil)) (by rw [hsg]) (ho:=(.n:PickO _ _ _)) ((.e (j:=0) rfl (by rw [hsg]) .n):SelR _ _ _)
theorem zrf {a:Nat} {b:Nat} {p1:Option Addr} {c1:Nat} {p2:Option Addr} {c2:Nat} (hb1:(yf a).length≤1099511627776) (hb2:(yf b).length≤1099511627776):Con yj 92 [.slice p1 ((yf a).length) c1,.slice p2 ((yf b).length) c2] [] [slF (rI .u32) p1 c1 (yf a),slF (rI .u32) p2 c2 (yf b)] (Y:=(Option Addr)×Nat) (fun y=>True) (fun y=> .slice (y.1) ((yf (a+b)).length) (y.2)) (fun y=>[]) (fun y=>[slF (rI .u32) (y.1) (y.2) (yf (a+b))]):=by
 refine zv Tryz.func92 rfl rfl rfl (fun c=> ?_)
 show RunC _ _ _ _ _ [(0,.slice p1 ((yf a).length) c1),(1,.slice p2 ((yf b).length) c2)] [] [slF (rI .u32) p1 c1 (yf a),slF (rI .u32) p2 c2 (yf b)]
 refine zqa 0 rfl (fun hL0=> ?_)
 refine zqa 1 rfl (fun hL1=> ?_)
 refine zj<|zc<|e_p (zh rfl)<|zk<|zg<|zj<|zc<|zDa rfl rfl (zHa (rI .u32) yh inf131) (fun b1 _=> ?_)
 refine e_p (zh rfl)<|zk<|zg<|zj<|zc<|e_p (zh rfl)<|zk<|zg<|zj<|zj<|zc<|e_p (zh rfl)<|zk<|zg<|zt<|zBa (X:=Nat×(Option Addr)×Nat×(List Int)×Int) (fun x:Nat×(Option Addr)×Nat×(List Int)×Int=>x.1≤max (yf a).length (yf b).length∧x.2.2.2.1.length=x.1∧0≤x.2.2.2.2∧x.2.2.2.2≤1∧yx x.2.2.2.1∧yl x.2.2.2.1+yT x.1*x.2.2.2.2=yl ((yf a).take x.1)+yl ((yf b).take x.1)) (fun x=>[(6,.int .u64 (x.2.2.2.2)),(5,.slice (x.2.1) (x.2.2.2.1.length) (x.2.2.1)),(7,yc yd ((x.1:Nat):Int)),(4,.slice none 0 0),(0,.slice p1 ((yf a).length) c1),(1,.slice p2 ((yf b).length) c2)]) (fun x=>[rowA 131 (rI .u32) (x.2.1) (x.2.2.1) (x.2.2.2.1)]) (fun x=>[slF (rI .u32) p1 c1 (yf a),slF (rI .u32) p2 c2 (yf b)]) (fun x:Nat×(Option Addr)×Nat×(List Int)×Int=>max (yf a).length (yf b).length - x.1) (0,some ⟨b1,0,none⟩,0,[],0) (show 0≤max (yf a).length (yf b).length∧([]).length=0∧0≤0∧0≤1∧yx ([])∧yl ([])+yT 0*0=yl ((yf a).take 0)+yl ((yf b).take 0) from by exact ⟨by omega,rfl,by decide,by decide,Big.okL_nil,by simp [yl]⟩) ((.c rfl (.e rfl (by first|rfl|(congr 1;omega)|simp_all) (.e rfl (by first|rfl|(congr 1;omega)|simp_all) (.of rfl)))):SubM _ _) (ho:=((.c (i:=0) rfl .n):PickO _ _ _)) ((.of [0,1] rfl):SelR _ _ _) ?_
 rintro ⟨i,p,c,os,cy⟩ hI
 replace hI:i≤max (yf a).length (yf b).length∧os.length=i∧0≤cy∧cy≤1∧yx os∧yl os+yT i*cy=yl ((yf a).take i)+yl ((yf b).take i):=hI
 try dsimp only
 obtain ⟨hi,hol,hc0,hc1,hok,hv⟩:=hI
 have hg1:=yt (yq a) i
 have hg2:=yt (yq b) i
 refine zj<|zAa (X:=Unit) (fun x=>True) (fun x=>[(19,.bool (decide (i<(yf a).length∨i<(yf b).length))),(6,.int .u64 cy),(5,.slice p (os.length) c),(7,yc yd ((i:Nat):Int)),(4,.slice none 0 0),(0,.slice p1 ((yf a).length) c1),(1,.slice p2 ((yf b).length) c2)]) (fun x=>[rowA 131 (rI .u32) p c os]) (fun x=>[slF (rI .u32) p1 c1 (yf a),slF (rI .u32) p2 c2 (yf b)]) ?_ ?_
 ·
  refine zc<|e_mv rfl<|e_mv rfl<|e_p (zfa yh rfl)<|e_p (zO rfl rfl)<|zja rfl rfl (zka rfl) (fun h2=> ?_) (fun h2=> ?_)
  ·
   refine e_no<|e_no<|e_no<|e_no<|e_p (zK rfl rfl)<|zk ?_
   exact zha () (show True from by first|trivial|omega|simp_all) ((.e rfl (congrArg Value.bool (by simp;omega)) (.of rfl)):SubM _ _) (ho:=((.c (i:=0) rfl .n):PickO _ _ _)) ((.of [0,1] rfl):SelR _ _ _)
  ·
   refine e_mv rfl<|e_mv rfl<|e_p (zfa yh rfl)<|e_p (zO rfl rfl)<|e_p (zK rfl rfl)<|zk ?_
   exact zha () (show True from by first|trivial|omega|simp_all) ((.e rfl (congrArg Value.bool (by simp;omega)) (.of rfl)):SubM _ _) (ho:=((.c (i:=0) rfl .n):PickO _ _ _)) ((.of [0,1] rfl):SelR _ _ _)
 ·
  rintro ⟨⟩ -
  try dsimp only
  refine zT rfl (fun hc=> ?_) (fun hc=> ?_)
  ·
   refine zw<|zg<|zj<|zt<|zj<|zc<|e_mv rfl<|e_mv rfl<|zU rfl rfl (.c rfl (.c rfl .n)) ce109 (zsb (p:=p1) (n:=(yf a).length) (cap:=c1) (l:=yf a) (i:=i) (hn:=cbb) (hi:=cbb)) (.c (j:=0) rfl .n)<|e_mv rfl<|e_mv rfl<|zU rfl rfl (.c rfl (.c rfl .n)) ce109 (zsb (p:=p2) (n:=(yf b).length) (cap:=c2) (l:=yf b) (i:=i) (hn:=cbb) (hi:=cbb)) (.c (j:=1) rfl .n)<|e_p (zH (z:=((yf a).getD i 0+(yf b).getD i 0)) rfl rfl (wu64 om))<|e_mv rfl<|e_p (zH (z:=(((yf a).getD i 0+(yf b).getD i 0)+cy)) rfl rfl (wu64 om))<|e_p (zh rfl)<|zk<|zg<|zj<|zc<|e_mv rfl<|e_mv rfl<|e_p (znb (z:=((((yf a).getD i 0+(yf b).getD i 0)+cy)%1000000000)) rfl rfl om (remN om om))<|e_p (zQ (z:=((((yf a).getD i 0+(yf b).getD i 0)+cy)%1000000000)) rfl (by rw [ym];rfl) yn (wu32 om))<|zDa rfl rfl (zR (enc:=fun z:Int=>[.int .u32 z]) (ok:=InK .u32) (h1:=fun _=>rfl) (h2:=fun _=>rfl) (k:=1) yh inf131 rfl dd dd dd (.c (x:=((((yf a).getD i 0+(yf b).getD i 0)+cy)%1000000000)) rfl rfl (fun _ _=>by exact zL.2 om) .n)) (fun b3 _=> ?_)
   refine zia 0 rfl .z<|zeb 1 rfl rfl rfl (zVa 0 rfl yh inf131 dd rfl rfl cbs rfl cbs om om) (fun _=>(.s .z)) ?_
   rintro ⟨p4,c5⟩ -
   dsimp only [aq,nq,cq]
   refine e_p (zh rfl)<|zk<|zg<|zc<|e_mv rfl<|e_p (zab (z:=((((yf a).getD i 0+(yf b).getD i 0)+cy) / 1000000000)) rfl rfl om (by rw [quoN (z:=((((yf a).getD i 0+(yf b).getD i 0)+cy) / 1000000000)) om om];exact wu64 om))<|e_p (zh rfl)<|zk<|zI<|zg<|zc<|e_mv rfl<|e_p (zH (z:=(((i+1):Nat):Int)) rfl rfl (w64 om))<|e_p (zh rfl)<|zk<|zwa ((i+1),p4,c5,os++[((yf a).getD i 0+(yf b).getD i 0+cy)%1000000000],((yf a).getD i 0+(yf b).getD i 0+cy) / 1000000000) (show (i+1)≤max (yf a).length (yf b).length∧(os++[((yf a).getD i 0+(yf b).getD i 0+cy)%1000000000]).length=(i+1)∧0≤(((yf a).getD i 0+(yf b).getD i 0+cy) / 1000000000)∧(((yf a).getD i 0+(yf b).getD i 0+cy) / 1000000000)≤1∧yx (os++[((yf a).getD i 0+(yf b).getD i 0+cy)%1000000000])∧yl (os++[((yf a).getD i 0+(yf b).getD i 0+cy)%1000000000])+yT (i+1)*(((yf a).getD i 0+(yf b).getD i 0+cy) / 1000000000)=yl ((yf a).take (i+1))+yl ((yf b).take (i+1)) from by exact ⟨by omega,by simp [hol],by omega,by omega,Big.okL_snoc hok om om,Big.plus_step hol hv om⟩) (by show max (yf a).length (yf b).length - (i+1)<max (yf a).length (yf b).length - i;omega) ((.e rfl (by first|rfl|(congr 1;omega)|simp_all) (.e rfl (by simp) (.of rfl))):SubM _ _) (ho:=((.e (i:=1) rfl (by first|rfl|(congr 1;omega)|simp_all) .n):PickO _ _ _)) ((.of [1,2] rfl):SelR _ _ _)
  ·
   have hok2:=Big.okL_snoc hok hc0 (show cy<1000000000 by omega)
   have hfin:=Big.plus_end (a:=a) (b:=b) hol om om hv
   refine zla<|zn<|zn<|zA<|zg<|zj<|zc<|e_mv rfl<|e_mv rfl<|e_p (zQ (z:=cy) rfl (by rw [ym];rfl) yn (wu32 om))<|zDa rfl rfl (zR (enc:=fun z:Int=>[.int .u32 z]) (ok:=InK .u32) (h1:=fun _=>rfl) (h2:=fun _=>rfl) (k:=1) yh inf131 rfl dd dd dd (.c (x:=cy) rfl rfl (fun _ _=>by exact zL.2 om) .n)) (fun b6 _=> ?_)
   refine zia 0 rfl .z<|zeb 1 rfl rfl rfl (zVa 0 rfl yh inf131 dd rfl rfl cbs rfl cbs om om) (fun _=>(.s .z)) ?_
   rintro ⟨p7,c8⟩ -
   dsimp only [aq,nq,cq]
   refine zia 1 rfl (.s .z)<|zG rfl rfl (.c rfl (.c rfl .n)) ce91 (zcb (s:=false) (p:=p7) (n:=os.length+1) (cap:=c8) (l:=(os++([cy]))) (hn:=by first|rfl|omega|(simp;done)|(simp;omega)) (ho:=by exact hok2) (hln:=by first|rfl|omega|(simp;done)|(simp;omega))) (.c (j:=0) rfl .n) ?_
   rintro ⟨p29,c210⟩ -
   dsimp only [aq,nq,cq]
   refine e_p (zSa yi rfl ty40 rfl rfl)<|e_p (zh rfl)<|zk<|zg<|zS ?_
   exact zM Tryz.results92 (p29,c210) trivial (zC rfl) (by rw [hfin]) (ho:=(.n:PickO _ _ _)) ((.e (j:=0) rfl (by rw [hfin]) .n):SelR _ _ _)
theorem zfc {a:Nat} {b:Nat} {p1:Option Addr} {c1:Nat} {p2:Option Addr} {c2:Nat} (hb1:(yf a).length≤1099511627776) (hb2:(yf b).length≤1099511627776) (hab:b≤a):Con yj 94 [.slice p1 ((yf a).length) c1,.slice p2 ((yf b).length) c2] [] [slF (rI .u32) p1 c1 (yf a),slF (rI .u32) p2 c2 (yf b)] (Y:=(Option Addr)×Nat) (fun y=>True) (fun y=> .slice (y.1) ((yf (a - b)).length) (y.2)) (fun y=>[]) (fun y=>[slF (rI .u32) (y.1) (y.2) (yf (a - b))]):=by
 refine zv Tryz.func94 rfl rfl rfl (fun c=> ?_)
 show RunC _ _ _ _ _ [(0,.slice p1 ((yf a).length) c1),(1,.slice p2 ((yf b).length) c2)] [] [slF (rI .u32) p1 c1 (yf a),slF (rI .u32) p2 c2 (yf b)]
 refine zqa 0 rfl (fun hL0=> ?_)
 refine zqa 1 rfl (fun hL1=> ?_)
 refine zj<|zc<|e_p (zh rfl)<|zk<|zg<|zj<|zc<|zDa rfl rfl (zHa (rI .u32) yh inf131) (fun b1 _=> ?_)
 refine e_p (zh rfl)<|zk<|zg<|zj<|zc<|e_p (zh rfl)<|zk<|zg<|zj<|zj<|zc<|e_p (zh rfl)<|zk<|zg<|zt<|zBa (X:=Nat×(Option Addr)×Nat×(List Int)×Int) (fun x:Nat×(Option Addr)×Nat×(List Int)×Int=>x.1≤(yf a).length∧x.2.2.2.1.length=x.1∧0≤x.2.2.2.2∧x.2.2.2.2≤1∧yx x.2.2.2.1∧yl x.2.2.2.1+yl ((yf b).take x.1)=yl ((yf a).take x.1)+yT x.1*x.2.2.2.2) (fun x=>[(6,.int .u64 (x.2.2.2.2)),(5,.slice (x.2.1) (x.2.2.2.1.length) (x.2.2.1)),(7,yc yd ((x.1:Nat):Int)),(4,.slice none 0 0),(0,.slice p1 ((yf a).length) c1),(1,.slice p2 ((yf b).length) c2)]) (fun x=>[rowA 131 (rI .u32) (x.2.1) (x.2.2.1) (x.2.2.2.1)]) (fun x=>[slF (rI .u32) p1 c1 (yf a),slF (rI .u32) p2 c2 (yf b)]) (fun x:Nat×(Option Addr)×Nat×(List Int)×Int=>(yf a).length - x.1) (0,some ⟨b1,0,none⟩,0,[],0) (show 0≤(yf a).length∧([]).length=0∧0≤0∧0≤1∧yx ([])∧yl ([])+yl ((yf b).take 0)=yl ((yf a).take 0)+yT 0*0 from by exact ⟨by omega,rfl,by decide,by decide,Big.okL_nil,by simp [yl]⟩) ((.c rfl (.e rfl (by first|rfl|(congr 1;omega)|simp_all) (.e rfl (by first|rfl|(congr 1;omega)|simp_all) (.of rfl)))):SubM _ _) (ho:=((.c (i:=0) rfl .n):PickO _ _ _)) ((.of [0,1] rfl):SelR _ _ _) ?_
 rintro ⟨i,p,c,os,bo⟩ hI
 replace hI:i≤(yf a).length∧os.length=i∧0≤bo∧bo≤1∧yx os∧yl os+yl ((yf b).take i)=yl ((yf a).take i)+yT i*bo:=hI
 try dsimp only
 obtain ⟨hi,hol,hc0,hc1,hok,hv⟩:=hI
 have hg1:=yt (yq a) i
 have hg2:=yt (yq b) i
 refine zj<|zj<|zc<|e_mv rfl<|e_mv rfl<|e_p (zfa yh rfl)<|e_p (zO rfl rfl)<|zk<|zg<|zT rfl (fun h2=> ?_) (fun h2=> ?_)
 ·
  refine zw<|zg<|zj<|zt<|zj<|zc<|e_mv rfl<|e_mv rfl<|zU rfl rfl (.c rfl (.c rfl .n)) ce109 (zsb (p:=p1) (n:=(yf a).length) (cap:=c1) (l:=yf a) (i:=i) (hn:=cbb) (hi:=cbb)) (.c (j:=0) rfl .n)<|e_p (zH (z:=(1000000000+(yf a).getD i 0)) rfl rfl (wu64 om))<|e_mv rfl<|e_mv rfl<|zU rfl rfl (.c rfl (.c rfl .n)) ce109 (zsb (p:=p2) (n:=(yf b).length) (cap:=c2) (l:=yf b) (i:=i) (hn:=cbb) (hi:=cbb)) (.c (j:=1) rfl .n)<|e_p (zna (z:=((1000000000+(yf a).getD i 0) - (yf b).getD i 0)) rfl rfl (wu64 om))<|e_mv rfl<|e_p (zna (z:=(((1000000000+(yf a).getD i 0) - (yf b).getD i 0) - bo)) rfl rfl (wu64 om))<|e_p (zh rfl)<|zk<|zg<|zj<|zc<|e_mv rfl<|e_mv rfl<|e_p (znb (z:=((((1000000000+(yf a).getD i 0) - (yf b).getD i 0) - bo)%1000000000)) rfl rfl om (remN om om))<|e_p (zQ (z:=((((1000000000+(yf a).getD i 0) - (yf b).getD i 0) - bo)%1000000000)) rfl (by rw [ym];rfl) yn (wu32 om))<|zDa rfl rfl (zR (enc:=fun z:Int=>[.int .u32 z]) (ok:=InK .u32) (h1:=fun _=>rfl) (h2:=fun _=>rfl) (k:=1) yh inf131 rfl dd dd dd (.c (x:=((((1000000000+(yf a).getD i 0) - (yf b).getD i 0) - bo)%1000000000)) rfl rfl (fun _ _=>by exact zL.2 om) .n)) (fun b3 _=> ?_)
  refine zia 0 rfl .z<|zeb 1 rfl rfl rfl (zVa 0 rfl yh inf131 dd rfl rfl cbs rfl cbs om om) (fun _=>(.s .z)) ?_
  rintro ⟨p4,c5⟩ -
  dsimp only [aq,nq,cq]
  refine e_p (zh rfl)<|zk<|zg<|zc<|e_mv rfl<|e_p (zab (z:=((((1000000000+(yf a).getD i 0) - (yf b).getD i 0) - bo) / 1000000000)) rfl rfl om (by rw [quoN (z:=((((1000000000+(yf a).getD i 0) - (yf b).getD i 0) - bo) / 1000000000)) om om];exact wu64 om))<|e_p (zna (z:=(1 - ((((1000000000+(yf a).getD i 0) - (yf b).getD i 0) - bo) / 1000000000))) rfl rfl (wu64 om))<|e_p (zh rfl)<|zk<|zI<|zg<|zc<|e_mv rfl<|e_p (zH (z:=(((i+1):Nat):Int)) rfl rfl (w64 om))<|e_p (zh rfl)<|zk<|zwa ((i+1),p4,c5,os++[(1000000000+(yf a).getD i 0 - (yf b).getD i 0 - bo)%1000000000],1 - (1000000000+(yf a).getD i 0 - (yf b).getD i 0 - bo) / 1000000000) (show (i+1)≤(yf a).length∧(os++[(1000000000+(yf a).getD i 0 - (yf b).getD i 0 - bo)%1000000000]).length=(i+1)∧0≤(1 - (1000000000+(yf a).getD i 0 - (yf b).getD i 0 - bo) / 1000000000)∧(1 - (1000000000+(yf a).getD i 0 - (yf b).getD i 0 - bo) / 1000000000)≤1∧yx (os++[(1000000000+(yf a).getD i 0 - (yf b).getD i 0 - bo)%1000000000])∧yl (os++[(1000000000+(yf a).getD i 0 - (yf b).getD i 0 - bo)%1000000000])+yl ((yf b).take (i+1))=yl ((yf a).take (i+1))+yT (i+1)*(1 - (1000000000+(yf a).getD i 0 - (yf b).getD i 0 - bo) / 1000000000) from by exact ⟨by omega,by simp [hol],by omega,by omega,Big.okL_snoc hok om om,Big.minus_step hol hv om⟩) (by show (yf a).length - (i+1)<(yf a).length - i;omega) ((.e rfl (by first|rfl|(congr 1;omega)|simp_all) (.e rfl (by simp) (.of rfl))):SubM _ _) (ho:=((.e (i:=1) rfl (by first|rfl|(congr 1;omega)|simp_all) .n):PickO _ _ _)) ((.of [1,2] rfl):SelR _ _ _)
 ·
  have htr:yP os=yf (a - b):=Big.minus_fin hab hok hc0 hol om hv
  have hfin:(yA false (yl os)).natAbs=a - b:=by rw [yX (yI hok)];have:=congrArg yl htr;rw [Big.valL_trim,yE] at this;omega
  refine zla<|zn<|zn<|zA<|zg<|zj<|zc<|e_mv rfl<|zia 0 rfl .z<|zG rfl rfl (.c rfl (.c rfl .n)) ce91 (zcb (s:=false) (p:=p) (n:=os.length) (cap:=c) (l:=os) (hn:=by first|rfl|omega|(simp;done)|(simp;omega)) (ho:=by exact hok) (hln:=by first|rfl|omega|(simp;done)|(simp;omega))) (.c (j:=0) rfl .n) ?_
  rintro ⟨p26,c27⟩ -
  dsimp only [aq,nq,cq]
  refine e_p (zSa yi rfl ty40 rfl rfl)<|e_p (zh rfl)<|zk<|zg<|zS ?_
  exact zM Tryz.results94 (p26,c27) trivial (zC rfl) (by rw [hfin]) (ho:=(.n:PickO _ _ _)) ((.e (j:=0) rfl (by rw [hfin]) .n):SelR _ _ _)
theorem zjd {a:Nat} {b:Nat} {p1:Option Addr} {c1:Nat} {p2:Option Addr} {c2:Nat}:Con yj 93 [.slice p1 ((yf a).length) c1,.slice p2 ((yf b).length) c2] [] [slF (rI .u32) p1 c1 (yf a),slF (rI .u32) p2 c2 (yf b)] (Y:=Unit) (fun y=>True) (fun y=> yc yd (Big.cmp (a:Int) (b:Int))) (fun y=>[]) (fun y=>[]):=by
 refine zv Tryz.func93 rfl rfl rfl (fun c=> ?_)
 show RunC _ _ _ _ _ [(0,.slice p1 ((yf a).length) c1),(1,.slice p2 ((yf b).length) c2)] [] [slF (rI .u32) p1 c1 (yf a),slF (rI .u32) p2 c2 (yf b)]
 refine zqa 0 rfl (fun hL0=> ?_)
 refine zqa 1 rfl (fun hL1=> ?_)
 refine zj<|zc<|e_p (zh rfl)<|zk<|zg<|zj<|zj<|zc<|e_mv rfl<|e_p (zfa yh rfl)<|e_mv rfl<|e_p (zfa yh rfl)<|e_p (zAb rfl rfl)<|zk<|zg<|zT rfl (fun hlen=> ?_) (fun hlen=> ?_)
 ·
  refine zj<|zj<|zc<|e_mv rfl<|e_p (zfa yh rfl)<|e_mv rfl<|e_p (zfa yh rfl)<|e_p (zO rfl rfl)<|zk<|zg<|zT rfl (fun hll=> ?_) (fun hll=> ?_)
  ·
   refine zj<|zc<|e_p (zh rfl)<|zk<|zg<|zS<|zu<|zu ?_
   exact zM yO () trivial (zC rfl) (by rw [← Big.cmp_len om,Big.cmp_lt om]) (ho:=(.n:PickO _ _ _)) (.n:SelR _ _ _)
  ·
   refine zw<|zg<|zj<|zc<|e_p (zh rfl)<|zk<|zg<|zS<|zu ?_
   exact zM yO () trivial (zC rfl) (by rw [← Big.cmp_len om,Big.cmp_gt om]) (ho:=(.n:PickO _ _ _)) (.n:SelR _ _ _)
 ·
  replace hlen:(yf a).length=(yf b).length:=by omega
  refine zw<|zg<|zj<|zj<|zc<|e_mv rfl<|e_p (zfa yh rfl)<|e_p (zna (z:=((((yf a).length:Nat):Int) - 1)) rfl rfl (w64 om))<|e_p (zh rfl)<|zk<|zg<|zt<|zBa (X:=Nat) (fun x:Nat=>x≤(yf a).length∧(yf a).drop x=(yf b).drop x) (fun x=>[(5,yc yd (((x:Nat):Int) - 1)),(0,.slice p1 ((yf a).length) c1),(1,.slice p2 ((yf b).length) c2)]) (fun x=>[]) (fun x=>[slF (rI .u32) p1 c1 (yf a),slF (rI .u32) p2 c2 (yf b)]) (fun x:Nat=>x) ((yf a).length) (show ((yf a).length)≤(yf a).length∧(yf a).drop ((yf a).length)=(yf b).drop ((yf a).length) from by exact ⟨Nat.le_refl _,by rw [List.drop_length,hlen,List.drop_length]⟩) ((.e rfl (by first|rfl|(congr 1;omega)|simp_all) (.c rfl (.c rfl .n))):SubM _ _) (ho:=(.n:PickO _ _ _)) ((.of [0,1] rfl):SelR _ _ _) ?_
  rintro j hI
  replace hI:j≤(yf a).length∧(yf a).drop j=(yf b).drop j:=hI
  try dsimp only
  obtain ⟨hj,hd⟩:=hI
  refine zj<|zj<|zc<|e_mv rfl<|e_p (zob rfl rfl)<|zk<|zg<|zT rfl (fun h1=> ?_) (fun h1=> ?_)
  ·
   obtain ⟨k,rfl⟩:∃k,j=k+1:=⟨j - 1,by omega⟩
   have e2:(((((k+1):Nat):Int) - 1):Int)=((k:Nat):Int):=by omega
   rw [e2]
   refine zw<|zg<|zj<|zt<|zj<|zj<|zP (OW:=[]) (O:=[]) 100000 mixed (.then (.then (.block (.then (.then (.block (.then .ret))))))) kr<|e_dm 0 rfl rfl rfl<|e_dm 1 rfl rfl rfl<|zUa (x0:=((yf a).getD k 0)) 2 rfl rfl kr kr 0 k rfl yh sz131 rfl rfl rfl cbs rfl rfl (gD (d:=0) om) (fun b3 o4 hok5=> ?_)
   replace hok5:=zL.1 hok5
   refine e_u 3 rfl rfl (zB (j:=0) 0 ty131 rfl rfl rfl rfl)<|e_dm 4 rfl rfl rfl<|e_dm 5 rfl rfl rfl<|zUa (x0:=((yf b).getD k 0)) 6 rfl rfl kr kr 2 k rfl yh sz131 rfl rfl rfl cbs rfl rfl (gD (d:=0) om) (fun b6 o7 hok8=> ?_)
   replace hok8:=zL.1 hok8
   refine e_u 7 rfl rfl (zB (j:=0) 0 ty131 rfl rfl rfl rfl)<|e_pv 8 rfl rfl (zO rfl rfl)<|zN kr<|zg<|zT rfl (fun hlt=> ?_) (fun hlt=> ?_)
   ·
    refine zj<|zc<|e_p (zh rfl)<|zk<|zg<|zS<|zu<|zda<|zu<|zu<|zda<|zu ?_
    exact zM yO () trivial (zC rfl) (by rw [← Big.cmp_at hlen om hd om,Big.cmp_lt om]) (ho:=(.n:PickO _ _ _)) (.n:SelR _ _ _)
   ·
    refine zw<|zg<|zj<|zP (OW:=[]) (O:=[]) 100000 mixed (.then (.block (.then (.then (.block (.then .ret)))))) kr<|e_dm 0 rfl rfl rfl<|e_dm 1 rfl rfl rfl<|zUa (x0:=((yf a).getD k 0)) 2 rfl rfl kr kr 2 k rfl yh sz131 rfl rfl rfl cbs rfl rfl (gD (d:=0) om) (fun b9 o10 hok11=> ?_)
    replace hok11:=zL.1 hok11
    refine e_u 3 rfl rfl (zB (j:=0) 0 ty131 rfl rfl rfl rfl)<|e_dm 4 rfl rfl rfl<|e_dm 5 rfl rfl rfl<|zUa (x0:=((yf b).getD k 0)) 6 rfl rfl kr kr 4 k rfl yh sz131 rfl rfl rfl cbs rfl rfl (gD (d:=0) om) (fun b12 o13 hok14=> ?_)
    replace hok14:=zL.1 hok14
    refine e_u 7 rfl rfl (zB (j:=0) 0 ty131 rfl rfl rfl rfl)<|e_pv 8 rfl rfl (zbb rfl rfl)<|zN kr<|zg<|zT rfl (fun hgt=> ?_) (fun hgt=> ?_)
    ·
     refine zj<|zc<|e_p (zh rfl)<|zk<|zg<|zS<|zda<|zu<|zu<|zda<|zu ?_
     exact zM yO () trivial (zC rfl) (by rw [← Big.cmp_at hlen om hd om,Big.cmp_gt om]) (ho:=(.n:PickO _ _ _)) (.n:SelR _ _ _)
    ·
     refine zw<|zI<|zg<|zc<|e_mv rfl<|e_p (zna (z:=(((k:Nat):Int) - 1)) rfl rfl (w64 om))<|e_p (zh rfl)<|zk<|zwa k (show k≤(yf a).length∧(yf a).drop k=(yf b).drop k from by exact ⟨by omega,Big.drop_more om om hd om⟩) (by show k<k+1;omega) ((.of rfl):SubM _ _) (ho:=(.n:PickO _ _ _)) ((.of [4,5] rfl):SelR _ _ _)
  ·
   refine zla<|zn<|zn<|zA<|zg<|zj<|zc<|e_p (zh rfl)<|zk<|zg<|zS ?_
   have hj0:j=0:=by omega
   subst hj0
   have heq:=Big.cmp_eq (show yf a=yf b by simpa using hd)
   exact zM yO () trivial (zC rfl) (by rw [heq] <;> simp [Big.cmp]) (ho:=(.n:PickO _ _ _)) (.n:SelR _ _ _)
theorem zJe {s:Bool} {p:Option Addr} {n:Nat} {cap:Nat} {l:List Int} (hn:l.length=n) (hln:n≤1099511627776):Con yj 88 [.agg #[.bool s,.slice p n cap]] [] [slF (rI .u32) p cap l] (Y:=(Option Addr)×Nat) (fun y=>True) (fun y=> .agg #[.bool (decide ((- yg s l)<0)),.slice (y.1) ((yf ((- yg s l).natAbs)).length) (y.2)]) (fun y=>[]) (fun y=>[slF (rI .u32) (y.1) (y.2) (yf ((- yg s l).natAbs))]):=by
 refine zv Tryz.func88 rfl rfl rfl (fun c=> ?_)
 show RunC _ _ _ _ _ [(0,.agg #[.bool s,.slice p n cap])] [] [slF (rI .u32) p cap l]
 refine zqa 0 rfl (fun hL0=> ?_)
 refine zfb 0 rfl (fun hE0=> ?_)
 have hnn:yK l:=fun g hg=>(zL.1 (hE0 g hg)).1
 have hb:yo (yg s l)≤n:=by have:=yJ (s:=s) hnn;omega
 unfold yo at hb
 refine zj<|zc<|zE rfl rfl (zZ rfl rfl) (fun b1=> ?_)
 refine zE rfl rfl (zo zr42 rfl) (fun b2=> ?_)
 refine zk<|zg<|zj<|zc<|e_ru (zd 1 ty42 rfl rfl (.t2 .nil))<|zG rfl rfl (.c rfl .n) ce90 (zmb (s:=s) (p:=p) (n:=n) (cap:=cap) (l:=l) (hn:=ass) (hln:=ass)) (.c (j:=0) rfl .n) ?_
 rintro ⟨p23,c24⟩ -
 dsimp only [aq,nq,cq]
 refine zl 1 rfl rfl rfl rfl rfl sz42 rfl (.t2 .nil) (.s .z)<|zk<|zg<|zj<|zc<|e_p (zf yi rfl sz4 rfl rfl)<|e_ru (ze 1 ty4 rfl rfl rfl)<|e_p (zhc rfl)<|e_p (zf yi rfl sz40 rfl rfl)<|e_ru (ze 1 ty40 rfl rfl rfl)<|zG rfl rfl (.c rfl (.c rfl .n)) ce91 (zDb (s:= !(decide ((yg s l)<0))) (a:=(yg s l).natAbs) (p:=p23) (cap:=c24) (hln:=cbb)) (.c (j:=0) rfl .n) ?_
 rintro ⟨p25,c26⟩ -
 dsimp only [aq,nq,cq]
 refine zl 0 rfl rfl rfl rfl rfl sz42 rfl (.t2 .nil) .z<|zk<|zg<|zS ?_
 have hz:yA (!decide (yg s l<0)) ((yg s l).natAbs:Int)= - yg s l:=by rw [Big.sg_not,Big.sg_big]
 exact zM Tryz.results88 (p25,c26) trivial (zr 0 ty42 rfl rfl (.t2 .nil)) (by rw [hz]) (ho:=(.n:PickO _ _ _)) ((.e (j:=0) rfl (by rw [hz]) .n):SelR _ _ _)
theorem zsf {z:Int} {p:Option Addr} {cap:Nat} (hln:yo z≤1099511627776):Con yj 88 [.agg #[.bool (decide ((z)<0)),.slice (p) ((yf ((z).natAbs)).length) (cap)]] [] [slF (rI .u32) (p) (cap) (yf ((z).natAbs))] (Y:=(Option Addr)×(Nat)) (fun y=>True) (fun y=> .agg #[.bool (decide ((- z)<0)),.slice (y.1) ((yf ((- z).natAbs)).length) (y.2)]) (fun y=>[]) (fun y=>[slF (rI .u32) (y.1) (y.2) (yf ((- z).natAbs))]):=by
  have h:= @zJe (decide ((z)<0)) p (yf (z).natAbs).length cap (yf (z).natAbs) rfl hln
  rw [yv] at h
  exact h
theorem zje {w1:Wd} {x1:Int} (hln:yo x1≤1099511627776):Con yj 88 [.agg #[w1.b,w1.l]] [] [zF w1 (x1)] (Y:=(Wd)) (fun y=>True) (fun y=> .agg #[y.b,y.l]) (fun y=>[]) (fun y=>[zF y (- x1)]):=by
  exact zkc (zae (fun p c=>zsf hln))
theorem zke {s:Bool} {p:Option Addr} {n:Nat} {cap:Nat} {l:List Int} (hn:l.length=n) (hln:n≤1099511627776):Con yj 66 [.agg #[.bool s,.slice p n cap]] [] [slF (rI .u32) p cap l] (Y:=Unit) (fun y=>True) (fun y=> yc yd ((yg s l).sign)) (fun y=>[]) (fun y=>[]):=by
 refine zv Tryz.func66 rfl rfl rfl (fun c=> ?_)
 show RunC _ _ _ _ _ [(0,.agg #[.bool s,.slice p n cap])] [] [slF (rI .u32) p cap l]
 refine zqa 0 rfl (fun hL0=> ?_)
 refine zfb 0 rfl (fun hE0=> ?_)
 have hnn:yK l:=fun g hg=>(zL.1 (hE0 g hg)).1
 refine zj<|zc<|zE rfl rfl (zZ rfl rfl) (fun b1=> ?_)
 refine e_p (zh rfl)<|zk<|zg<|zj<|zc<|e_ru (zd 0 ty42 rfl rfl (.t2 .nil))<|zG rfl rfl (.c rfl .n) ce90 (zmb (s:=s) (p:=p) (n:=n) (cap:=cap) (l:=l) (hn:=ass) (hln:=ass)) (.c (j:=0) rfl .n) ?_
 rintro ⟨p22,c23⟩ -
 dsimp only [aq,nq,cq]
 refine zl 0 rfl rfl rfl rfl rfl sz42 rfl (.t2 .nil) .z<|zk<|zg<|zj<|zj<|zc<|e_p (zf yi rfl sz40 rfl rfl)<|e_ru (ze 0 ty40 rfl rfl rfl)<|e_p (zfa yh rfl)<|e_p (zOa rfl rfl)<|zk<|zg<|zT rfl (fun h0=> ?_) (fun h0=> ?_)
 ·
  refine zj<|zc<|e_p (zh rfl)<|zk<|zg<|zS<|zu ?_
  exact zM Tryz.results66 () trivial (zC rfl) (by rw [show yg s l=0 by have:=yR.1 (show (yf (yg s l).natAbs).length=0 by omega);omega];rfl) (ho:=(.n:PickO _ _ _)) (.n:SelR _ _ _)
 ·
  refine zw<|zg<|zj<|zj<|zc<|e_p (zf yi rfl sz4 rfl rfl)<|e_ru (ze 0 ty4 rfl rfl rfl)<|zk<|zg<|zPa rfl (fun hs=> ?_) (fun hs=> ?_)
  ·
   refine zj<|zc<|e_p (zh rfl)<|zk<|zg<|zS<|zu ?_
   exact zM Tryz.results66 () trivial (zC rfl) (by rw [Int.sign_eq_neg_one_of_neg (by simpa using hs)]) (ho:=(.n:PickO _ _ _)) (.n:SelR _ _ _)
  ·
   refine zw<|zg<|zj<|zc<|e_p (zh rfl)<|zk<|zg<|zS ?_
   exact zM Tryz.results66 () trivial (zC rfl) (by rw [Int.sign_eq_one_of_pos (by have h2:¬yg s l<0:=(by simpa using hs);have:(yg s l).natAbs≠0:=(fun e=>h0 (by rw [e];rfl));omega)]) (ho:=(.n:PickO _ _ _)) (.n:SelR _ _ _)
theorem zBd {z:Int} {p:Option Addr} {cap:Nat} (hln:yo z≤1099511627776):Con yj 66 [.agg #[.bool (decide ((z)<0)),.slice (p) ((yf ((z).natAbs)).length) (cap)]] [] [slF (rI .u32) (p) (cap) (yf ((z).natAbs))] (Y:=Unit) (fun y=>True) (fun y=> yc yd ((z).sign)) (fun y=>[]) (fun y=>[]):=by
  have h:= @zke (decide ((z)<0)) p (yf (z).natAbs).length cap (yf (z).natAbs) rfl hln
  rw [yv] at h
  exact h
theorem zKc {w1:Wd} {x1:Int} (hln:yo x1≤1099511627776):Con yj 66 [.agg #[w1.b,w1.l]] [] [zF w1 (x1)] (Y:=Unit) (fun y=>True) (fun y=> yc yd ((x1).sign)) (fun y=>[]) (fun y=>[]):=by
  exact zae (fun p c=>zBd hln)
theorem zKe {s:Bool} {p1:Option Addr} {n1:Nat} {c1:Nat} {l1:List Int} {t:Bool} {p2:Option Addr} {n2:Nat} {c2:Nat} {l2:List Int} (hn1:l1.length=n1) (hn2:l2.length=n2) (hm1:n1≤1099511627776) (hm2:n2≤1099511627776):Con yj 59 [.agg #[.bool s,.slice p1 n1 c1],.agg #[.bool t,.slice p2 n2 c2]] [] [slF (rI .u32) p1 c1 l1,slF (rI .u32) p2 c2 l2] (Y:=(Option Addr)×Nat) (fun y=>True) (fun y=> .agg #[.bool (decide ((yg s l1+yg t l2)<0)),.slice (y.1) ((yf ((yg s l1+yg t l2).natAbs)).length) (y.2)]) (fun y=>[]) (fun y=>[slF (rI .u32) (y.1) (y.2) (yf ((yg s l1+yg t l2).natAbs))]):=by
 refine zv Tryz.func59 rfl rfl rfl (fun c=> ?_)
 show RunC _ _ _ _ _ [(0,.agg #[.bool s,.slice p1 n1 c1]),(1,.agg #[.bool t,.slice p2 n2 c2])] [] [slF (rI .u32) p1 c1 l1,slF (rI .u32) p2 c2 l2]
 refine zqa 0 rfl (fun hL0=> ?_)
 refine zfb 0 rfl (fun hE0=> ?_)
 refine zqa 1 rfl (fun hL1=> ?_)
 refine zfb 1 rfl (fun hE1=> ?_)
 have hnn1:yK l1:=fun g hg=>(zL.1 (hE0 g hg)).1
 have hnn2:yK l2:=fun g hg=>(zL.1 (hE1 g hg)).1
 have hb1:yo (yg s l1)≤n1:=by have:=yJ (s:=s) hnn1;omega
 have hb2:yo (yg t l2)≤n2:=by have:=yJ (s:=t) hnn2;omega
 unfold yo at hb1 hb2
 refine zj<|zc<|zE rfl rfl (zZ rfl rfl) (fun b1=> ?_)
 refine zE rfl rfl (zZ rfl rfl) (fun b2=> ?_)
 refine zE rfl rfl (zo zr42 rfl) (fun b3=> ?_)
 refine zk<|zg<|zj<|zaa (.c (i:=2) rfl (.c (i:=1) rfl (.c (i:=0) rfl .n)))<|zP (OW:=[boxA b1 42 [.bool s,.slice p1 n1 c1],boxA b2 42 [.bool t,.slice p2 n2 c2]]) (O:=[boxA b3 42 [wz.b,wz.l]]) 4 mixed (.then .ret) kr<|e_uw 0 rfl rfl (zd 0 ty42 rfl rfl (.t2 .nil))<|e_uw 2 rfl rfl (zd 1 ty42 rfl rfl (.t2 .nil))<|e_one 1 (zm rfl rfl rfl rfl (.c rfl .n) ce90 (zmb (s:=s) (p:=p1) (n:=n1) (cap:=c1) (l:=l1) (hn:=ass) (hln:=ass)) (.c (j:=0) rfl .n) ?_)
 rintro ⟨p24,c25⟩ -
 dsimp only [aq,nq,cq]
 refine e_one 3 (zm rfl rfl rfl rfl (.c rfl .n) ce90 (zmb (s:=t) (p:=p2) (n:=n2) (cap:=c2) (l:=l2) (hn:=ass) (hln:=ass)) (.c (j:=2) rfl .n) ?_)
 rintro ⟨p26,c27⟩ -
 dsimp only [aq,nq,cq]
 refine e_one 4 (zp kr rfl rfl rfl rfl rfl sz42 rfl (.t2 .nil) ?_)
 refine zhb (zoa (i:=1) rfl)<|e_one 5 (zp kr rfl rfl rfl rfl rfl sz42 rfl (.t2 .nil) ?_)
 refine zN kr<|zg<|zj<|zj<|zc<|e_p (zf yi rfl sz4 rfl rfl)<|e_ru (ze 1 ty4 rfl rfl rfl)<|e_p (zf yi rfl sz4 rfl rfl)<|e_ru (ze 0 ty4 rfl rfl rfl)<|e_p (zZc yS rfl rfl)<|zk<|zg<|zT rfl (fun hst=> ?_) (fun hst=> ?_)
 ·
  refine zj<|zaa (.c (i:=2) rfl (.c (i:=0) rfl (.c (i:=0) rfl .n)))<|zP (OW:=[boxA b3 42 [wz.b,wz.l]]) (O:=[boxA b2 42 [.bool (decide ((yg t l2)<0)),.slice p26 ((yf ((yg t l2).natAbs)).length) c27],boxA b1 42 [.bool (decide ((yg s l1)<0)),.slice p24 ((yf ((yg s l1).natAbs)).length) c25]]) 8 mixed (.then (.then .ret)) kr<|e_pv 0 rfl rfl (zf yi rfl sz4 rfl rfl)<|e_uw 1 rfl rfl (ze 2 ty4 rfl rfl rfl)<|e_pv 2 rfl rfl (zf yi rfl sz40 rfl rfl)<|e_uw 3 rfl rfl (ze 2 ty40 rfl rfl rfl)<|e_pv 4 rfl rfl (zf yi rfl sz40 rfl rfl)<|e_uw 5 rfl rfl (ze 1 ty40 rfl rfl rfl)<|e_one 6 (zm rfl rfl rfl rfl (.c rfl (.c rfl .n)) ce92 (zrf (a:=(yg s l1).natAbs) (b:=(yg t l2).natAbs) (p1:=p24) (c1:=c25) (p2:=p26) (c2:=c27) (hb1:=by first|rfl|assumption|omega|(unfold yo;omega)|(simp;done)|(simp;omega)|(simp_all;done)) (hb2:=by first|rfl|assumption|omega|(unfold yo;omega)|(simp;done)|(simp;omega)|(simp_all;done))) (.c (j:=1) rfl (.c (j:=0) rfl .n)) ?_)
  rintro ⟨p38,c39⟩ -
  dsimp only [aq,nq,cq]
  refine e_one 7 (zm rfl rfl rfl rfl (.c rfl (.c rfl .n)) ce91 (zDb (s:=decide ((yg s l1)<0)) (a:=((yg s l1).natAbs)+((yg t l2).natAbs)) (p:=p38) (cap:=c39) (hln:=by have:=Big.len_add (yg s l1).natAbs (yg t l2).natAbs;omega)) (.c (j:=0) rfl .n) ?_)
  rintro ⟨p210,c211⟩ -
  dsimp only [aq,nq,cq]
  refine e_one 8 (zp kr rfl rfl rfl rfl rfl sz42 rfl (.t2 .nil) ?_)
  refine zN kr<|zg<|zS<|zu ?_
  have hz:=Big.add_same hst
  exact zM Tryz.results59 (p210,c211) trivial (zr 0 ty42 rfl rfl (.t2 .nil)) (by rw [hz]) (ho:=(.n:PickO _ _ _)) ((.e (j:=0) rfl (by rw [hz]) .n):SelR _ _ _)
 ·
  refine zw<|zg<|zj<|zj<|zc<|e_p (zf yi rfl sz40 rfl rfl)<|e_ru (ze 1 ty40 rfl rfl rfl)<|e_p (zf yi rfl sz40 rfl rfl)<|e_ru (ze 0 ty40 rfl rfl rfl)<|zU rfl rfl (.c rfl (.c rfl .n)) ce93 (zjd (a:=(yg s l1).natAbs) (b:=(yg t l2).natAbs) (p1:=p24) (c1:=c25) (p2:=p26) (c2:=c27)) (.c (j:=1) rfl (.c (j:=0) rfl .n))<|e_p (zob rfl rfl)<|zk<|zg<|zT rfl (fun hcmp=> ?_) (fun hcmp=> ?_)
  ·
   have hab:(yg t l2).natAbs≤(yg s l1).natAbs:=by have:=yW.1 hcmp;omega
   refine zj<|zaa (.c (i:=2) rfl (.c (i:=0) rfl (.c (i:=0) rfl .n)))<|zP (OW:=[boxA b3 42 [wz.b,wz.l]]) (O:=[boxA b2 42 [.bool (decide ((yg t l2)<0)),.slice p26 ((yf ((yg t l2).natAbs)).length) c27],boxA b1 42 [.bool (decide ((yg s l1)<0)),.slice p24 ((yf ((yg s l1).natAbs)).length) c25]]) 8 mixed (.then (.then .ret)) kr<|e_pv 0 rfl rfl (zf yi rfl sz4 rfl rfl)<|e_uw 1 rfl rfl (ze 2 ty4 rfl rfl rfl)<|e_pv 2 rfl rfl (zf yi rfl sz40 rfl rfl)<|e_uw 3 rfl rfl (ze 2 ty40 rfl rfl rfl)<|e_pv 4 rfl rfl (zf yi rfl sz40 rfl rfl)<|e_uw 5 rfl rfl (ze 1 ty40 rfl rfl rfl)<|e_one 6 (zm rfl rfl rfl rfl (.c rfl (.c rfl .n)) ce94 (zfc (a:=(yg s l1).natAbs) (b:=(yg t l2).natAbs) (p1:=p24) (c1:=c25) (p2:=p26) (c2:=c27) (hb1:=by first|rfl|assumption|omega|(unfold yo;omega)|(simp;done)|(simp;omega)|(simp_all;done)) (hb2:=by first|rfl|assumption|omega|(unfold yo;omega)|(simp;done)|(simp;omega)|(simp_all;done)) (hab:=by first|rfl|assumption|omega|(unfold yo;omega)|(simp;done)|(simp;omega)|(simp_all;done))) (.c (j:=1) rfl (.c (j:=0) rfl .n)) ?_)
   rintro ⟨p312,c313⟩ -
   dsimp only [aq,nq,cq]
   refine e_one 7 (zm rfl rfl rfl rfl (.c rfl (.c rfl .n)) ce91 (zDb (s:=decide ((yg s l1)<0)) (a:=((yg s l1).natAbs) - ((yg t l2).natAbs)) (p:=p312) (cap:=c313) (hln:=by have:=Big.len_sub (yg s l1).natAbs (yg t l2).natAbs;omega)) (.c (j:=0) rfl .n) ?_)
   rintro ⟨p214,c215⟩ -
   dsimp only [aq,nq,cq]
   refine e_one 8 (zp kr rfl rfl rfl rfl rfl sz42 rfl (.t2 .nil) ?_)
   refine zN kr<|zg<|zS<|zu ?_
   have hz:=Big.add_ge hst hab
   exact zM Tryz.results59 (p214,c215) trivial (zr 0 ty42 rfl rfl (.t2 .nil)) (by rw [hz]) (ho:=(.n:PickO _ _ _)) ((.e (j:=0) rfl (by rw [hz]) .n):SelR _ _ _)
  ·
   have hab:(yg s l1).natAbs≤(yg t l2).natAbs:=by have:¬((yg t l2).natAbs:Int)≤(yg s l1).natAbs:=fun h=>hcmp (yW.2 h);omega
   refine zw<|zg<|zj<|zaa (.c (i:=2) rfl (.c (i:=0) rfl (.c (i:=0) rfl .n)))<|zP (OW:=[boxA b3 42 [wz.b,wz.l]]) (O:=[boxA b2 42 [.bool (decide ((yg t l2)<0)),.slice p26 ((yf ((yg t l2).natAbs)).length) c27],boxA b1 42 [.bool (decide ((yg s l1)<0)),.slice p24 ((yf ((yg s l1).natAbs)).length) c25]]) 8 mixed (.then .ret) kr<|e_pv 0 rfl rfl (zf yi rfl sz4 rfl rfl)<|e_uw 1 rfl rfl (ze 1 ty4 rfl rfl rfl)<|e_pv 2 rfl rfl (zf yi rfl sz40 rfl rfl)<|e_uw 3 rfl rfl (ze 1 ty40 rfl rfl rfl)<|e_pv 4 rfl rfl (zf yi rfl sz40 rfl rfl)<|e_uw 5 rfl rfl (ze 2 ty40 rfl rfl rfl)<|e_one 6 (zm rfl rfl rfl rfl (.c rfl (.c rfl .n)) ce94 (zfc (a:=(yg t l2).natAbs) (b:=(yg s l1).natAbs) (p1:=p26) (c1:=c27) (p2:=p24) (c2:=c25) (hb1:=by first|rfl|assumption|omega|(unfold yo;omega)|(simp;done)|(simp;omega)|(simp_all;done)) (hb2:=by first|rfl|assumption|omega|(unfold yo;omega)|(simp;done)|(simp;omega)|(simp_all;done)) (hab:=by first|rfl|assumption|omega|(unfold yo;omega)|(simp;done)|(simp;omega)|(simp_all;done))) (.c (j:=0) rfl (.c (j:=1) rfl .n)) ?_)
   rintro ⟨p316,c317⟩ -
   dsimp only [aq,nq,cq]
   refine e_one 7 (zm rfl rfl rfl rfl (.c rfl (.c rfl .n)) ce91 (zDb (s:=decide ((yg t l2)<0)) (a:=((yg t l2).natAbs) - ((yg s l1).natAbs)) (p:=p316) (cap:=c317) (hln:=by have:=Big.len_sub (yg t l2).natAbs (yg s l1).natAbs;omega)) (.c (j:=0) rfl .n) ?_)
   rintro ⟨p218,c219⟩ -
   dsimp only [aq,nq,cq]
   refine e_one 8 (zp kr rfl rfl rfl rfl rfl sz42 rfl (.t2 .nil) ?_)
   refine zN kr<|zg<|zS ?_
   have hz:=Big.add_lt hst hab
   exact zM Tryz.results59 (p218,c219) trivial (zr 0 ty42 rfl rfl (.t2 .nil)) (by rw [hz]) (ho:=(.n:PickO _ _ _)) ((.e (j:=0) rfl (by rw [hz]) .n):SelR _ _ _)
theorem ztf {x1:Int} {x2:Int} {p1:Option Addr} {c1:Nat} {p2:Option Addr} {c2:Nat} (hb1:yo x1≤1099511627776) (hb2:yo x2≤1099511627776):Con yj 59 [.agg #[.bool (decide ((x1)<0)),.slice (p1) ((yf ((x1).natAbs)).length) (c1)],.agg #[.bool (decide ((x2)<0)),.slice (p2) ((yf ((x2).natAbs)).length) (c2)]] [] [slF (rI .u32) (p1) (c1) (yf ((x1).natAbs)),slF (rI .u32) (p2) (c2) (yf ((x2).natAbs))] (Y:=(Option Addr)×(Nat)) (fun y=>True) (fun y=> .agg #[.bool (decide ((x1+x2)<0)),.slice (y.1) ((yf ((x1+x2).natAbs)).length) (y.2)]) (fun y=>[]) (fun y=>[slF (rI .u32) (y.1) (y.2) (yf ((x1+x2).natAbs))]):=by
  have h:= @zKe (decide ((x1)<0)) p1 (yf (x1).natAbs).length c1 (yf (x1).natAbs) (decide ((x2)<0)) p2 (yf (x2).natAbs).length c2 (yf (x2).natAbs) rfl rfl hb1 hb2
  rw [yv,yv] at h
  exact h
theorem zuf {w1:Wd} {w2:Wd} {x1:Int} {x2:Int} (hb1:yo x1≤1099511627776) (hb2:yo x2≤1099511627776):Con yj 59 [.agg #[w1.b,w1.l],.agg #[w2.b,w2.l]] [] [zF w1 (x1),zF w2 (x2)] (Y:=(Wd)) (fun y=>True) (fun y=> .agg #[y.b,y.l]) (fun y=>[]) (fun y=>[zF y (x1+x2)]):=by
  exact zkc (zvc (fun p1 c1 p2 c2=>ztf hb1 hb2))
theorem zLe {s:Bool} {p1:Option Addr} {n1:Nat} {c1:Nat} {l1:List Int} {t:Bool} {p2:Option Addr} {n2:Nat} {c2:Nat} {l2:List Int} (hn1:l1.length=n1) (hn2:l2.length=n2) (hm1:n1≤1099511627776) (hm2:n2≤1099511627776):Con yj 98 [.agg #[.bool s,.slice p1 n1 c1],.agg #[.bool t,.slice p2 n2 c2]] [] [slF (rI .u32) p1 c1 l1,slF (rI .u32) p2 c2 l2] (Y:=(Option Addr)×Nat) (fun y=>True) (fun y=> .agg #[.bool (decide ((yg s l1 - yg t l2)<0)),.slice (y.1) ((yf ((yg s l1 - yg t l2).natAbs)).length) (y.2)]) (fun y=>[]) (fun y=>[slF (rI .u32) (y.1) (y.2) (yf ((yg s l1 - yg t l2).natAbs))]):=by
 refine zv Tryz.func98 rfl rfl rfl (fun c=> ?_)
 show RunC _ _ _ _ _ [(0,.agg #[.bool s,.slice p1 n1 c1]),(1,.agg #[.bool t,.slice p2 n2 c2])] [] [slF (rI .u32) p1 c1 l1,slF (rI .u32) p2 c2 l2]
 refine zqa 0 rfl (fun hL0=> ?_)
 refine zfb 0 rfl (fun hE0=> ?_)
 refine zqa 1 rfl (fun hL1=> ?_)
 refine zfb 1 rfl (fun hE1=> ?_)
 have hnn1:yK l1:=fun g hg=>(zL.1 (hE0 g hg)).1
 have hnn2:yK l2:=fun g hg=>(zL.1 (hE1 g hg)).1
 have hb1:yo (yg s l1)≤n1:=by have:=yJ (s:=s) hnn1;omega
 have hb2:yo (yg t l2)≤n2:=by have:=yJ (s:=t) hnn2;omega
 unfold yo at hb1 hb2
 refine zj<|zc<|zE rfl rfl (zZ rfl rfl) (fun b1=> ?_)
 refine zE rfl rfl (zZ rfl rfl) (fun b2=> ?_)
 refine zE rfl rfl (zo zr42 rfl) (fun b3=> ?_)
 refine zk<|zg<|zj<|zP (OW:=[boxA b3 42 [wz.b,wz.l]]) (O:=[boxA b2 42 [.bool t,.slice p2 n2 c2],boxA b1 42 [.bool s,.slice p1 n1 c1]]) 4 mixed (.then .ret) kr<|e_uw 0 rfl rfl (zd 2 ty42 rfl rfl (.t2 .nil))<|e_uw 1 rfl rfl (zd 1 ty42 rfl rfl (.t2 .nil))<|e_one 2 (zm rfl rfl rfl rfl (.c rfl .n) ce88 (zJe (s:=t) (p:=p2) (n:=n2) (cap:=c2) (l:=l2) (hn:=ass) (hln:=ass)) (.c (j:=1) rfl .n) ?_)
 rintro ⟨p24,c25⟩ -
 dsimp only [aq,nq,cq]
 refine e_one 3 (zm rfl rfl rfl rfl (.c rfl (.c rfl .n)) ce59 (zKe (s:=s) (p1:=p1) (n1:=n1) (c1:=c1) (l1:=l1) (t:=decide ((- yg t l2)<0)) (p2:=p24) (n2:=(yf ((- yg t l2).natAbs)).length) (c2:=c25) (l2:=yf ((- yg t l2).natAbs)) (hn1:=ass) (hn2:=by first|rfl|assumption|omega|(rw [Int.natAbs_neg];omega)) (hm1:=ass) (hm2:=by first|rfl|assumption|omega|(rw [Int.natAbs_neg];omega))) (.c (j:=1) rfl (.c (j:=0) rfl .n)) ?_)
 rintro ⟨p36,c37⟩ -
 dsimp only [aq,nq,cq]
 refine e_one 4 (zp kr rfl rfl rfl rfl rfl sz42 rfl (.t2 .nil) ?_)
 refine zN kr<|zg<|zS ?_
 have hz:yg s l1+yg (decide ((- yg t l2)<0)) (yf (- yg t l2).natAbs)=yg s l1 - yg t l2:=by rw [yv];omega
 exact zM Tryz.results98 (p36,c37) trivial (zr 0 ty42 rfl rfl (.t2 .nil)) (by rw [hz]) (ho:=(.n:PickO _ _ _)) ((.e (j:=0) rfl (by rw [hz]) .n):SelR _ _ _)
theorem zCc {x1:Int} {x2:Int} {p1:Option Addr} {c1:Nat} {p2:Option Addr} {c2:Nat} (hb1:yo x1≤1099511627776) (hb2:yo x2≤1099511627776):Con yj 98 [.agg #[.bool (decide ((x1)<0)),.slice (p1) ((yf ((x1).natAbs)).length) (c1)],.agg #[.bool (decide ((x2)<0)),.slice (p2) ((yf ((x2).natAbs)).length) (c2)]] [] [slF (rI .u32) (p1) (c1) (yf ((x1).natAbs)),slF (rI .u32) (p2) (c2) (yf ((x2).natAbs))] (Y:=(Option Addr)×(Nat)) (fun y=>True) (fun y=> .agg #[.bool (decide ((x1 - x2)<0)),.slice (y.1) ((yf ((x1 - x2).natAbs)).length) (y.2)]) (fun y=>[]) (fun y=>[slF (rI .u32) (y.1) (y.2) (yf ((x1 - x2).natAbs))]):=by
  have h:= @zLe (decide ((x1)<0)) p1 (yf (x1).natAbs).length c1 (yf (x1).natAbs) (decide ((x2)<0)) p2 (yf (x2).natAbs).length c2 (yf (x2).natAbs) rfl rfl hb1 hb2
  rw [yv,yv] at h
  exact h
theorem zNf {s:Bool} {p1:Option Addr} {n1:Nat} {c1:Nat} {l1:List Int} {t:Bool} {p2:Option Addr} {n2:Nat} {c2:Nat} {l2:List Int} (hn1:l1.length=n1) (hn2:l2.length=n2) (hm1:n1≤1099511627776) (hm2:n2≤1099511627776):Con yj 60 [.agg #[.bool s,.slice p1 n1 c1],.agg #[.bool t,.slice p2 n2 c2]] [] [slF (rI .u32) p1 c1 l1,slF (rI .u32) p2 c2 l2] (Y:=(Option Addr)×Nat) (fun y=>True) (fun y=> .agg #[.bool (decide ((yg s l1*yg t l2)<0)),.slice (y.1) ((yf ((yg s l1*yg t l2).natAbs)).length) (y.2)]) (fun y=>[]) (fun y=>[slF (rI .u32) (y.1) (y.2) (yf ((yg s l1*yg t l2).natAbs))]):=by
 refine zv Tryz.func60 rfl rfl rfl (fun c=> ?_)
 show RunC _ _ _ _ _ [(0,.agg #[.bool s,.slice p1 n1 c1]),(1,.agg #[.bool t,.slice p2 n2 c2])] [] [slF (rI .u32) p1 c1 l1,slF (rI .u32) p2 c2 l2]
 refine zqa 0 rfl (fun hL0=> ?_)
 refine zfb 0 rfl (fun hE0=> ?_)
 refine zqa 1 rfl (fun hL1=> ?_)
 refine zfb 1 rfl (fun hE1=> ?_)
 have hnn1:yK l1:=fun g hg=>(zL.1 (hE0 g hg)).1
 have hnn2:yK l2:=fun g hg=>(zL.1 (hE1 g hg)).1
 have hb1:yo (yg s l1)≤n1:=by have:=yJ (s:=s) hnn1;omega
 have hb2:yo (yg t l2)≤n2:=by have:=yJ (s:=t) hnn2;omega
 unfold yo at hb1 hb2
 have hoa:=yq (yg s l1).natAbs
 have hob:=yq (yg t l2).natAbs
 refine zj<|zc<|zE rfl rfl (zZ rfl rfl) (fun b1=> ?_)
 refine zE rfl rfl (zZ rfl rfl) (fun b2=> ?_)
 refine zE rfl rfl (zo zr42 rfl) (fun b3=> ?_)
 refine zk<|zg<|zj<|zaa (.c (i:=2) rfl (.c (i:=1) rfl (.c (i:=0) rfl .n)))<|zP (OW:=[boxA b1 42 [.bool s,.slice p1 n1 c1],boxA b2 42 [.bool t,.slice p2 n2 c2]]) (O:=[boxA b3 42 [wz.b,wz.l]]) 4 mixed (.then .ret) kr<|e_uw 0 rfl rfl (zd 0 ty42 rfl rfl (.t2 .nil))<|e_uw 2 rfl rfl (zd 1 ty42 rfl rfl (.t2 .nil))<|e_one 1 (zm rfl rfl rfl rfl (.c rfl .n) ce90 (zmb (s:=s) (p:=p1) (n:=n1) (cap:=c1) (l:=l1) (hn:=ass) (hln:=ass)) (.c (j:=0) rfl .n) ?_)
 rintro ⟨p24,c25⟩ -
 dsimp only [aq,nq,cq]
 refine e_one 3 (zm rfl rfl rfl rfl (.c rfl .n) ce90 (zmb (s:=t) (p:=p2) (n:=n2) (cap:=c2) (l:=l2) (hn:=ass) (hln:=ass)) (.c (j:=2) rfl .n) ?_)
 rintro ⟨p26,c27⟩ -
 dsimp only [aq,nq,cq]
 refine e_one 4 (zp kr rfl rfl rfl rfl rfl sz42 rfl (.t2 .nil) ?_)
 refine zhb (zoa (i:=1) rfl)<|e_one 5 (zp kr rfl rfl rfl rfl rfl sz42 rfl (.t2 .nil) ?_)
 refine zN kr<|zg<|zj<|zc<|e_p (zf yi rfl sz40 rfl rfl)<|e_ru (ze 1 ty40 rfl rfl rfl)<|e_p (zfa yh rfl)<|e_p (zf yi rfl sz40 rfl rfl)<|e_ru (ze 0 ty40 rfl rfl rfl)<|e_p (zfa yh rfl)<|e_p (zH (z:=(((((yf ((yg s l1).natAbs)).length)+((yf ((yg t l2).natAbs)).length)):Nat):Int)) rfl rfl (w64 om))<|zDa rfl rfl (zPb (r:=rI .u32) (k:=(((yf ((yg s l1).natAbs)).length)+((yf ((yg t l2).natAbs)).length))) (x0:=0) (γ0:=()) yh inf131 rfl rfl rfl rfl om om rfl (fun _ _=>by exact zL.2 dd) dd) (fun b8 _=> ?_)
 refine e_p (zh rfl)<|zk<|zg<|zj<|zj<|zc<|e_p (zh rfl)<|zk<|zg<|zt<|zBa (X:=Nat×(List Int)) (fun x:Nat×(List Int)=>x.1≤(yf (yg s l1).natAbs).length∧x.2.length=(yf (yg s l1).natAbs).length+(yf (yg t l2).natAbs).length∧yx x.2∧(∀k,x.1+(yf (yg t l2).natAbs).length≤k→x.2.getD k 0=0)∧yl x.2=yl ((yf (yg s l1).natAbs).take x.1)*yl (yf (yg t l2).natAbs)) (fun x=>[(6,yc yd ((x.1:Nat):Int)),(5,.slice (some ⟨b8,0,none⟩) (((yf ((yg s l1).natAbs)).length)+((yf ((yg t l2).natAbs)).length)) (((yf ((yg s l1).natAbs)).length)+((yf ((yg t l2).natAbs)).length))),(4,ye (some ⟨b3,0,none⟩)),(3,ye (some ⟨b2,0,none⟩)),(2,ye (some ⟨b1,0,none⟩))]) (fun x=>[rowA 131 (rI .u32) (some ⟨b8,0,none⟩) (((yf ((yg s l1).natAbs)).length)+((yf ((yg t l2).natAbs)).length)) (x.2),boxA b2 42 [.bool (decide ((yg t l2)<0)),.slice p26 ((yf ((yg t l2).natAbs)).length) c27],boxA b1 42 [.bool (decide ((yg s l1)<0)),.slice p24 ((yf ((yg s l1).natAbs)).length) c25],boxA b3 42 [wz.b,wz.l]]) (fun x=>[slF (rI .u32) p26 c27 (yf ((yg t l2).natAbs)),slF (rI .u32) p24 c25 (yf ((yg s l1).natAbs)),slF (rI .u32) p1 c1 l1,slF (rI .u32) p2 c2 l2]) (fun x:Nat×(List Int)=>(yf (yg s l1).natAbs).length - x.1) (0,List.replicate ((yf (yg s l1).natAbs).length+(yf (yg t l2).natAbs).length) 0) (show 0≤(yf (yg s l1).natAbs).length∧(List.replicate ((yf (yg s l1).natAbs).length+(yf (yg t l2).natAbs).length) 0).length=(yf (yg s l1).natAbs).length+(yf (yg t l2).natAbs).length∧yx (List.replicate ((yf (yg s l1).natAbs).length+(yf (yg t l2).natAbs).length) 0)∧(∀k,0+(yf (yg t l2).natAbs).length≤k→(List.replicate ((yf (yg s l1).natAbs).length+(yf (yg t l2).natAbs).length) 0).getD k 0=0)∧yl (List.replicate ((yf (yg s l1).natAbs).length+(yf (yg t l2).natAbs).length) 0)=yl ((yf (yg s l1).natAbs).take 0)*yl (yf (yg t l2).natAbs) from by exact ⟨by omega,by simp,Big.okL_zeros _,fun k _=>Big.getD_zeros _ k,by simp [Big.valL_zeros,yl]⟩) ((.e rfl (by first|rfl|(congr 1;omega)|simp_all) (.of rfl)):SubM _ _) (ho:=((.e (i:=0) rfl (by first|rfl|(congr 1;omega)|simp_all) (.of [0,0,0] rfl)):PickO _ _ _)) ((.of [0,1,2,3] rfl):SelR _ _ _) ?_
 rintro ⟨i,os⟩ hI
 replace hI:i≤(yf (yg s l1).natAbs).length∧os.length=(yf (yg s l1).natAbs).length+(yf (yg t l2).natAbs).length∧yx os∧(∀k,i+(yf (yg t l2).natAbs).length≤k→os.getD k 0=0)∧yl os=yl ((yf (yg s l1).natAbs).take i)*yl (yf (yg t l2).natAbs):=hI
 try dsimp only
 obtain ⟨hi,hol,hok,hz,hv⟩:=hI
 have hg1:=yt hoa i
 refine zj<|zj<|zc<|e_mv rfl<|e_p (zf yi rfl sz40 rfl rfl)<|e_ru (ze 2 ty40 rfl rfl rfl)<|e_p (zfa yh rfl)<|e_p (zO rfl rfl)<|zk<|zg<|zT rfl (fun h9=> ?_) (fun h9=> ?_)
 ·
  refine zw<|zg<|zj<|zt<|zj<|zc<|e_p (zh rfl)<|zk<|zg<|zj<|zj<|zc<|e_p (zh rfl)<|zk<|zg<|zt<|zBa (X:=Nat×(List Int)×Int) (fun x:Nat×(List Int)×Int=>x.1≤(yf (yg t l2).natAbs).length∧x.2.1.length=(yf (yg s l1).natAbs).length+(yf (yg t l2).natAbs).length∧yx x.2.1∧0≤x.2.2∧x.2.2<1000000000∧(∀k,i+(yf (yg t l2).natAbs).length≤k→x.2.1.getD k 0=0)∧yl x.2.1+yT (i+x.1)*x.2.2=yl ((yf (yg s l1).natAbs).take i)*yl (yf (yg t l2).natAbs)+yT i*(yf (yg s l1).natAbs).getD i 0*yl ((yf (yg t l2).natAbs).take x.1)) (fun x=>[(7,.int .u64 (x.2.2)),(8,yc yd ((x.1:Nat):Int)),(6,yc yd ((i:Nat):Int)),(5,.slice (some ⟨b8,0,none⟩) (((yf ((yg s l1).natAbs)).length)+((yf ((yg t l2).natAbs)).length)) (((yf ((yg s l1).natAbs)).length)+((yf ((yg t l2).natAbs)).length))),(4,ye (some ⟨b3,0,none⟩)),(3,ye (some ⟨b2,0,none⟩)),(2,ye (some ⟨b1,0,none⟩))]) (fun x=>[rowA 131 (rI .u32) (some ⟨b8,0,none⟩) (((yf ((yg s l1).natAbs)).length)+((yf ((yg t l2).natAbs)).length)) (x.2.1),boxA b2 42 [.bool (decide ((yg t l2)<0)),.slice p26 ((yf ((yg t l2).natAbs)).length) c27],boxA b1 42 [.bool (decide ((yg s l1)<0)),.slice p24 ((yf ((yg s l1).natAbs)).length) c25],boxA b3 42 [wz.b,wz.l]]) (fun x=>[slF (rI .u32) p26 c27 (yf ((yg t l2).natAbs)),slF (rI .u32) p24 c25 (yf ((yg s l1).natAbs)),slF (rI .u32) p1 c1 l1,slF (rI .u32) p2 c2 l2]) (fun x:Nat×(List Int)×Int=>(yf (yg t l2).natAbs).length - x.1) (0,os,0) (show 0≤(yf (yg t l2).natAbs).length∧os.length=(yf (yg s l1).natAbs).length+(yf (yg t l2).natAbs).length∧yx os∧0≤0∧0<1000000000∧(∀k,i+(yf (yg t l2).natAbs).length≤k→os.getD k 0=0)∧yl os+yT (i+0)*0=yl ((yf (yg s l1).natAbs).take i)*yl (yf (yg t l2).natAbs)+yT i*(yf (yg s l1).natAbs).getD i 0*yl ((yf (yg t l2).natAbs).take 0) from by exact ⟨by omega,hol,hok,by decide,by decide,hz,by rw [hv];simp [yl]⟩) ((.c rfl (.e rfl (by first|rfl|(congr 1;omega)|simp_all) (.of rfl))):SubM _ _) (ho:=((.of [0,0,0,0] rfl):PickO _ _ _)) ((.of [0,1,2,3] rfl):SelR _ _ _) ?_
  rintro ⟨j,os2,cy⟩ hJ
  replace hJ:j≤(yf (yg t l2).natAbs).length∧os2.length=(yf (yg s l1).natAbs).length+(yf (yg t l2).natAbs).length∧yx os2∧0≤cy∧cy<1000000000∧(∀k,i+(yf (yg t l2).natAbs).length≤k→os2.getD k 0=0)∧yl os2+yT (i+j)*cy=yl ((yf (yg s l1).natAbs).take i)*yl (yf (yg t l2).natAbs)+yT i*(yf (yg s l1).natAbs).getD i 0*yl ((yf (yg t l2).natAbs).take j):=hJ
  try dsimp only
  obtain ⟨hj,hol2,hok2,hcy0,hcy1,hz2,hv2⟩:=hJ
  have hg2:=yt hob j
  have hg3:=yt hok2 (i+j)
  have hpq:=Big.mul_lim hg1 hg2
  refine zj<|zj<|zc<|e_mv rfl<|e_p (zf yi rfl sz40 rfl rfl)<|e_ru (ze 1 ty40 rfl rfl rfl)<|e_p (zfa yh rfl)<|e_p (zO rfl rfl)<|zk<|zg<|zT rfl (fun h10=> ?_) (fun h10=> ?_)
  ·
   refine zw<|zg<|zj<|zt<|zj<|zP (OW:=[]) (O:=[rowA 131 (rI .u32) (some ⟨b8,0,none⟩) (((yf ((yg s l1).natAbs)).length)+((yf ((yg t l2).natAbs)).length)) os2,boxA b2 42 [.bool (decide ((yg t l2)<0)),.slice p26 ((yf ((yg t l2).natAbs)).length) c27],boxA b1 42 [.bool (decide ((yg s l1)<0)),.slice p24 ((yf ((yg s l1).natAbs)).length) c25],boxA b3 42 [wz.b,wz.l]]) 100000 mixed (.then (.block (.then (.then (.block (.then (.block (.then (.then (.block (.then .ret))))))))))) kr<|e_dm 0 rfl rfl rfl<|e_dm 1 rfl rfl rfl<|e_dm 2 rfl rfl rfl<|e_pv 3 rfl rfl (zH (z:=(((i+j):Nat):Int)) rfl rfl (w64 om))<|e_pv 4 rfl rfl (zra (j:=(i+j)) yh sz131 rfl rfl rfl om)<|d_vl 5 rfl rfl kr kr rfl rfl (zGa 0 (i+j) rfl ty131 rfl rfl (gD (d:=0) om) rfl) (fun _ hok11=> ?_)
   replace hok11:=zL.1 hok11
   refine e_pv 6 rfl rfl (zQ (z:=(os2.getD (i+j) 0)) rfl (by rw [yn];rfl) ym (wu64 om))<|e_pv 7 rfl rfl (zf yi rfl sz40 rfl rfl)<|e_u 8 rfl rfl (ze 2 ty40 rfl rfl rfl)<|e_dm 9 rfl rfl rfl<|zUa (x0:=((yf ((yg s l1).natAbs)).getD i 0)) 10 rfl rfl kr kr 1 i rfl yh sz131 rfl rfl rfl (by first|rfl|assumption|(simp;omega)|omega) rfl rfl (gD (d:=0) om) (fun b12 o13 hok14=> ?_)
   replace hok14:=zL.1 hok14
   refine e_u 11 rfl rfl (zB (j:=0) 0 ty131 rfl rfl rfl rfl)<|e_pv 12 rfl rfl (zQ (z:=((yf ((yg s l1).natAbs)).getD i 0)) rfl (by rw [yn];rfl) ym (wu64 om))<|e_pv 13 rfl rfl (zf yi rfl sz40 rfl rfl)<|e_u 14 rfl rfl (ze 1 ty40 rfl rfl rfl)<|e_dm 15 rfl rfl rfl<|zUa (x0:=((yf ((yg t l2).natAbs)).getD j 0)) 16 rfl rfl kr kr 1 j rfl yh sz131 rfl rfl rfl (by first|rfl|assumption|(simp;omega)|omega) rfl rfl (gD (d:=0) om) (fun b15 o16 hok17=> ?_)
   replace hok17:=zL.1 hok17
   refine e_u 17 rfl rfl (zB (j:=0) 0 ty131 rfl rfl rfl rfl)<|e_pv 18 rfl rfl (zQ (z:=((yf ((yg t l2).natAbs)).getD j 0)) rfl (by rw [yn];rfl) ym (wu64 om))<|e_pv 19 rfl rfl (zJa (z:=(((yf ((yg s l1).natAbs)).getD i 0)*((yf ((yg t l2).natAbs)).getD j 0))) rfl rfl (wu64 om))<|e_pv 20 rfl rfl (zH (z:=((os2.getD (i+j) 0)+(((yf ((yg s l1).natAbs)).getD i 0)*((yf ((yg t l2).natAbs)).getD j 0)))) rfl rfl (wu64 om))<|e_dm 21 rfl rfl rfl<|e_pv 22 rfl rfl (zH (z:=(((os2.getD (i+j) 0)+(((yf ((yg s l1).natAbs)).getD i 0)*((yf ((yg t l2).natAbs)).getD j 0)))+cy)) rfl rfl (wu64 om))<|e_pv 23 rfl rfl (zh rfl)<|zN kr<|zg<|zj<|zc<|e_mv rfl<|e_mv rfl<|e_mv rfl<|e_p (zH (z:=(((i+j):Nat):Int)) rfl rfl (w64 om))<|e_mv rfl<|e_p (znb (z:=((((os2.getD (i+j) 0)+(((yf ((yg s l1).natAbs)).getD i 0)*((yf ((yg t l2).natAbs)).getD j 0)))+cy)%1000000000)) rfl rfl om (remN om om))<|e_p (zQ (z:=((((os2.getD (i+j) 0)+(((yf ((yg s l1).natAbs)).getD i 0)*((yf ((yg t l2).natAbs)).getD j 0)))+cy)%1000000000)) rfl (by rw [ym];rfl) yn (wu32 om))<|e_p (zra (j:=(i+j)) yh sz131 rfl rfl rfl om)<|zeb 0 rfl rfl rfl (zma (j:=(i+j)) (x0:=((((os2.getD (i+j) 0)+(((yf ((yg s l1).natAbs)).getD i 0)*((yf ((yg t l2).natAbs)).getD j 0)))+cy)%1000000000)) (γ0:=()) rfl rfl (by first|omega|(rw [List.length_map];omega)|(simp only [List.length_set];omega)|(simp;done)|(simp;omega)) rfl rfl sz131 (fun _ _=>by exact zL.2 om)) (fun _=> .z) (fun _ _=> ?_)
   refine zk<|zg<|zc<|e_mv rfl<|e_p (zab (z:=((((os2.getD (i+j) 0)+(((yf ((yg s l1).natAbs)).getD i 0)*((yf ((yg t l2).natAbs)).getD j 0)))+cy) / 1000000000)) rfl rfl om (by rw [quoN (z:=((((os2.getD (i+j) 0)+(((yf ((yg s l1).natAbs)).getD i 0)*((yf ((yg t l2).natAbs)).getD j 0)))+cy) / 1000000000)) om om];exact wu64 om))<|e_p (zh rfl)<|zk<|zI<|zg<|zc<|e_mv rfl<|e_p (zH (z:=(((j+1):Nat):Int)) rfl rfl (w64 om))<|e_p (zh rfl)<|zk<|zwa ((j+1),os2.set (i+j) ((os2.getD (i+j) 0+(yf (yg s l1).natAbs).getD i 0*(yf (yg t l2).natAbs).getD j 0+cy)%1000000000),(os2.getD (i+j) 0+(yf (yg s l1).natAbs).getD i 0*(yf (yg t l2).natAbs).getD j 0+cy) / 1000000000) (show (j+1)≤(yf (yg t l2).natAbs).length∧(os2.set (i+j) ((os2.getD (i+j) 0+(yf (yg s l1).natAbs).getD i 0*(yf (yg t l2).natAbs).getD j 0+cy)%1000000000)).length=(yf (yg s l1).natAbs).length+(yf (yg t l2).natAbs).length∧yx (os2.set (i+j) ((os2.getD (i+j) 0+(yf (yg s l1).natAbs).getD i 0*(yf (yg t l2).natAbs).getD j 0+cy)%1000000000))∧0≤((os2.getD (i+j) 0+(yf (yg s l1).natAbs).getD i 0*(yf (yg t l2).natAbs).getD j 0+cy) / 1000000000)∧((os2.getD (i+j) 0+(yf (yg s l1).natAbs).getD i 0*(yf (yg t l2).natAbs).getD j 0+cy) / 1000000000)<1000000000∧(∀k,i+(yf (yg t l2).natAbs).length≤k→(os2.set (i+j) ((os2.getD (i+j) 0+(yf (yg s l1).natAbs).getD i 0*(yf (yg t l2).natAbs).getD j 0+cy)%1000000000)).getD k 0=0)∧yl (os2.set (i+j) ((os2.getD (i+j) 0+(yf (yg s l1).natAbs).getD i 0*(yf (yg t l2).natAbs).getD j 0+cy)%1000000000))+yT (i+(j+1))*((os2.getD (i+j) 0+(yf (yg s l1).natAbs).getD i 0*(yf (yg t l2).natAbs).getD j 0+cy) / 1000000000)=yl ((yf (yg s l1).natAbs).take i)*yl (yf (yg t l2).natAbs)+yT i*(yf (yg s l1).natAbs).getD i 0*yl ((yf (yg t l2).natAbs).take (j+1)) from by exact ⟨by omega,by simpa using hol2,Big.okL_set hok2 om om,by omega,by omega,fun k hk=>by rw [Big.getD_set_ne om];exact hz2 k om,Big.mul_step hv2 om om⟩) (by show (yf (yg t l2).natAbs).length - (j+1)<(yf (yg t l2).natAbs).length - j;omega) ((.e rfl (by first|rfl|(congr 1;omega)|simp_all) (.of rfl)):SubM _ _) (ho:=((.e (i:=0) rfl (by first|rfl|(congr 1;omega)|simp_all) (.of [0,0,0] rfl)):PickO _ _ _)) ((.of [2,3,4,5] rfl):SelR _ _ _)
  ·
   have hjb:j=(yf (yg t l2).natAbs).length:=by omega
   subst hjb
   have hv3:=hv2
   refine zla<|zn<|zn<|zA<|zg<|zc<|e_mv rfl<|e_mv rfl<|e_p (zf yi rfl sz40 rfl rfl)<|e_ru (ze 1 ty40 rfl rfl rfl)<|e_p (zfa yh rfl)<|e_p (zH (z:=(((i+((yf ((yg t l2).natAbs)).length)):Nat):Int)) rfl rfl (w64 om))<|e_mv rfl<|e_p (zQ (z:=cy) rfl (by rw [ym];rfl) yn (wu32 om))<|e_p (zra (j:=(i+((yf ((yg t l2).natAbs)).length))) yh sz131 rfl rfl rfl om)<|zeb 0 rfl rfl rfl (zma (j:=(i+((yf ((yg t l2).natAbs)).length))) (x0:=cy) (γ0:=()) rfl rfl (by first|omega|(rw [List.length_map];omega)|(simp only [List.length_set];omega)|(simp;done)|(simp;omega)) rfl rfl sz131 (fun _ _=>by exact zL.2 om)) (fun _=> .z) (fun _ _=> ?_)
   refine zk<|zI<|zg<|zc<|e_mv rfl<|e_p (zH (z:=(((i+1):Nat):Int)) rfl rfl (w64 om))<|e_p (zh rfl)<|zk<|zwa ((i+1),os2.set (i+(yf (yg t l2).natAbs).length) cy) (show (i+1)≤(yf (yg s l1).natAbs).length∧(os2.set (i+(yf (yg t l2).natAbs).length) cy).length=(yf (yg s l1).natAbs).length+(yf (yg t l2).natAbs).length∧yx (os2.set (i+(yf (yg t l2).natAbs).length) cy)∧(∀k,(i+1)+(yf (yg t l2).natAbs).length≤k→(os2.set (i+(yf (yg t l2).natAbs).length) cy).getD k 0=0)∧yl (os2.set (i+(yf (yg t l2).natAbs).length) cy)=yl ((yf (yg s l1).natAbs).take (i+1))*yl (yf (yg t l2).natAbs) from by exact ⟨by omega,by simpa using hol2,Big.okL_set hok2 om om,fun k hk=>by rw [Big.getD_set_ne om];exact hz2 k om,Big.mul_round hv3 om (hz2 _ (Nat.le_refl _))⟩) (by show (yf (yg s l1).natAbs).length - (i+1)<(yf (yg s l1).natAbs).length - i;omega) ((.of rfl):SubM _ _) (ho:=((.e (i:=0) rfl (by first|rfl|(congr 1;omega)|simp_all) (.of [0,0,0] rfl)):PickO _ _ _)) ((.of [0,1,2,3] rfl):SelR _ _ _)
 ·
  have hia:i=(yf (yg s l1).natAbs).length:=by omega
  have hfin:yA (decide (decide (yg s l1<0)≠decide (yg t l2<0))) (yl os)=yg s l1*yg t l2:=by rw [hv,hia,List.take_length,yE,yE,←Int.natCast_mul,Big.sg_mul,Big.sg_big,Big.sg_big]
  refine zla<|zn<|zn<|zA<|zg<|zj<|zc<|e_p (zf yi rfl sz4 rfl rfl)<|e_ru (ze 2 ty4 rfl rfl rfl)<|e_p (zf yi rfl sz4 rfl rfl)<|e_ru (ze 1 ty4 rfl rfl rfl)<|e_p (zgb yS rfl rfl)<|e_mv rfl<|zia 0 rfl .z<|zG rfl rfl (.c rfl (.c rfl .n)) ce91 (zcb (s:=decide (decide ((yg s l1)<0)≠decide ((yg t l2)<0))) (p:=some ⟨b8,0,none⟩) (n:=(((yf ((yg s l1).natAbs)).length)+((yf ((yg t l2).natAbs)).length))) (cap:=(((yf ((yg s l1).natAbs)).length)+((yf ((yg t l2).natAbs)).length))) (l:=os) (hn:=by first|rfl|assumption|omega|(unfold yo;omega)|(simp;done)|(simp;omega)|(simp_all;done)) (ho:=by exact hok) (hln:=by first|rfl|assumption|omega|(unfold yo;omega)|(simp;done)|(simp;omega)|(simp_all;done))) (.c (j:=0) rfl .n) ?_
  rintro ⟨p218,c219⟩ -
  dsimp only [aq,nq,cq]
  refine zl 3 rfl rfl rfl rfl rfl sz42 rfl (.t2 .nil) (.s (.s (.s .z)))<|zk<|zg<|zS ?_
  exact zM Tryz.results60 (p218,c219) trivial (zr 3 ty42 rfl rfl (.t2 .nil)) (by rw [hfin]) (ho:=(.n:PickO _ _ _)) ((.e (j:=0) rfl (by rw [hfin]) .n):SelR _ _ _)
theorem zDc {x1:Int} {x2:Int} {p1:Option Addr} {c1:Nat} {p2:Option Addr} {c2:Nat} (hb1:yo x1≤1099511627776) (hb2:yo x2≤1099511627776):Con yj 60 [.agg #[.bool (decide ((x1)<0)),.slice (p1) ((yf ((x1).natAbs)).length) (c1)],.agg #[.bool (decide ((x2)<0)),.slice (p2) ((yf ((x2).natAbs)).length) (c2)]] [] [slF (rI .u32) (p1) (c1) (yf ((x1).natAbs)),slF (rI .u32) (p2) (c2) (yf ((x2).natAbs))] (Y:=(Option Addr)×(Nat)) (fun y=>True) (fun y=> .agg #[.bool (decide ((x1*x2)<0)),.slice (y.1) ((yf ((x1*x2).natAbs)).length) (y.2)]) (fun y=>[]) (fun y=>[slF (rI .u32) (y.1) (y.2) (yf ((x1*x2).natAbs))]):=by
  have h:= @zNf (decide ((x1)<0)) p1 (yf (x1).natAbs).length c1 (yf (x1).natAbs) (decide ((x2)<0)) p2 (yf (x2).natAbs).length c2 (yf (x2).natAbs) rfl rfl hb1 hb2
  rw [yv,yv] at h
  exact h
theorem zFb {w1:Wd} {w2:Wd} {x1:Int} {x2:Int} (hb1:yo x1≤1099511627776) (hb2:yo x2≤1099511627776):Con yj 60 [.agg #[w1.b,w1.l],.agg #[w2.b,w2.l]] [] [zF w1 (x1),zF w2 (x2)] (Y:=(Wd)) (fun y=>True) (fun y=> .agg #[y.b,y.l]) (fun y=>[]) (fun y=>[zF y (x1*x2)]):=by
  exact zkc (zvc (fun p1 c1 p2 c2=>zDc hb1 hb2))
end Go.Proofs.YtjeahiahjgifgaaGreatDoor.Sp
namespace Go.Proofs.YtjeahiahjgifgaaGreatDoor.Sp
open Go
set_option linter.unusedVariables false
set_option maxRecDepth 100000
set_option maxHeartbeats 8000000
theorem zpc {a:Nat} {d:Nat} {p0:Option Addr} {cap:Nat} (hb:(yf a).length≤1099511627776) (hd:d<1000000000):Con yj 114 [.slice p0 ((yf a).length) cap,.int .u64 ((d:Nat):Int)] [] [slF (rI .u32) p0 cap (yf a)] (Y:=(Option Addr)×Nat) (fun y=>True) (fun y=> .slice (y.1) ((yf (a*d)).length) (y.2)) (fun y=>[]) (fun y=>[slF (rI .u32) (y.1) (y.2) (yf (a*d))]):=by
 refine zv Tryz.func114 rfl rfl rfl (fun c=> ?_)
 show RunC _ _ _ _ _ [(0,.slice p0 ((yf a).length) cap),(1,.int .u64 ((d:Nat):Int))] [] [slF (rI .u32) p0 cap (yf a)]
 refine zqa 0 rfl (fun hL0=> ?_)
 refine zj<|zc<|e_p (zh rfl)<|zk<|zg<|zj<|zc<|zDa rfl rfl (zHa (rI .u32) yh inf131) (fun b1 _=> ?_)
 refine e_p (zh rfl)<|zk<|zg<|zj<|zc<|e_p (zh rfl)<|zk<|zg<|zj<|zj<|zc<|e_p (zh rfl)<|zk<|zg<|zt<|zBa (X:=Nat×(Option Addr)×Nat×(List Int)×Int) (fun x:Nat×(Option Addr)×Nat×(List Int)×Int=>Big.ScI (yf a) (d:Int) x.1 x.2.2.2.1 x.2.2.2.2) (fun x=>[(6,.int .u64 (x.2.2.2.2)),(5,.slice (x.2.1) (x.2.2.2.1.length) (x.2.2.1)),(7,yc yd ((x.1:Nat):Int)),(4,.slice none 0 0),(0,.slice p0 ((yf a).length) cap),(1,.int .u64 ((d:Nat):Int))]) (fun x=>[rowA 131 (rI .u32) (x.2.1) (x.2.2.1) (x.2.2.2.1)]) (fun x=>[slF (rI .u32) p0 cap (yf a)]) (fun x:Nat×(Option Addr)×Nat×(List Int)×Int=>(yf a).length - x.1) (0,some ⟨b1,0,none⟩,0,[],0) (show Big.ScI (yf a) (d:Int) 0 ([]) 0 from by exact Big.ScI.start _ _) ((.c rfl (.e rfl (by first|rfl|(congr 1;omega)|simp_all) (.e rfl (by first|rfl|(congr 1;omega)|simp_all) (.of rfl)))):SubM _ _) (ho:=((.c (i:=0) rfl .n):PickO _ _ _)) ((.c (j:=0) rfl .n):SelR _ _ _) ?_
 rintro ⟨i,p,c,os,cy⟩ hI
 replace hI:Big.ScI (yf a) (d:Int) i os cy:=hI
 try dsimp only
 have hi:=hI.le
 have hol:=hI.len
 have hc0:=hI.c0
 have hc1:=hI.c1
 have hg:=yt (yq a) i
 have hsl:=Big.sc_lim hg (show 0≤(d:Int)∧(d:Int)<1000000000 by omega) ⟨hc0,hc1⟩
 refine zj<|zj<|zc<|e_mv rfl<|e_mv rfl<|e_p (zfa yh rfl)<|e_p (zO rfl rfl)<|zk<|zg<|zT rfl (fun h2=> ?_) (fun h2=> ?_)
 ·
  refine zw<|zg<|zj<|zt<|zj<|zc<|e_mv rfl<|e_mv rfl<|zW (x0:=((yf a).getD i 0)) 0 i rfl yh sz131 rfl rfl rfl (by first|rfl|assumption|(simp;done)|(simp;omega)|omega) rfl rfl (gD (d:=0) om) (fun b3 o4 hok5=> ?_)
  replace hok5:=zL.1 hok5
  refine e_ru (zB (j:=0) 0 ty131 rfl rfl rfl rfl)<|e_p (zQ (z:=((yf a).getD i 0)) rfl (by rw [yn];rfl) ym (wu64 om))<|e_mv rfl<|e_p (zJa (z:=(((yf a).getD i 0)*((d:Nat):Int))) rfl rfl (wu64 om))<|e_mv rfl<|e_p (zH (z:=((((yf a).getD i 0)*((d:Nat):Int))+cy)) rfl rfl (wu64 om))<|e_p (zh rfl)<|zk<|zg<|zj<|zc<|e_mv rfl<|e_mv rfl<|e_p (znb (z:=(((((yf a).getD i 0)*((d:Nat):Int))+cy)%1000000000)) rfl rfl om (remN om om))<|e_p (zQ (z:=(((((yf a).getD i 0)*((d:Nat):Int))+cy)%1000000000)) rfl (by rw [ym];rfl) yn (wu32 om))<|zDa rfl rfl (zR (enc:=fun z:Int=>[.int .u32 z]) (ok:=InK .u32) (h1:=fun _=>rfl) (h2:=fun _=>rfl) (k:=1) yh inf131 rfl dd dd dd (.c (x:=(((((yf a).getD i 0)*((d:Nat):Int))+cy)%1000000000)) rfl rfl (fun _ _=>by exact zL.2 om) .n)) (fun b6 _=> ?_)
  refine zia 0 rfl .z<|zeb 1 rfl rfl rfl (zVa 0 rfl yh inf131 dd rfl rfl (by first|rfl|assumption|(simp;done)|(simp;omega)|omega) rfl (by first|rfl|assumption|(simp;done)|(simp;omega)|omega) om om) (fun _=>(.s .z)) ?_
  rintro ⟨p7,c8⟩ -
  dsimp only [aq,nq,cq]
  refine e_p (zh rfl)<|zk<|zg<|zc<|e_mv rfl<|e_p (zab (z:=(((((yf a).getD i 0)*((d:Nat):Int))+cy) / 1000000000)) rfl rfl om (by rw [quoN (z:=(((((yf a).getD i 0)*((d:Nat):Int))+cy) / 1000000000)) om om];exact wu64 om))<|e_p (zh rfl)<|zk<|zI<|zg<|zc<|e_mv rfl<|e_p (zH (z:=(((i+1):Nat):Int)) rfl rfl (w64 om))<|e_p (zh rfl)<|zk<|zwa ((i+1),p7,c8,os++[((yf a).getD i 0*(d:Int)+cy)%1000000000],((yf a).getD i 0*(d:Int)+cy) / 1000000000) (show Big.ScI (yf a) (d:Int) (i+1) (os++[((yf a).getD i 0*(d:Int)+cy)%1000000000]) (((yf a).getD i 0*(d:Int)+cy) / 1000000000) from by exact hI.step (yq a) om om) (by show (yf a).length - (i+1)<(yf a).length - i;omega) ((.e rfl (by first|rfl|(congr 1;omega)|simp_all) (.e rfl (by simp) (.of rfl))):SubM _ _) (ho:=((.e (i:=1) rfl (by first|rfl|(congr 1;omega)|simp_all) .n):PickO _ _ _)) ((.c (j:=2) rfl .n):SelR _ _ _)
 ·
  obtain ⟨hok2,hfin⟩:=hI.fin om
  refine zla<|zn<|zn<|zA<|zg<|zj<|zc<|e_mv rfl<|e_mv rfl<|e_p (zQ (z:=cy) rfl (by rw [ym];rfl) yn (wu32 om))<|zDa rfl rfl (zR (enc:=fun z:Int=>[.int .u32 z]) (ok:=InK .u32) (h1:=fun _=>rfl) (h2:=fun _=>rfl) (k:=1) yh inf131 rfl dd dd dd (.c (x:=cy) rfl rfl (fun _ _=>by exact zL.2 om) .n)) (fun b9 _=> ?_)
  refine zia 0 rfl .z<|zeb 1 rfl rfl rfl (zVa 0 rfl yh inf131 dd rfl rfl (by first|rfl|assumption|(simp;done)|(simp;omega)|omega) rfl (by first|rfl|assumption|(simp;done)|(simp;omega)|omega) om om) (fun _=>(.s .z)) ?_
  rintro ⟨p10,c11⟩ -
  dsimp only [aq,nq,cq]
  refine zia 1 rfl (.s .z)<|zG rfl rfl (.c rfl (.c rfl .n)) ce91 (zcb (s:=false) (p:=p10) (n:=os.length+1) (cap:=c11) (l:=(os++([cy]))) (hn:=by first|rfl|omega|(simp;done)|(simp;omega)) (ho:=by exact hok2) (hln:=by first|rfl|omega|(simp;done)|(simp;omega))) (.c (j:=0) rfl .n) ?_
  rintro ⟨p212,c213⟩ -
  dsimp only [aq,nq,cq]
  refine e_p (zSa yi rfl ty40 rfl rfl)<|e_p (zh rfl)<|zk<|zg<|zS ?_
  have hz:(yA false (yl (os++[cy]))).natAbs=a*d:=by rw [hfin];exact Int.natAbs_natCast _
  exact zM Tryz.results114 (p212,c213) trivial (zC rfl) (by rw [hz]) (ho:=(.n:PickO _ _ _)) ((.e (j:=0) rfl (by rw [hz]) .n):SelR _ _ _)
theorem zle {a:Nat} {d:Nat} {p0:Option Addr} {cap:Nat} (hb:(yf a).length≤1099511627776) (hd:d<1000000000):Con yj 115 [.slice p0 ((yf a).length) cap,.int .u32 ((d:Nat):Int)] [] [slF (rI .u32) p0 cap (yf a)] (Y:=(Option Addr)×Nat) (fun y=>True) (fun y=> .slice (y.1) ((yf (a*1000000000+d)).length) (y.2)) (fun y=>[]) (fun y=>[slF (rI .u32) (y.1) (y.2) (yf (a*1000000000+d))]):=by
 refine zv Tryz.func115 rfl rfl rfl (fun c=> ?_)
 show RunC _ _ _ _ _ [(0,.slice p0 ((yf a).length) cap),(1,.int .u32 ((d:Nat):Int))] [] [slF (rI .u32) p0 cap (yf a)]
 refine zqa 0 rfl (fun hL0=> ?_)
 have hok2:yx ([((d:Nat):Int)]++yf a):=Big.okL_cons.2 ⟨by omega,yq a⟩
 have hz:(yA false (yl (((d:Nat):Int) :: yf a))).natAbs=a*1000000000+d:=by rw [yX (yI (l:=((d:Nat):Int) :: yf a) hok2)];simp only [yl,yE];omega
 refine zj<|zc<|e_p (zh rfl)<|zk<|zg<|zj<|zc<|e_mv rfl<|zDa rfl rfl (zR (enc:=fun z:Int=>[.int .u32 z]) (ok:=InK .u32) (h1:=fun _=>rfl) (h2:=fun _=>rfl) (k:=1) yh inf131 rfl dd dd dd (.c (x:=((d:Nat):Int)) rfl rfl (fun _ _=>by exact zL.2 om) .n)) (fun b1 _=> ?_)
 refine e_mv rfl<|zeb 0 rfl rfl rfl (zVa 0 rfl yh inf131 dd rfl rfl (by first|rfl|assumption|(simp;done)|(simp;omega)|omega) rfl (by first|rfl|assumption|(simp;done)|(simp;omega)|omega) om om) (fun _=> .z) ?_
 rintro ⟨p2,c3⟩ -
 dsimp only [aq,nq,cq]
 refine zia 0 rfl .z<|zG rfl rfl (.c rfl (.c rfl .n)) ce91 (zcb (s:=false) (p:=p2) (n:=1+((yf a).length)) (cap:=c3) (l:=(([((d:Nat):Int)])++(yf a))) (hn:=by first|rfl|omega|(simp;done)|(simp;omega)) (ho:=by exact hok2) (hln:=by first|rfl|omega|(simp;done)|(simp;omega))) (.c (j:=0) rfl .n) ?_
 rintro ⟨p24,c25⟩ -
 dsimp only [aq,nq,cq]
 refine e_p (zSa yi rfl ty40 rfl rfl)<|e_p (zh rfl)<|zk<|zg<|zS ?_
 exact zM Tryz.results115 (p24,c25) trivial (zC rfl) (by rw [hz]) (ho:=(.n:PickO _ _ _)) ((.e (j:=0) rfl (by rw [hz]) .n):SelR _ _ _)
theorem zCd {a:Nat} {mm:Nat} {p:Option Addr} {cap:Nat} (hb:(yf a).length≤1099511627776) (hm0:0<mm) (hm1:mm≤1000000000):Con yj 113 [.slice p ((yf a).length) cap,.int .u64 ((mm:Nat):Int)] [] [slF (rI .u32) p cap (yf a)] (Y:=(Option Addr)×Nat) (fun y=>True) (fun y=> .tuple #[.slice (y.1) ((yf (a / mm)).length) (y.2),.int .u64 (((a%mm):Nat):Int)]) (fun y=>[]) (fun y=>[slF (rI .u32) (y.1) (y.2) (yf (a / mm))]):=by
 refine zv Tryz.func113 rfl rfl rfl (fun c=> ?_)
 show RunC _ _ _ _ _ [(0,.slice p ((yf a).length) cap),(1,.int .u64 ((mm:Nat):Int))] [] [slF (rI .u32) p cap (yf a)]
 refine zqa 0 rfl (fun hL0=> ?_)
 refine zj<|zc<|e_p (zh rfl)<|e_p (zh rfl)<|zk<|zg<|zj<|zc<|e_mv rfl<|e_p (zfa yh rfl)<|zDa rfl rfl (zPb (r:=rI .u32) (k:=(yf a).length) (x0:=0) (γ0:=()) yh inf131 rfl rfl rfl rfl om om rfl (fun _ _=>by exact zL.2 dd) dd) (fun b1 _=> ?_)
 refine e_p (zh rfl)<|zk<|zg<|zj<|zc<|e_p (zh rfl)<|zk<|zg<|zj<|zj<|zc<|e_mv rfl<|e_p (zfa yh rfl)<|e_p (zna (z:=((((yf a).length:Nat):Int) - 1)) rfl rfl (w64 om))<|e_p (zh rfl)<|zk<|zg<|zt<|zBa (X:=Nat×(List Int)×(List Int)×Int) (fun x:Nat×(List Int)×(List Int)×Int=>x.2.1=List.replicate x.1 0++x.2.2.1∧Big.ShI (yf a) (mm:Int) x.1 x.2.2.1 x.2.2.2) (fun x=>[(7,.int .u64 (x.2.2.2)),(8,yc yd (((x.1:Nat):Int) - 1)),(6,.slice (some ⟨b1,0,none⟩) ((yf a).length) ((yf a).length)),(5,.int .u64 0),(4,.slice none 0 0),(0,.slice p ((yf a).length) cap),(1,.int .u64 ((mm:Nat):Int))]) (fun x=>[rowA 131 (rI .u32) (some ⟨b1,0,none⟩) ((yf a).length) (x.2.1)]) (fun x=>[slF (rI .u32) p cap (yf a)]) (fun x:Nat×(List Int)×(List Int)×Int=>x.1) ((yf a).length,(List.replicate (yf a).length 0),([]:List Int),(0:Int)) (show (List.replicate (yf a).length 0)=List.replicate ((yf a).length) 0++([]:List Int)∧Big.ShI (yf a) (mm:Int) ((yf a).length) ([]:List Int) (0:Int) from by exact ⟨by simp,Big.ShI.start om⟩) ((.e rfl (by first|rfl|(congr 1;omega)|simp_all) (.e rfl (by first|rfl|(congr 1;omega)|simp_all) (.of rfl))):SubM _ _) (ho:=((.e (i:=0) rfl (by first|rfl|(congr 1;omega)|simp_all) .n):PickO _ _ _)) ((.c (j:=0) rfl .n):SelR _ _ _) ?_
 rintro ⟨jj,os,qs,z⟩ hI
 replace hI:os=List.replicate jj 0++qs∧Big.ShI (yf a) (mm:Int) jj qs z:=hI
 try dsimp only
 obtain ⟨hos,hS⟩:=hI
 have hz0:=hS.r0
 have hz1:=hS.r1
 have hkle:=hS.le
 refine zj<|zj<|zc<|e_mv rfl<|e_p (zob rfl rfl)<|zk<|zg<|zT rfl (fun h2=> ?_) (fun h2=> ?_)
 ·
  obtain ⟨k,rfl⟩:∃k,jj=k+1:=⟨jj - 1,by omega⟩
  have e3:(((((k+1):Nat):Int) - 1):Int)=((k:Nat):Int):=by omega
  rw [e3]
  have hosl:os.length=(yf a).length:=by rw [hos,List.length_append,List.length_replicate,hS.len];omega
  have hg:=yt (yq a) k
  have hdg:=Big.sh_digit hz0 hz1 hg
  have hrm:=Int.emod_lt_of_pos (z*1000000000+(yf a).getD k 0) (show 0<(mm:Int) by omega)
  have hrm0:=Int.emod_nonneg (z*1000000000+(yf a).getD k 0) (show (mm:Int)≠0 by omega)
  refine zw<|zg<|zj<|zt<|zj<|zc<|e_mv rfl<|e_p (zJa (z:=(z*1000000000)) rfl rfl (wu64 om))<|e_mv rfl<|e_mv rfl<|zW (x0:=((yf a).getD k 0)) 0 k rfl yh sz131 rfl rfl rfl (by first|rfl|assumption|(simp;done)|(simp;omega)|omega) rfl rfl (gD (d:=0) om) (fun b4 o5 hok6=> ?_)
  replace hok6:=zL.1 hok6
  refine e_ru (zB (j:=0) 0 ty131 rfl rfl rfl rfl)<|e_p (zQ (z:=((yf a).getD k 0)) rfl (by rw [yn];rfl) ym (wu64 om))<|e_p (zH (z:=((z*1000000000)+((yf a).getD k 0))) rfl rfl (wu64 om))<|e_p (zh rfl)<|zk<|zg<|zj<|zc<|e_mv rfl<|e_mv rfl<|e_mv rfl<|e_mv rfl<|e_p (zab (z:=(((z*1000000000)+((yf a).getD k 0)) / ((mm:Nat):Int))) rfl rfl om (by rw [quoN (z:=(((z*1000000000)+((yf a).getD k 0)) / ((mm:Nat):Int))) om om];exact wu64 om))<|e_p (zQ (z:=(((z*1000000000)+((yf a).getD k 0)) / ((mm:Nat):Int))) rfl (by rw [ym];rfl) yn (wu32 om))<|e_p (zra (j:=k) yh sz131 rfl rfl rfl om)<|zeb 0 rfl rfl rfl (zma (j:=k) (x0:=(((z*1000000000)+((yf a).getD k 0)) / ((mm:Nat):Int))) (γ0:=()) rfl rfl (by first|omega|(rw [List.length_map];omega)|(simp only [List.length_set];omega)|(simp;done)|(simp;omega)) rfl rfl sz131 (fun _ _=>by exact zL.2 om)) (fun _=> .z) (fun _ _=> ?_)
  refine zk<|zg<|zc<|e_mv rfl<|e_mv rfl<|e_p (znb (z:=(((z*1000000000)+((yf a).getD k 0))%((mm:Nat):Int))) rfl rfl om (remN om om))<|e_p (zh rfl)<|zk<|zI<|zg<|zc<|e_mv rfl<|e_p (zna (z:=(((k:Nat):Int) - 1)) rfl rfl (w64 om))<|e_p (zh rfl)<|zk<|zwa (k,(os.set k (((z*1000000000)+((yf a).getD k 0)) / ((mm:Nat):Int))),((z*1000000000+(yf a).getD k 0) / (mm:Int) :: qs),((z*1000000000+(yf a).getD k 0)%(mm:Int))) (show (os.set k (((z*1000000000)+((yf a).getD k 0)) / ((mm:Nat):Int)))=List.replicate k 0++((z*1000000000+(yf a).getD k 0) / (mm:Int) :: qs)∧Big.ShI (yf a) (mm:Int) k ((z*1000000000+(yf a).getD k 0) / (mm:Int) :: qs) ((z*1000000000+(yf a).getD k 0)%(mm:Int)) from by exact ⟨by rw [hos];exact Big.pad_set _,hS.step (yq a)⟩) (by show k<k+1;omega) ((.e rfl (by first|rfl|(congr 1;omega)|simp_all) (.of rfl)):SubM _ _) (ho:=((.c (i:=0) rfl .n):PickO _ _ _)) ((.c (j:=1) rfl .n):SelR _ _ _)
 ·
  have hj0:jj=0:=by omega
  have hS0:Big.ShI (yf a) (mm:Int) 0 qs z:=hj0 ▸ hS
  obtain ⟨hf1,hf2⟩:=hS0.fin
  have hoq:os=qs:=by rw [hos,hj0];rfl
  have hok2:yx os:=by rw [hoq];exact hS.ok
  have hosl:os.length=(yf a).length:=by rw [hoq,hS0.len];omega
  have hz9:(yA false (yl os)).natAbs=a / mm:=by rw [hoq,yX (yI hS.ok),←Big.valL_trim,hf1,yE];exact Int.toNat_natCast _
  refine zla<|zn<|zn<|zA<|zg<|zj<|zc<|e_mv rfl<|zia 0 rfl .z<|zG rfl rfl (.c rfl (.c rfl .n)) ce91 (zcb (s:=false) (p:=some ⟨b1,0,none⟩) (n:=(yf a).length) (cap:=(yf a).length) (l:=os) (hn:=by first|rfl|omega|(simp;done)|(simp;omega)) (ho:=by exact hok2) (hln:=by first|rfl|omega|(simp;done)|(simp;omega))) (.c (j:=0) rfl .n) ?_
  rintro ⟨p27,c28⟩ -
  dsimp only [aq,nq,cq]
  refine e_p (zSa yi rfl ty40 rfl rfl)<|e_mv rfl<|e_p (zh rfl)<|e_p (zh rfl)<|zk<|zg<|zS ?_
  exact zCa Tryz.results113 (p27,c28) trivial (zC rfl) (zC rfl) (by rw [hz9,hf2]) (ho:=(.n:PickO _ _ _)) ((.e (j:=0) rfl (by rw [hz9]) .n):SelR _ _ _)
theorem zme {a:Nat} {p:Option Addr} {cap:Nat} (hb:(yf a).length≤2):Con yj 100 [.slice p ((yf a).length) cap] [] [slF (rI .u32) p cap (yf a)] (Y:=Unit) (fun y=>True) (fun y=> .int .u64 ((a:Nat):Int)) (fun y=>[]) (fun y=>[]):=by
 refine zv Tryz.func100 rfl rfl rfl (fun c=> ?_)
 show RunC _ _ _ _ _ [(0,.slice p ((yf a).length) cap)] [] [slF (rI .u32) p cap (yf a)]
 refine zqa 0 rfl (fun hL0=> ?_)
 have hpv:=Big.pair_val hb
 have hg0:=yt (yq a) 0
 have hg1:=yt (yq a) 1
 refine zj<|zc<|e_p (zh rfl)<|zk<|zg<|zj<|zc<|e_mv rfl<|zU rfl rfl (.c rfl (.c rfl .n)) ce109 (zsb (p:=p) (n:=(yf a).length) (cap:=cap) (l:=yf a) (i:=1) (hn:=cbb) (hi:=cbb)) (.c (j:=0) rfl .n)<|e_p (zJa (z:=((yf a).getD 1 0*1000000000)) rfl rfl (wu64 om))<|e_mv rfl<|zU rfl rfl (.c rfl (.c rfl .n)) ce109 (zsb (p:=p) (n:=(yf a).length) (cap:=cap) (l:=yf a) (i:=0) (hn:=cbb) (hi:=cbb)) (.c (j:=0) rfl .n)<|e_p (zH (z:=(((yf a).getD 1 0*1000000000)+(yf a).getD 0 0)) rfl rfl (wu64 om))<|e_p (zh rfl)<|zk<|zg<|zS ?_
 exact zM Tryz.results100 () trivial (zC rfl) (by rw [hpv]) (ho:=(.n:PickO _ _ _)) (.n:SelR _ _ _)
end Go.Proofs.YtjeahiahjgifgaaGreatDoor.Sp
namespace Go.Proofs.YtjeahiahjgifgaaGreatDoor.Sp
open Go
set_option linter.unusedVariables false
set_option maxRecDepth 100000
set_option maxHeartbeats 8000000
theorem zDd {a:Nat} {b:Nat} {p1:Option Addr} {c1:Nat} {p2:Option Addr} {c2:Nat} (hb1:(yf a).length≤549755813888) (hb2:(yf b).length≤549755813888) (hb0:0<b):Con yj 99 [.slice p1 ((yf a).length) c1,.slice p2 ((yf b).length) c2] [] [slF (rI .u32) p1 c1 (yf a),slF (rI .u32) p2 c2 (yf b)] (Y:=(Option Addr)×Nat×(Option Addr)×Nat) (fun y=>True) (fun y=> .tuple #[.slice (y.1) ((yf (a / b)).length) (y.2.1),.slice (y.2.2.1) ((yf (a%b)).length) (y.2.2.2)]) (fun y=>[]) (fun y=>[slF (rI .u32) (y.1) (y.2.1) (yf (a / b)),slF (rI .u32) (y.2.2.1) (y.2.2.2) (yf (a%b))]):=by
 refine zv Tryz.func99 rfl rfl rfl (fun c=> ?_)
 show RunC _ _ _ _ _ [(0,.slice p1 ((yf a).length) c1),(1,.slice p2 ((yf b).length) c2)] [] [slF (rI .u32) p1 c1 (yf a),slF (rI .u32) p2 c2 (yf b)]
 refine zqa 0 rfl (fun hL0=> ?_)
 refine zqa 1 rfl (fun hL1=> ?_)
 have hln0:=Big.zkf hb0
 have hob:=yt (yq b) 0
 have hob1:=yt (yq b) ((yf b).length - 1)
 have hdv:=yB (Nat.div_le_self a b)
 have hdm:=Nat.mod_lt a hb0
 refine zj<|zc<|e_p (zh rfl)<|e_p (zh rfl)<|zk<|zg<|zj<|zc<|e_mv rfl<|e_p (zfa yh rfl)<|e_p (zh rfl)<|zk<|zg<|zj<|zj<|zc<|e_mv rfl<|e_p (zOa rfl rfl)<|zk<|zg<|zT rfl (fun hl1=> ?_) (fun hl1=> ?_)
 ·
  have hbd:=Big.one_digit (by omega:(yf b).length=1)
  have hbl:b<1000000000:=by omega
  have hokt:yx [((a%b:Nat):Int)]:=Big.okL_cons.2 ⟨by omega,Big.okL_nil⟩
  have hz3:=Big.made_nat hokt (show yl [((a%b:Nat):Int)]=((a%b:Nat):Int) by simp only [yl];omega)
  refine zj<|zc<|e_mv rfl<|e_mv rfl<|zW (x0:=((yf b).getD 0 0)) 1 0 rfl yh sz131 rfl rfl rfl (by first|rfl|assumption|(simp;done)|(simp;omega)|omega) rfl rfl (gD (d:=0) om) (fun b1 o2 hok3=> ?_)
  replace hok3:=zL.1 hok3
  refine e_ru (zB (j:=0) 0 ty131 rfl rfl rfl rfl)<|e_p (zQ (z:=((yf b).getD 0 0)) rfl (by rw [yn];rfl) ym (wu64 om)) ?_
  have e4:(((yf b).getD 0 0):Int)=((b:Nat):Int):=by exact hbd
  rw [e4]
  refine zG rfl rfl (.c rfl (.c rfl .n)) ce113 (zCd (a:=a) (mm:=b) (p:=p1) (cap:=c1) (hb:=by first|rfl|assumption|omega|(simp;done)) (hm0:=ass) (hm1:=by first|rfl|assumption|omega|(simp;done))) (.c (j:=1) rfl .n) ?_
  rintro ⟨p25,c26⟩ -
  dsimp only [aq,nq,cq]
  refine e_mv rfl<|e_p (zy rfl rfl)<|e_p (zy rfl rfl)<|e_p (zh rfl)<|e_p (zh rfl)<|zk<|zg<|zj<|zc<|e_mv rfl<|e_mv rfl<|e_p (zQ (z:=(((a%b):Nat):Int)) rfl (by rw [ym];rfl) yn (wu32 om))<|zDa rfl rfl (zR (enc:=fun z:Int=>[.int .u32 z]) (ok:=InK .u32) (h1:=fun _=>rfl) (h2:=fun _=>rfl) (k:=1) yh inf131 rfl dd dd dd (.c (x:=(((a%b):Nat):Int)) rfl rfl (fun _ _=>by exact zL.2 om) .n)) (fun b7 _=> ?_)
  refine zia 0 rfl .z<|zG rfl rfl (.c rfl (.c rfl .n)) ce91 (zcb (s:=false) (p:=some ⟨b7,0,none⟩) (n:=1) (cap:=1) (l:=[(((a%b):Nat):Int)]) (hn:=by first|rfl|omega|(simp;done)|(simp;omega)) (ho:=by exact hokt) (hln:=by first|rfl|omega|(simp;done)|(simp;omega))) (.c (j:=0) rfl .n) ?_
  rintro ⟨p28,c29⟩ -
  dsimp only [aq,nq,cq]
  refine e_p (zSa yi rfl ty40 rfl rfl)<|e_p (zh rfl)<|e_p (zh rfl)<|zk<|zg<|zS<|zu ?_
  exact zCa Tryz.results99 (p25,c26,p28,c29) trivial (zC rfl) (zC rfl) (by rw [hz3]) (ho:=(.n:PickO _ _ _)) ((.c (j:=2) rfl (.e (j:=0) rfl (by rw [hz3]) .n)):SelR _ _ _)
 ·
  refine zw<|zg<|zj<|zj<|zc<|e_mv rfl<|e_mv rfl<|zU rfl rfl (.c rfl (.c rfl .n)) ce93 (zjd (a:=a) (b:=b) (p1:=p1) (c1:=c1) (p2:=p2) (c2:=c2)) (.c (j:=0) rfl (.c (j:=1) rfl .n))<|e_p (zO rfl rfl)<|zk<|zg<|zT rfl (fun hlt=> ?_) (fun hlt=> ?_)
  ·
   have hab9:¬(b:Int)≤a:=fun h=>by have:=yW.2 h;omega
   have hab:a<b:=by omega
   refine zj<|zc<|zDa rfl rfl (zHa (rI .u32) yh inf131) (fun b10 _=> ?_)
   refine e_mv rfl<|e_p (zh rfl)<|e_p (zh rfl)<|zk<|zg<|zS<|zu ?_
   have hz1:a / b=0:=Nat.div_eq_of_lt hab
   have hz2:a%b=a:=Nat.mod_eq_of_lt hab
   refine zOb 0 rfl .z ?_
   exact zCa Tryz.results99 (some ⟨b10,0,none⟩,0,p1,c1) trivial (zC rfl) (zC rfl) (by rw [hz1,hz2];rfl) (ho:=(.n:PickO _ _ _)) ((.e (j:=0) rfl (by rw [hz1];rfl) (.e (j:=1) rfl (by rw [hz2]) .n)):SelR _ _ _)
  ·
   have hab:b≤a:=by have h9:=yW.1 (by omega:0≤Big.cmp (a:Int) (b:Int));omega
   have hab2:=yB hab
   have hq1:0≤1000000000 / ((yf b).getD ((yf b).length - 1) 0+1):=Int.ediv_nonneg om om
   have hdt:=Big.digs_top (b:=b) (n:=(yf b).length - 1) om
   have hq2:1000000000 / ((yf b).getD ((yf b).length - 1) 0+1)≤500000000:=Int.ediv_le_of_le_mul om om
   refine zw<|zg<|zj<|zc<|e_mv rfl<|e_mv rfl<|e_p (zna (z:=((((yf b).length - 1):Nat):Int)) rfl rfl (w64 om))<|zW (x0:=((yf b).getD ((yf b).length - 1) 0)) 1 ((yf b).length - 1) rfl yh sz131 rfl rfl rfl (by first|rfl|assumption|(simp;done)|(simp;omega)|omega) rfl rfl (gD (d:=0) om) (fun b11 o12 hok13=> ?_)
   replace hok13:=zL.1 hok13
   refine e_ru (zB (j:=0) 0 ty131 rfl rfl rfl rfl)<|e_p (zQ (z:=((yf b).getD ((yf b).length - 1) 0)) rfl (by rw [yn];rfl) ym (wu64 om))<|e_p (zH (z:=(((yf b).getD ((yf b).length - 1) 0)+1)) rfl rfl (wu64 om))<|e_p (zab (z:=(1000000000 / (((yf b).getD ((yf b).length - 1) 0)+1))) rfl rfl om (by rw [quoN (z:=(1000000000 / (((yf b).getD ((yf b).length - 1) 0)+1))) om om];exact wu64 om))<|e_p (zh rfl)<|zk<|zg<|zj ?_
   obtain ⟨s,hs⟩:∃s:Nat,s=(1000000000 / ((yf b).getD ((yf b).length - 1) 0+1)).toNat:=⟨_,rfl⟩
   obtain ⟨hs1,hs2,hs3⟩:=Big.scale_len (n:=(yf b).length - 1) om hs
   have hsd:=Big.digs_one hs1 (by omega:s<1000000000)
   have hsl:(yf s).length=1:=by rw [hsd];rfl
   have e14:((1000000000 / (((yf b).getD ((yf b).length - 1) 0)+1)):Int)=((s:Nat):Int):=by omega
   rw [e14]
   refine zc<|e_mv rfl<|e_mv rfl<|zG rfl rfl (.c rfl (.c rfl .n)) ce114 (zpc (a:=a) (d:=s) (p0:=p1) (cap:=c1) (hb:=by first|rfl|assumption|omega|(simp;done)) (hd:=by first|rfl|assumption|omega|(simp;done))) (.c (j:=1) rfl .n) ?_
   rintro ⟨p315,c316⟩ -
   dsimp only [aq,nq,cq]
   refine e_mv rfl<|e_mv rfl<|zG rfl rfl (.c rfl (.c rfl .n)) ce114 (zpc (a:=b) (d:=s) (p0:=p2) (cap:=c2) (hb:=by first|rfl|assumption|omega|(simp;done)) (hd:=by first|rfl|assumption|omega|(simp;done))) (.c (j:=3) rfl .n) ?_
   rintro ⟨p317,c318⟩ -
   dsimp only [aq,nq,cq]
   refine e_p (zh rfl)<|e_p (zh rfl)<|zk<|zg<|zj ?_
   obtain ⟨A,hA⟩:∃z,z=a*s:=⟨_,rfl⟩
   rw [← hA]
   obtain ⟨V,hV⟩:∃z,z=b*s:=⟨_,rfl⟩
   rw [← hV]
   refine zqa 1 rfl (fun hcA=> ?_)
   have hAl:(yf a).length≤(yf A).length:=by rw [hA];exact Big.len_mul_ge hs1
   have hAl2:(yf A).length≤(yf a).length+1:=by have h8:=Big.len_mul_le a s;rw [hsl] at h8;rw [hA];exact h8
   obtain ⟨m,hm⟩:∃z,(yf V).length=z+1:=⟨(yf b).length - 1,by rw [hV,hs3]⟩
   have hmb:(yf b).length=m+1:=by rw [hV,hs3] at hm;omega
   have e19:((((yf b).length:Nat):Int):Int)=(((m+1):Nat):Int):=by omega
   rw [e19]
   refine zc<|e_mv rfl<|e_mv rfl<|e_p (zfa yh rfl)<|e_mv rfl<|e_p (zna (z:=((((yf A).length - (m+1)):Nat):Int)) rfl rfl (w64 om))<|e_p (zH (z:=((((yf A).length - m):Nat):Int)) rfl rfl (w64 om))<|e_p (zCe (lo:=((yf A).length - m)) (hi:=(yf A).length) yh sz131 rfl (.s rfl) .n (.inr ⟨_,rfl⟩) (.inl ⟨rfl,rfl⟩) om om)<|zMc (zAf 1 rfl ((yf A).length - m) ((yf A).length) om om) (fun _ _=> ?_)
   refine zG rfl rfl (.c rfl (.c rfl .n)) ce91 (zcb (s:=false) (p:=(newP p315 c316 ((yf A).length - m) 1)) (n:=((yf A).length) - ((yf A).length - m)) (cap:=(c316 - ((yf A).length - m))) (l:=(((yf A).take ((yf A).length)).drop ((yf A).length - m))) (hn:=by first|rfl|omega|(simp;done)|(simp;omega)) (ho:=by exact Big.okL_drop (Big.okL_take (yq _) _) _) (hln:=by first|rfl|omega|(simp;done)|(simp;omega))) (.c (j:=0) rfl .n) ?_
   rintro ⟨p220,c221⟩ -
   dsimp only [aq,nq,cq]
   refine e_p (zSa yi rfl ty40 rfl rfl)<|e_p (zh rfl)<|zk<|zg<|zj ?_
   obtain ⟨R0,hR0⟩:∃z,z=(yA false (yl (((yf A).take ((yf A).length)).drop ((yf A).length - m)))).natAbs:=⟨_,rfl⟩
   rw [← hR0]
   have hpt:Big.PtI A V ((yf A).length - m) [] R0:=Big.PtI.start hm om (by rw [hR0,List.take_length];have:=yI (Big.okL_drop (yq A) ((yf A).length - m));simp only [yA];omega)
   refine zc<|e_mv rfl<|e_p (zfa yh rfl)<|e_mv rfl<|e_p (zna (z:=((((yf A).length - (m+1)):Nat):Int)) rfl rfl (w64 om))<|e_p (zH (z:=((((yf A).length - m):Nat):Int)) rfl rfl (w64 om))<|zDa rfl rfl (zPb (r:=rI .u32) (k:=((yf A).length - m)) (x0:=0) (γ0:=()) yh inf131 rfl rfl rfl rfl om om rfl (fun _ _=>by exact zL.2 dd) dd) (fun b22 _=> ?_)
   refine e_p (zh rfl)<|zk<|zg<|zj<|zj<|zc<|e_mv rfl<|e_p (zfa yh rfl)<|e_mv rfl<|e_p (zna (z:=((((yf A).length:Nat):Int) - (((m+1):Nat):Int))) rfl rfl (w64 om))<|e_p (zh rfl)<|zk<|zg<|zt<|zBa (X:=Nat×(List Int)×Nat×(Option Addr)×Nat) (fun x:Nat×(List Int)×Nat×(Option Addr)×Nat=>Big.PtI A V x.1 x.2.1 x.2.2.1∧x.1+x.2.1.length=(yf A).length - m) (fun x=>[(10,.slice (x.2.2.2.1) ((yf (x.2.2.1)).length) (x.2.2.2.2)),(12,yc yd (((x.1:Nat):Int) - 1)),(11,.slice (some ⟨b22,0,none⟩) ((yf A).length - m) ((yf A).length - m)),(1,.slice p317 ((yf V).length) c318),(0,.slice p315 ((yf A).length) c316),(9,.int .u64 ((s:Nat):Int)),(6,yc yd (((m+1):Nat):Int)),(5,.slice none 0 0),(4,.slice none 0 0)]) (fun x=>[rowA 131 (rI .u32) (some ⟨b22,0,none⟩) ((yf A).length - m) (List.replicate x.1 0++x.2.1)]) (fun x=>[slF (rI .u32) (x.2.2.2.1) (x.2.2.2.2) (yf (x.2.2.1)),slF (rI .u32) p220 c221 (yf R0),slF (rI .u32) (newP p315 c316 ((yf A).length - m) 1) (c316 - ((yf A).length - m)) (((yf A).take ((yf A).length)).drop ((yf A).length - m)),slF (rI .u32) p317 c318 (yf V),slF (rI .u32) p315 c316 (yf A),atF b11 o12 [.int .u32 ((yf b).getD ((yf b).length - 1) 0)],slF (rI .u32) p1 c1 (yf a),slF (rI .u32) p2 c2 (yf b)]) (fun x:Nat×(List Int)×Nat×(Option Addr)×Nat=>x.1) (((yf A).length - m),([]:List Int),R0,p220,c221) (show Big.PtI A V ((yf A).length - m) ([]:List Int) R0∧((yf A).length - m)+([]:List Int).length=(yf A).length - m from by exact ⟨hpt,rfl⟩) ((.e rfl (by first|rfl|(congr 1;omega)|simp_all) (.e rfl (congrArg (Value.int .i64) om) (.of rfl))):SubM _ _) (ho:=((.e (i:=0) rfl (by simp) .n):PickO _ _ _)) ((.e (j:=0) rfl (by first|rfl|simp_all) (.of [0,1,2,3,4,5,6] rfl)):SelR _ _ _) ?_
   rintro ⟨jj,qs,R,pr,cr⟩ hI
   replace hI:Big.PtI A V jj qs R∧jj+qs.length=(yf A).length - m:=hI
   try dsimp only
   obtain ⟨hP,hql⟩:=hI
   refine zj<|zj<|zc<|e_mv rfl<|e_p (zob rfl rfl)<|zk<|zg<|zT rfl (fun hj=> ?_) (fun hj=> ?_)
   ·
    obtain ⟨j,rfl⟩:∃j,jj=j+1:=⟨jj - 1,by omega⟩
    have e23:(((((j+1):Nat):Int) - 1):Int)=((j:Nat):Int):=by omega
    rw [e23]
    have hjle:=hP.le
    have hRV:=hP.lt
    have hdn:=yt (yq A) j
    obtain ⟨d,hd⟩:∃d:Nat,(yf A).getD j 0=(d:Int):=⟨_,(Int.toNat_of_nonneg hdn.1).symm⟩
    have hd9:d<1000000000:=by omega
    have hWlt9:=Big.pt_lim hRV hd9
    have hRl:=yB (Nat.le_of_lt hRV)
    refine zw<|zg<|zj<|zt<|zj<|zc<|e_mv rfl<|e_mv rfl<|e_mv rfl<|zW (x0:=((yf A).getD j 0)) 4 j rfl yh sz131 rfl rfl rfl (by first|rfl|assumption|(simp;done)|(simp;omega)|omega) rfl rfl (gD (d:=0) om) (fun b24 o25 hok26=> ?_)
    replace hok26:=zL.1 hok26
    refine e_ru (zB (j:=0) 0 ty131 rfl rfl rfl rfl) ?_
    have e27:(((yf A).getD j 0):Int)=((d:Nat):Int):=by exact hd
    rw [e27]
    refine zG rfl rfl (.c rfl (.c rfl .n)) ce115 (zle (a:=R) (d:=d) (p0:=pr) (cap:=cr) (hb:=by first|rfl|assumption|omega|(simp;done)) (hd:=by first|rfl|assumption|omega|(simp;done))) (.c (j:=1) rfl .n) ?_
    rintro ⟨p328,c329⟩ -
    dsimp only [aq,nq,cq]
    refine e_p (zh rfl)<|zk<|zg<|zj ?_
    obtain ⟨W,hW⟩:∃z,z=(R*1000000000+d):=⟨_,rfl⟩
    rw [← hW]
    have hWlt:W<V*1000000000:=by rw [hW];exact hWlt9
    have hWl:=Big.pt_wlen hWlt hm
    have hw1:=yt (yq W) (m+1)
    have hw0:=yt (yq W) m
    have hv0:=yt (yq V) m
    have hg0:0≤(((yf W).getD (m+1) 0*1000000000+(yf W).getD m 0) / ((yf V).getD m 0+1)):=Int.ediv_nonneg om om
    have hg1:(((yf W).getD (m+1) 0*1000000000+(yf W).getD m 0) / ((yf V).getD m 0+1))≤1000000000000000000:=Int.le_trans (Int.ediv_le_self _ om) om
    refine zP (OW:=[]) (O:=[rowA 131 (rI .u32) (some ⟨b22,0,none⟩) ((yf A).length - m) (List.replicate (j+1) 0++qs)]) 100000 mixed (.then (.block (.then (.then (.block (.then .ret)))))) kr<|e_dm 0 rfl rfl rfl<|e_dm 1 rfl rfl rfl<|e_dm 4 rfl rfl rfl<|e_dm 5 rfl rfl rfl<|e_pv 6 rfl rfl (zna (z:=((m:Nat):Int)) rfl rfl (w64 om))<|e_dm 9 rfl rfl rfl<|e_dm 10 rfl rfl rfl<|e_pv 11 rfl rfl (zna (z:=((m:Nat):Int)) rfl rfl (w64 om))<|zUa (x0:=((yf V).getD m 0)) 12 rfl rfl kr kr 5 m rfl yh sz131 rfl rfl rfl (by first|rfl|assumption|(simp;done)|(simp;omega)|omega) rfl rfl (gD (d:=0) om) (fun b30 o31 hok32=> ?_)
    replace hok32:=zL.1 hok32
    refine e_u 13 rfl rfl (zB (j:=0) 0 ty131 rfl rfl rfl rfl)<|e_pv 14 rfl rfl (zQ (z:=((yf V).getD m 0)) rfl (by rw [yn];rfl) ym (wu64 om))<|e_pv 15 rfl rfl (zH (z:=(((yf V).getD m 0)+1)) rfl rfl (wu64 om))<|e_one 2 (zLa rfl rfl rfl rfl (.c rfl (.c rfl .n)) ce109 (zsb (p:=p328) (n:=(yf W).length) (cap:=c329) (l:=yf W) (i:=(m+1)) (hn:=by first|rfl|assumption|omega|(simp;done)) (hi:=by first|rfl|assumption|omega|(simp;done))) (.c (j:=1) rfl .n) ?_)
    refine e_pv 3 rfl rfl (zJa (z:=((yf W).getD (m+1) 0*1000000000)) rfl rfl (wu64 om))<|e_one 7 (zLa rfl rfl rfl rfl (.c rfl (.c rfl .n)) ce109 (zsb (p:=p328) (n:=(yf W).length) (cap:=c329) (l:=yf W) (i:=m) (hn:=by first|rfl|assumption|omega|(simp;done)) (hi:=by first|rfl|assumption|omega|(simp;done))) (.c (j:=1) rfl .n) ?_)
    refine e_pv 8 rfl rfl (zH (z:=(((yf W).getD (m+1) 0*1000000000)+(yf W).getD m 0)) rfl rfl (wu64 om))<|e_pv 16 rfl rfl (zab (z:=((((yf W).getD (m+1) 0*1000000000)+(yf W).getD m 0) / (((yf V).getD m 0)+1))) rfl rfl om (by rw [quoN (z:=((((yf W).getD (m+1) 0*1000000000)+(yf W).getD m 0) / (((yf V).getD m 0)+1))) om om];exact wu64 om))<|e_pv 17 rfl rfl (zh rfl)<|zN kr<|zg<|zj ?_
    obtain ⟨g0,hg9⟩:∃g:Nat,(g:Int)=(((yf W).getD (m+1) 0*1000000000+(yf W).getD m 0) / ((yf V).getD m 0+1)):=⟨_,Int.toNat_of_nonneg hg0⟩
    obtain ⟨hgm,hgl⟩:=Big.pt_guess hWlt hm hg9
    have hVg:=yB hgm
    have e33:(((((yf W).getD (m+1) 0*1000000000)+(yf W).getD m 0) / (((yf V).getD m 0)+1)):Int)=((g0:Nat):Int):=by exact hg9.symm
    rw [e33]
    refine zc<|e_mv rfl<|e_mv rfl<|e_mv rfl<|zG rfl rfl (.c rfl (.c rfl .n)) ce114 (zpc (a:=V) (d:=g0) (p0:=p317) (cap:=c318) (hb:=by first|rfl|assumption|omega|(simp;done)) (hd:=by first|rfl|assumption|omega|(simp;done))) (.c (j:=6) rfl .n) ?_
    rintro ⟨p334,c335⟩ -
    dsimp only [aq,nq,cq]
    refine zG rfl rfl (.c rfl (.c rfl .n)) ce94 (zfc (a:=W) (b:=V*g0) (p1:=p328) (c1:=c329) (p2:=p334) (c2:=c335) (hb1:=by first|rfl|assumption|omega|(simp;done)) (hb2:=by first|rfl|assumption|omega|(simp;done)) (hab:=by first|rfl|assumption|omega|(simp;done))) (.c (j:=2) rfl (.c (j:=0) rfl .n)) ?_
    rintro ⟨p336,c337⟩ -
    dsimp only [aq,nq,cq]
    refine e_p (zh rfl)<|zk<|zg<|zj<|zt<|zBa (X:=Nat×Nat×(Option Addr)×Nat) (fun x:Nat×Nat×(Option Addr)×Nat=>x.2.1+V*x.1=W) (fun x=>[(10,.slice (x.2.2.1) ((yf (x.2.1)).length) (x.2.2.2)),(13,.int .u64 ((x.1:Nat):Int)),(12,yc yd ((j:Nat):Int)),(11,.slice (some ⟨b22,0,none⟩) ((yf A).length - m) ((yf A).length - m)),(1,.slice p317 ((yf V).length) c318),(0,.slice p315 ((yf A).length) c316),(9,.int .u64 ((s:Nat):Int)),(6,yc yd (((m+1):Nat):Int)),(5,.slice none 0 0),(4,.slice none 0 0)]) (fun x=>[rowA 131 (rI .u32) (some ⟨b22,0,none⟩) ((yf A).length - m) (List.replicate (j+1) 0++qs)]) (fun x=>[slF (rI .u32) (x.2.2.1) (x.2.2.2) (yf (x.2.1)),slF (rI .u32) p336 c337 (yf (W - (V*g0))),slF (rI .u32) p334 c335 (yf (V*g0)),atF b30 o31 [.int .u32 ((yf V).getD m 0)],slF (rI .u32) p328 c329 (yf W),atF b24 o25 [.int .u32 ((d:Nat):Int)],slF (rI .u32) pr cr (yf R),slF (rI .u32) p220 c221 (yf R0),slF (rI .u32) (newP p315 c316 ((yf A).length - m) 1) (c316 - ((yf A).length - m)) (((yf A).take ((yf A).length)).drop ((yf A).length - m)),slF (rI .u32) p317 c318 (yf V),slF (rI .u32) p315 c316 (yf A),atF b11 o12 [.int .u32 ((yf b).getD ((yf b).length - 1) 0)],slF (rI .u32) p1 c1 (yf a),slF (rI .u32) p2 c2 (yf b)]) (fun x:Nat×Nat×(Option Addr)×Nat=>x.2.1) (g0,(W - V*g0),p336,c337) (show (W - V*g0)+V*g0=W from by exact Nat.sub_add_cancel hgm) ((.e rfl (by first|rfl|(congr 1;omega)|simp_all) (.of rfl)):SubM _ _) (ho:=((.c (i:=0) rfl .n):PickO _ _ _)) ((.e (j:=0) rfl (by first|rfl|simp_all) (.of [0,1,2,3,4,5,6,7,8,9,10,11,12] rfl)):SelR _ _ _) ?_
    rintro ⟨g,r,p9,c9⟩ hJ
    replace hJ:r+V*g=W:=hJ
    try dsimp only
    have hgb:g<1000000000:=Nat.lt_of_mul_lt_mul_left (a:=V) om
    have hrl:=yB (show r≤W by omega)
    refine zj<|zj<|zc<|e_mv rfl<|e_mv rfl<|zU rfl rfl (.c rfl (.c rfl .n)) ce93 (zjd (a:=r) (b:=V) (p1:=p9) (c1:=c9) (p2:=p317) (c2:=c318)) (.c (j:=0) rfl (.c (j:=9) rfl .n))<|e_p (zob rfl rfl)<|zk<|zg<|zT rfl (fun hge=> ?_) (fun hge=> ?_)
    ·
     have hrV:V≤r:=by have h9:=yW.1 hge;omega
     refine zw<|zg<|zt<|zj<|zc<|e_mv rfl<|e_mv rfl<|zG rfl rfl (.c rfl (.c rfl .n)) ce94 (zfc (a:=r) (b:=V) (p1:=p9) (c1:=c9) (p2:=p317) (c2:=c318) (hb1:=by first|rfl|assumption|omega|(simp;done)) (hb2:=by first|rfl|assumption|omega|(simp;done)) (hab:=by first|rfl|assumption|omega|(simp;done))) (.c (j:=0) rfl (.c (j:=9) rfl .n)) ?_
     rintro ⟨p338,c339⟩ -
     dsimp only [aq,nq,cq]
     refine e_p (zh rfl)<|zk<|zg<|zc<|e_mv rfl<|e_p (zH (z:=(((g+1):Nat):Int)) rfl rfl (wu64 om))<|e_p (zh rfl)<|zk<|zI<|zwa ((g+1),(r - V),p338,c339) (show (r - V)+V*(g+1)=W from by rw [Nat.mul_succ];omega) (by show r - V<r;omega) ((.e rfl (by first|rfl|(congr 1;omega)|simp_all) (.of rfl)):SubM _ _) (ho:=((.c (i:=0) rfl .n):PickO _ _ _)) ((.e (j:=0) rfl (by first|rfl|simp_all) (.of [2,3,4,5,6,7,8,9,10,11,12,13,14] rfl)):SelR _ _ _)
    ·
     have hrV:r<V:=by have h9:¬(V:Int)≤r:=fun h=>hge (yW.2 h);omega
     have hst:=hP.step hd (by rw [← hW];exact hJ) hrV
     refine zla<|zn<|zn<|zA<|zg<|zc<|e_mv rfl<|e_mv rfl<|e_mv rfl<|e_p (zQ (z:=((g:Nat):Int)) rfl (by rw [ym];rfl) yn (wu32 om))<|e_p (zra (j:=j) yh sz131 rfl rfl rfl om)<|zeb 0 rfl rfl rfl (zma (j:=j) (x0:=((g:Nat):Int)) (γ0:=()) rfl rfl (by first|omega|(rw [List.length_map];omega)|(simp only [List.length_set];omega)|(simp;done)|(simp;omega)) rfl rfl sz131 (fun _ _=>by exact zL.2 om)) (fun _=> .z) (fun _ _=> ?_)
     refine zk<|zI<|zg<|zc<|e_mv rfl<|e_p (zna (z:=(((j:Nat):Int) - 1)) rfl rfl (w64 om))<|e_p (zh rfl)<|zk<|zwa (j,(((g:Nat):Int) :: qs),r,p9,c9) (show Big.PtI A V j (((g:Nat):Int) :: qs) r∧j+(((g:Nat):Int) :: qs).length=(yf A).length - m from by exact ⟨hst,by rw [List.length_cons];omega⟩) (by show j<j+1;omega) ((.of rfl):SubM _ _) (ho:=((.e (i:=0) rfl (by rw [Big.pad_set]) .n):PickO _ _ _)) ((.of [0,7,8,9,10,11,12,13] rfl):SelR _ _ _)
   ·
    have hj0:jj=0:=by omega
    have hI0:Big.PtI A V 0 qs R:=hj0 ▸ hP
    obtain ⟨hf1,hf2⟩:=hI0.fin
    have hsc:=Big.scale_div (a:=a) (b:=b) hs1
    have hRV:=hI0.lt
    have hRl:=yB (Nat.le_of_lt hRV)
    have hz4:=Big.made_nat hI0.ok hf1
    have hok5:=hI0.ok
    refine zla<|zn<|zn<|zA<|zg<|zj<|zc<|e_mv rfl<|e_mv rfl<|zG rfl rfl (.c rfl (.c rfl .n)) ce113 (zCd (a:=R) (mm:=s) (p:=pr) (cap:=cr) (hb:=by first|rfl|assumption|omega|(simp;done)) (hm0:=by first|rfl|assumption|omega|(simp;done)) (hm1:=by first|rfl|assumption|omega|(simp;done))) (.c (j:=0) rfl .n) ?_
    rintro ⟨p240,c241⟩ -
    dsimp only [aq,nq,cq]
    refine e_mv rfl<|e_p (zy rfl rfl)<|e_p (zy rfl rfl)<|e_p (zh rfl)<|e_p (zh rfl)<|zk<|zg<|zj ?_
    have e42:List.replicate jj 0++qs=qs:=by rw [hj0];rfl
    rw [e42]
    refine zc<|e_mv rfl<|zia 0 rfl .z<|zG rfl rfl (.c rfl (.c rfl .n)) ce91 (zcb (s:=false) (p:=some ⟨b22,0,none⟩) (n:=((yf A).length - m)) (cap:=((yf A).length - m)) (l:=qs) (hn:=by first|rfl|omega|(simp;done)|(simp;omega)) (ho:=by exact hok5) (hln:=by first|rfl|omega|(simp;done)|(simp;omega))) (.c (j:=0) rfl .n) ?_
    rintro ⟨p243,c244⟩ -
    dsimp only [aq,nq,cq]
    refine e_p (zSa yi rfl ty40 rfl rfl)<|e_mv rfl<|e_p (zh rfl)<|e_p (zh rfl)<|zk<|zg<|zS ?_
    have hr9:R / s=a%b:=by rw [hf2,hA,hV,hsc.2]
    have hz5:(yA false (yl qs)).natAbs=a / b:=by rw [hz4,hA,hV,hsc.1]
    exact zCa Tryz.results99 (p243,c244,p240,c241) trivial (zC rfl) (zC rfl) (by rw [hz5,hr9]) (ho:=(.n:PickO _ _ _)) ((.e (j:=0) rfl (by rw [hz5]) (.e (j:=2) rfl (by rw [hr9]) .n)):SelR _ _ _)
end Go.Proofs.YtjeahiahjgifgaaGreatDoor.Sp
namespace Go.Proofs.YtjeahiahjgifgaaGreatDoor.Sp
open Go
set_option linter.unusedVariables false
set_option maxRecDepth 100000
set_option maxHeartbeats 8000000
theorem zMe {s:Bool} {p1:Option Addr} {n1:Nat} {c1:Nat} {l1:List Int} {t:Bool} {p2:Option Addr} {n2:Nat} {c2:Nat} {l2:List Int} (hn1:l1.length=n1) (hn2:l2.length=n2) (hm1:n1≤549755813888) (hm2:n2≤549755813888):Con yj 68 [.agg #[.bool s,.slice p1 n1 c1],.agg #[.bool t,.slice p2 n2 c2]] [] [slF (rI .u32) p1 c1 l1,slF (rI .u32) p2 c2 l2] (Y:=(Option Addr)×Nat) (fun y=>True) (fun y=> .agg #[.bool (decide (((Nat.gcd (yg s l1).natAbs (yg t l2).natAbs:Nat):Int)<0)),.slice (y.1) ((yf (((Nat.gcd (yg s l1).natAbs (yg t l2).natAbs:Nat):Int).natAbs)).length) (y.2)]) (fun y=>[]) (fun y=>[slF (rI .u32) (y.1) (y.2) (yf (((Nat.gcd (yg s l1).natAbs (yg t l2).natAbs:Nat):Int).natAbs))]):=by
 refine zv Tryz.func68 rfl rfl rfl (fun c=> ?_)
 show RunC _ _ _ _ _ [(0,.agg #[.bool s,.slice p1 n1 c1]),(1,.agg #[.bool t,.slice p2 n2 c2])] [] [slF (rI .u32) p1 c1 l1,slF (rI .u32) p2 c2 l2]
 refine zqa 0 rfl (fun hL0=> ?_)
 refine zfb 0 rfl (fun hE0=> ?_)
 refine zqa 1 rfl (fun hL1=> ?_)
 refine zfb 1 rfl (fun hE1=> ?_)
 have hnn1:yK l1:=fun g hg=>(zL.1 (hE0 g hg)).1
 have hnn2:yK l2:=fun g hg=>(zL.1 (hE1 g hg)).1
 have hb1:yo (yg s l1)≤n1:=by have:=yJ (s:=s) hnn1;omega
 have hb2:yo (yg t l2)≤n2:=by have:=yJ (s:=t) hnn2;omega
 unfold yo at hb1 hb2
 refine zj<|zc<|zE rfl rfl (zZ rfl rfl) (fun b1=> ?_)
 refine zE rfl rfl (zZ rfl rfl) (fun b2=> ?_)
 refine zE rfl rfl (zo zr42 rfl) (fun b3=> ?_)
 refine zk<|zg<|zj<|zP (OW:=[]) (O:=[boxA b3 42 [wz.b,wz.l],boxA b2 42 [.bool t,.slice p2 n2 c2],boxA b1 42 [.bool s,.slice p1 n1 c1]]) 100000 mixed (.then .ret) kr<|e_u 0 rfl rfl (zd 2 ty42 rfl rfl (.t2 .nil))<|e_u 3 rfl rfl (zd 1 ty42 rfl rfl (.t2 .nil))<|e_one 1 (zm rfl rfl rfl rfl (.c rfl .n) ce90 (zmb (s:=s) (p:=p1) (n:=n1) (cap:=c1) (l:=l1) (hn:=ass) (hln:=cbo)) (.c (j:=0) rfl .n) ?_)
 rintro ⟨p24,c25⟩ -
 dsimp only [aq,nq,cq]
 refine e_pv 2 rfl rfl (zSa yi rfl ty40 rfl rfl)<|e_one 4 (zm rfl rfl rfl rfl (.c rfl .n) ce90 (zmb (s:=t) (p:=p2) (n:=n2) (cap:=c2) (l:=l2) (hn:=ass) (hln:=cbo)) (.c (j:=2) rfl .n) ?_)
 rintro ⟨p26,c27⟩ -
 dsimp only [aq,nq,cq]
 refine e_pv 5 rfl rfl (zSa yi rfl ty40 rfl rfl)<|e_pv 6 rfl rfl (zh rfl)<|e_pv 7 rfl rfl (zh rfl)<|zN kr<|zg<|zj<|zt<|zBa (X:=Nat×Nat×(Option Addr)×Nat×(Option Addr)×Nat) (fun x:Nat×Nat×(Option Addr)×Nat×(Option Addr)×Nat=>Nat.gcd x.1 x.2.1=Nat.gcd (yg s l1).natAbs (yg t l2).natAbs∧(yf x.1).length≤549755813888∧(yf x.2.1).length≤549755813888) (fun x=>[(6,.slice (x.2.2.2.2.1) ((yf (x.2.1)).length) (x.2.2.2.2.2)),(5,.slice (x.2.2.1) ((yf (x.1)).length) (x.2.2.2.1)),(4,ye (some ⟨b3,0,none⟩))]) (fun x=>[boxA b3 42 [wz.b,wz.l],boxA b2 42 [.bool t,.slice p2 n2 c2],boxA b1 42 [.bool s,.slice p1 n1 c1]]) (fun x=>[slF (rI .u32) (x.2.2.1) (x.2.2.2.1) (yf (x.1)),slF (rI .u32) (x.2.2.2.2.1) (x.2.2.2.2.2) (yf (x.2.1)),slF (rI .u32) p26 c27 (yf ((yg t l2).natAbs)),slF (rI .u32) p24 c25 (yf ((yg s l1).natAbs)),slF (rI .u32) p1 c1 l1,slF (rI .u32) p2 c2 l2]) (fun x:Nat×Nat×(Option Addr)×Nat×(Option Addr)×Nat=>x.2.1) ((yg s l1).natAbs,(yg t l2).natAbs,p24,c25,p26,c27) (show Nat.gcd ((yg s l1).natAbs) ((yg t l2).natAbs)=Nat.gcd (yg s l1).natAbs (yg t l2).natAbs∧(yf ((yg s l1).natAbs)).length≤549755813888∧(yf ((yg t l2).natAbs)).length≤549755813888 from by exact ⟨rfl,by omega,by omega⟩) ((.of rfl):SubM _ _) (ho:=((.of [0,0,0] rfl):PickO _ _ _)) ((.of [1,0,0,1,2,3] rfl):SelR _ _ _) ?_
 rintro ⟨a,b,pa,ca,pb,cb⟩ hI
 replace hI:Nat.gcd a b=Nat.gcd (yg s l1).natAbs (yg t l2).natAbs∧(yf a).length≤549755813888∧(yf b).length≤549755813888:=hI
 try dsimp only
 obtain ⟨hgc,hba,hbb⟩:=hI
 refine zj<|zAa (X:=Unit) (fun x=>True) (fun x=>[(29,.bool (decide (0<(yf b).length∧(2<(yf a).length∨2<(yf b).length)))),(6,.slice pb ((yf b).length) cb),(5,.slice pa ((yf a).length) ca),(4,ye (some ⟨b3,0,none⟩))]) (fun x=>[boxA b3 42 [wz.b,wz.l],boxA b2 42 [.bool t,.slice p2 n2 c2],boxA b1 42 [.bool s,.slice p1 n1 c1]]) (fun x=>[slF (rI .u32) pa ca (yf a),slF (rI .u32) pb cb (yf b),slF (rI .u32) p26 c27 (yf ((yg t l2).natAbs)),slF (rI .u32) p24 c25 (yf ((yg s l1).natAbs)),slF (rI .u32) p1 c1 l1,slF (rI .u32) p2 c2 l2]) ?_ ?_
 ·
  refine zc<|e_mv rfl<|e_p (zfa yh rfl)<|e_p (zbb rfl rfl)<|zja rfl rfl (zka rfl) (fun h8=> ?_) (fun h8=> ?_)
  ·
   refine e_mv rfl<|e_p (zfa yh rfl)<|e_p (zbb rfl rfl)<|zja rfl rfl (zka rfl) (fun h9=> ?_) (fun h9=> ?_)
   ·
    refine e_no<|e_no<|e_no<|e_p (zK rfl rfl)<|e_p (zK rfl rfl)<|zk ?_
    exact zha () (show True from by first|trivial|omega|simp_all) ((.e rfl (congrArg Value.bool (by first|(simp;omega)|exact decide_eq_decide.2 ⟨fun h=>⟨by omega,.inr om⟩,fun h=>by omega⟩)) (.of rfl)):SubM _ _) (ho:=((.of [0,0,0] rfl):PickO _ _ _)) ((.of [0,1,2,3,4,5] rfl):SelR _ _ _)
   ·
    refine e_mv rfl<|e_p (zfa yh rfl)<|e_p (zbb rfl rfl)<|e_p (zK rfl rfl)<|e_p (zK rfl rfl)<|zk ?_
    exact zha () (show True from by first|trivial|omega|simp_all) ((.e rfl (congrArg Value.bool (by first|(simp;omega)|exact decide_eq_decide.2 ⟨fun h=>⟨by omega,.inr om⟩,fun h=>by omega⟩)) (.of rfl)):SubM _ _) (ho:=((.of [0,0,0] rfl):PickO _ _ _)) ((.of [0,1,2,3,4,5] rfl):SelR _ _ _)
  ·
   refine e_no<|e_no<|e_no<|e_no<|e_no<|e_no<|e_no<|e_no<|e_p (zK rfl rfl)<|zk ?_
   exact zha () (show True from by first|trivial|omega|simp_all) ((.e rfl (congrArg Value.bool (by first|(simp;omega)|exact decide_eq_decide.2 ⟨fun h=>⟨by omega,.inr om⟩,fun h=>by omega⟩)) (.of rfl)):SubM _ _) (ho:=((.of [0,0,0] rfl):PickO _ _ _)) ((.of [0,1,2,3,4,5] rfl):SelR _ _ _)
 ·
  rintro ⟨⟩ -
  try dsimp only
  refine zT rfl (fun hw=> ?_) (fun hw=> ?_)
  ·
   have hb0:0<b:=Nat.pos_of_ne_zero (fun e=>by rw [e] at hw;simp [Big.digs_zero] at hw)
   refine zw<|zg<|zt<|zj<|zc<|e_mv rfl<|e_mv rfl<|zG rfl rfl (.c rfl (.c rfl .n)) ce99 (zDd (a:=a) (b:=b) (p1:=pa) (c1:=ca) (p2:=pb) (c2:=cb) (hb1:=cbo) (hb2:=cbo) (hb0:=cbo)) (.c (j:=0) rfl (.c (j:=1) rfl .n)) ?_
   rintro ⟨p310,c311,p412,c413⟩ -
   dsimp only [aq,nq,cq]
   refine e_mv rfl<|e_p (zy rfl rfl)<|e_p (zy rfl rfl)<|e_p (zh rfl)<|e_p (zh rfl)<|zk<|zg<|zc<|e_mv rfl<|e_mv rfl<|e_p (zh rfl)<|e_p (zh rfl)<|zk<|zI<|zwa (b,(a%b),pb,cb,p412,c413) (show Nat.gcd b (a%b)=Nat.gcd (yg s l1).natAbs (yg t l2).natAbs∧(yf b).length≤549755813888∧(yf (a%b)).length≤549755813888 from by exact ⟨by rw [Big.gcd_rest,hgc],hbb,Nat.le_trans (yB (Nat.le_of_lt (Nat.mod_lt a hb0))) hbb⟩) (by exact Nat.mod_lt a hb0) ((.e rfl (by first|rfl|(congr 1;omega)|simp_all) (.c rfl (.c rfl .n))):SubM _ _) (ho:=((.of [0,0,0] rfl):PickO _ _ _)) ((.c (j:=3) rfl (.e (j:=1) rfl (by first|rfl|simp_all) (.of [4,5,6,7] rfl))):SelR _ _ _)
  ·
   refine zla<|zn<|zn<|zA<|zg<|zj<|zj<|zc<|e_mv rfl<|e_p (zfa yh rfl)<|e_p (zOa rfl rfl)<|zk<|zg<|zT rfl (fun hbz=> ?_) (fun hbz=> ?_)
   ·
    have hbz0:b=0:=yR.1 om
    have hfin:a=Nat.gcd (yg s l1).natAbs (yg t l2).natAbs:=by rw [← hgc,hbz0,Nat.gcd_zero_right]
    refine zj<|zc<|e_mv rfl<|zG rfl rfl (.c rfl (.c rfl .n)) ce91 (zDb (s:=false) (a:=a) (p:=pa) (cap:=ca) (hln:=cbo)) (.c (j:=0) rfl .n) ?_
    rintro ⟨p214,c215⟩ -
    dsimp only [aq,nq,cq]
    refine zl 0 rfl rfl rfl rfl rfl sz42 rfl (.t2 .nil) .z<|zk<|zg<|zS<|zu ?_
    exact zM Tryz.results68 (p214,c215) trivial (zr 0 ty42 rfl rfl (.t2 .nil)) (by rw [← hfin];rfl) (ho:=(.n:PickO _ _ _)) ((.e (j:=0) rfl (by rw [← hfin];rfl) .n):SelR _ _ _)
   ·
    have ha2:(yf a).length≤2:=by omega
    have hb2:(yf b).length≤2:=by omega
    have ha18:=Big.two_lt ha2
    have hb18:=Big.two_lt hb2
    refine zw<|zg<|zj<|zc<|e_mv rfl<|zU rfl rfl (.c rfl .n) ce100 (zme (a:=a) (p:=pa) (cap:=ca) (hb:=cbo)) (.c (j:=0) rfl .n)<|e_mv rfl<|zU rfl rfl (.c rfl .n) ce100 (zme (a:=b) (p:=pb) (cap:=cb) (hb:=cbo)) (.c (j:=1) rfl .n)<|e_p (zh rfl)<|e_p (zh rfl)<|zk<|zg<|zj<|zt<|zBa (X:=Nat×Nat) (fun x:Nat×Nat=>Nat.gcd x.1 x.2=Nat.gcd a b∧x.1<1000000000000000000∧x.2<1000000000000000000) (fun x=>[(10,.int .u64 ((x.2:Nat):Int)),(9,.int .u64 ((x.1:Nat):Int)),(4,ye (some ⟨b3,0,none⟩))]) (fun x=>[boxA b3 42 [wz.b,wz.l],boxA b2 42 [.bool t,.slice p2 n2 c2],boxA b1 42 [.bool s,.slice p1 n1 c1]]) (fun x=>[slF (rI .u32) pa ca (yf a),slF (rI .u32) pb cb (yf b),slF (rI .u32) p26 c27 (yf ((yg t l2).natAbs)),slF (rI .u32) p24 c25 (yf ((yg s l1).natAbs)),slF (rI .u32) p1 c1 l1,slF (rI .u32) p2 c2 l2]) (fun x:Nat×Nat=>x.2) (a,b) (show Nat.gcd a b=Nat.gcd a b∧a<1000000000000000000∧b<1000000000000000000 from by exact ⟨rfl,ha18,hb18⟩) ((.of rfl):SubM _ _) (ho:=((.of [0,0,0] rfl):PickO _ _ _)) ((.of [0,1,2,3,4,5] rfl):SelR _ _ _) ?_
    rintro ⟨q,r⟩ hJ
    replace hJ:Nat.gcd q r=Nat.gcd a b∧q<1000000000000000000∧r<1000000000000000000:=hJ
    try dsimp only
    obtain ⟨hgq,hq18,hr18⟩:=hJ
    have hmr:=Nat.mod_le q r
    refine zj<|zj<|zc<|e_mv rfl<|e_p (zbb rfl rfl)<|zk<|zg<|zT rfl (fun hy=> ?_) (fun hy=> ?_)
    ·
     refine zw<|zg<|zt<|zP (OW:=[]) (O:=[boxA b3 42 [wz.b,wz.l],boxA b2 42 [.bool t,.slice p2 n2 c2],boxA b1 42 [.bool s,.slice p1 n1 c1]]) 100000 mixed (.block (.then (.block (.then .ret)))) kr<|e_dm 0 rfl rfl rfl<|e_dm 1 rfl rfl rfl<|e_dm 2 rfl rfl rfl<|e_pv 3 rfl rfl (znb (z:=(((q%r):Nat):Int)) rfl rfl om (remN om om))<|e_pv 4 rfl rfl (zh rfl)<|e_pv 5 rfl rfl (zh rfl)<|zN kr<|zI<|zwa (r,(q%r)) (show Nat.gcd r (q%r)=Nat.gcd a b∧r<1000000000000000000∧(q%r)<1000000000000000000 from by exact ⟨by rw [Big.gcd_rest,hgq],hr18,by omega⟩) (by exact Nat.mod_lt q om) ((.of rfl):SubM _ _) (ho:=((.of [0,0,0] rfl):PickO _ _ _)) ((.of [0,1,2,3,4,5] rfl):SelR _ _ _)
    ·
     have hrz:r=0:=by omega
     have hfin:q=Nat.gcd (yg s l1).natAbs (yg t l2).natAbs:=by rw [← hgc,←hgq,hrz,Nat.gcd_zero_right]
     obtain ⟨ht1,ht2⟩:=Big.two_val hq18
     refine zla<|zn<|zn<|zA<|zg<|zj<|zc<|e_mv rfl<|e_p (znb (z:=(((q%1000000000):Nat):Int)) rfl rfl om (remN om om))<|e_p (zQ (z:=(((q%1000000000):Nat):Int)) rfl (by rw [ym];rfl) yn (wu32 om))<|e_mv rfl<|e_p (zab (z:=(((q / 1000000000):Nat):Int)) rfl rfl om (by rw [quoN (z:=(((q / 1000000000):Nat):Int)) om om];exact wu64 om))<|e_p (zQ (z:=(((q / 1000000000):Nat):Int)) rfl (by rw [ym];rfl) yn (wu32 om))<|zDa rfl rfl (zR (enc:=fun z:Int=>[.int .u32 z]) (ok:=InK .u32) (h1:=fun _=>rfl) (h2:=fun _=>rfl) (k:=2) yh inf131 rfl dd dd dd (.c (x:=(((q%1000000000):Nat):Int)) rfl rfl (fun _ _=>by exact zL.2 om) (.c (x:=(((q / 1000000000):Nat):Int)) rfl rfl (fun _ _=>by exact zL.2 om) .n))) (fun b16 _=> ?_)
     refine zia 0 rfl .z<|zG rfl rfl (.c rfl (.c rfl .n)) ce91 (zcb (s:=false) (p:=some ⟨b16,0,none⟩) (n:=2) (cap:=2) (l:=[(((q%1000000000):Nat):Int),(((q / 1000000000):Nat):Int)]) (hn:=by first|rfl|omega|(simp;done)|(simp;omega)) (ho:=by exact ht1) (hln:=by first|rfl|omega|(simp;done)|(simp;omega))) (.c (j:=0) rfl .n) ?_
     rintro ⟨p217,c218⟩ -
     dsimp only [aq,nq,cq]
     refine zl 1 rfl rfl rfl rfl rfl sz42 rfl (.t2 .nil) (.s .z)<|zk<|zg<|zS ?_
     exact zM Tryz.results68 (p217,c218) trivial (zr 1 ty42 rfl rfl (.t2 .nil)) (by rw [ht2,←hfin];rfl) (ho:=(.n:PickO _ _ _)) ((.e (j:=0) rfl (by rw [ht2,←hfin];rfl) .n):SelR _ _ _)
theorem zvf {x1:Int} {x2:Int} {p1:Option Addr} {c1:Nat} {p2:Option Addr} {c2:Nat} (hb1:yo x1≤549755813888) (hb2:yo x2≤549755813888):Con yj 68 [.agg #[.bool (decide ((x1)<0)),.slice (p1) ((yf ((x1).natAbs)).length) (c1)],.agg #[.bool (decide ((x2)<0)),.slice (p2) ((yf ((x2).natAbs)).length) (c2)]] [] [slF (rI .u32) (p1) (c1) (yf ((x1).natAbs)),slF (rI .u32) (p2) (c2) (yf ((x2).natAbs))] (Y:=(Option Addr)×(Nat)) (fun y=>True) (fun y=> .agg #[.bool (decide ((((Nat.gcd x1.natAbs x2.natAbs:Nat):Int))<0)),.slice (y.1) ((yf ((((Nat.gcd x1.natAbs x2.natAbs:Nat):Int)).natAbs)).length) (y.2)]) (fun y=>[]) (fun y=>[slF (rI .u32) (y.1) (y.2) (yf ((((Nat.gcd x1.natAbs x2.natAbs:Nat):Int)).natAbs))]):=by
  have h:= @zMe (decide ((x1)<0)) p1 (yf (x1).natAbs).length c1 (yf (x1).natAbs) (decide ((x2)<0)) p2 (yf (x2).natAbs).length c2 (yf (x2).natAbs) rfl rfl hb1 hb2
  rw [yv,yv] at h
  exact h
theorem zwf {w1:Wd} {w2:Wd} {x1:Int} {x2:Int} (hb1:yo x1≤549755813888) (hb2:yo x2≤549755813888):Con yj 68 [.agg #[w1.b,w1.l],.agg #[w2.b,w2.l]] [] [zF w1 (x1),zF w2 (x2)] (Y:=(Wd)) (fun y=>True) (fun y=> .agg #[y.b,y.l]) (fun y=>[]) (fun y=>[zF y (((Nat.gcd x1.natAbs x2.natAbs:Nat):Int))]):=by
  exact zkc (zvc (fun p1 c1 p2 c2=>zvf hb1 hb2))
theorem zne {s:Bool} {p1:Option Addr} {n1:Nat} {c1:Nat} {l1:List Int} {t:Bool} {p2:Option Addr} {n2:Nat} {c2:Nat} {l2:List Int} (hn1:l1.length=n1) (hn2:l2.length=n2) (hm1:n1≤549755813888) (hm2:n2≤549755813888):Con yj 67 [.agg #[.bool s,.slice p1 n1 c1],.agg #[.bool t,.slice p2 n2 c2]] [] [slF (rI .u32) p1 c1 l1,slF (rI .u32) p2 c2 l2] (Y:=Unit) (fun y=>True) (fun y=> yc yd ((yg s l1 - yg t l2).sign)) (fun y=>[]) (fun y=>[]):=by
 refine zv Tryz.func67 rfl rfl rfl (fun c=> ?_)
 show RunC _ _ _ _ _ [(0,.agg #[.bool s,.slice p1 n1 c1]),(1,.agg #[.bool t,.slice p2 n2 c2])] [] [slF (rI .u32) p1 c1 l1,slF (rI .u32) p2 c2 l2]
 refine zqa 0 rfl (fun hL0=> ?_)
 refine zfb 0 rfl (fun hE0=> ?_)
 refine zqa 1 rfl (fun hL1=> ?_)
 refine zfb 1 rfl (fun hE1=> ?_)
 have hnn1:yK l1:=fun g hg=>(zL.1 (hE0 g hg)).1
 have hnn2:yK l2:=fun g hg=>(zL.1 (hE1 g hg)).1
 have hb1:yo (yg s l1)≤n1:=by have:=yJ (s:=s) hnn1;omega
 have hb2:yo (yg t l2)≤n2:=by have:=yJ (s:=t) hnn2;omega
 unfold yo at hb1 hb2
 have hls:=Big.ln_sub (yg s l1) (yg t l2)
 unfold yo at hls
 refine zj<|zc<|zE rfl rfl (zZ rfl rfl) (fun b1=> ?_)
 refine zE rfl rfl (zZ rfl rfl) (fun b2=> ?_)
 refine e_p (zh rfl)<|zk<|zg<|zj<|zc<|e_ru (zd 1 ty42 rfl rfl (.t2 .nil))<|e_ru (zd 0 ty42 rfl rfl (.t2 .nil))<|zG rfl rfl (.c rfl (.c rfl .n)) ce98 (zLe (s:=s) (p1:=p1) (n1:=n1) (c1:=c1) (l1:=l1) (t:=t) (p2:=p2) (n2:=n2) (c2:=c2) (l2:=l2) (hn1:=ass) (hn2:=ass) (hm1:=by first|rfl|assumption|omega|(unfold yo;omega)) (hm2:=by first|rfl|assumption|omega|(unfold yo;omega))) (.c (j:=0) rfl (.c (j:=1) rfl .n)) ?_
 rintro ⟨p33,c34⟩ -
 dsimp only [aq,nq,cq]
 refine zU rfl rfl (.c rfl .n) ce66 (zBd (z:=yg s l1 - yg t l2) (p:=p33) (cap:=c34) (hln:=by first|rfl|assumption|omega|(unfold yo;omega))) (.c (j:=0) rfl .n)<|e_p (zh rfl)<|zk<|zg<|zS ?_
 exact zM Tryz.results67 () trivial (zC rfl) rfl (ho:=(.n:PickO _ _ _)) (.n:SelR _ _ _)
theorem zSd {x1:Int} {x2:Int} {p1:Option Addr} {c1:Nat} {p2:Option Addr} {c2:Nat} (hb1:yo x1≤549755813888) (hb2:yo x2≤549755813888):Con yj 67 [.agg #[.bool (decide ((x1)<0)),.slice (p1) ((yf ((x1).natAbs)).length) (c1)],.agg #[.bool (decide ((x2)<0)),.slice (p2) ((yf ((x2).natAbs)).length) (c2)]] [] [slF (rI .u32) (p1) (c1) (yf ((x1).natAbs)),slF (rI .u32) (p2) (c2) (yf ((x2).natAbs))] (Y:=Unit) (fun y=>True) (fun y=> yc yd ((x1 - x2).sign)) (fun y=>[]) (fun y=>[]):=by
  have h:= @zne (decide ((x1)<0)) p1 (yf (x1).natAbs).length c1 (yf (x1).natAbs) (decide ((x2)<0)) p2 (yf (x2).natAbs).length c2 (yf (x2).natAbs) rfl rfl hb1 hb2
  rw [yv,yv] at h
  exact h
theorem zoe {x1:Int} {x2:Int} {p1:Option Addr} {c1:Nat} {p2:Option Addr} {c2:Nat} (hb1:yo x1≤274877906944) (hb2:yo x2≤274877906944) (hy:x2≠0):Con yj 89 [.agg #[.bool (decide (x1<0)),.slice p1 ((yf ((x1).natAbs)).length) c1],.agg #[.bool (decide (x2<0)),.slice p2 ((yf ((x2).natAbs)).length) c2]] [] [slF (rI .u32) p1 c1 (yf ((x1).natAbs)),slF (rI .u32) p2 c2 (yf ((x2).natAbs))] (Y:=(Option Addr)×Nat×(Option Addr)×Nat) (fun y=>True) (fun y=> .tuple #[.agg #[.bool (decide ((yD x1 x2)<0)),.slice (y.1) ((yf ((yD x1 x2).natAbs)).length) (y.2.1)],.agg #[.bool (decide ((yZ x1 x2)<0)),.slice (y.2.2.1) ((yf ((yZ x1 x2).natAbs)).length) (y.2.2.2)],yc yd 0]) (fun y=>[]) (fun y=>[slF (rI .u32) (y.1) (y.2.1) (yf ((yD x1 x2).natAbs)),slF (rI .u32) (y.2.2.1) (y.2.2.2) (yf ((yZ x1 x2).natAbs))]):=by
 refine zv Tryz.func89 rfl rfl rfl (fun c=> ?_)
 show RunC _ _ _ _ _ [(0,.agg #[.bool (decide (x1<0)),.slice p1 ((yf ((x1).natAbs)).length) c1]),(1,.agg #[.bool (decide (x2<0)),.slice p2 ((yf ((x2).natAbs)).length) c2])] [] [slF (rI .u32) p1 c1 (yf ((x1).natAbs)),slF (rI .u32) p2 c2 (yf ((x2).natAbs))]
 refine zqa 0 rfl (fun hL0=> ?_)
 refine zqa 1 rfl (fun hL1=> ?_)
 have hfl:=Big.ln_fq (x:=x1) hy
 have hml:=yU (yD x1 x2) x2
 unfold yo at hb1 hb2 hfl hml
 have hd1:=Nat.div_le_self x1.natAbs x2.natAbs
 have hd2:=Nat.mod_lt x1.natAbs (show 0<x2.natAbs by omega)
 have hl1:=yB hd1
 have hl2:=yB (Nat.le_of_lt hd2)
 refine zj<|zc<|zE rfl rfl (zZ rfl rfl) (fun b1=> ?_)
 refine zE rfl rfl (zZ rfl rfl) (fun b2=> ?_)
 refine zE rfl rfl (zo zr42 rfl) (fun b3=> ?_)
 refine zE rfl rfl (zo zr42 rfl) (fun b4=> ?_)
 refine e_p (zh rfl)<|zk<|zg<|zj<|zaa (.c (i:=3) rfl (.c (i:=2) rfl (.c (i:=0) rfl (.c (i:=0) rfl .n))))<|zP (OW:=[boxA b1 42 [.bool (decide (x1<0)),.slice p1 ((yf ((x1).natAbs)).length) c1],boxA b2 42 [.bool (decide (x2<0)),.slice p2 ((yf ((x2).natAbs)).length) c2]]) (O:=[boxA b4 42 [wz.b,wz.l],boxA b3 42 [wz.b,wz.l]]) 4 mixed (.then .ret) kr<|e_uw 0 rfl rfl (zd 0 ty42 rfl rfl (.t2 .nil))<|e_uw 2 rfl rfl (zd 1 ty42 rfl rfl (.t2 .nil))<|e_one 1 (zm rfl rfl rfl rfl (.c rfl .n) ce90 (zid (z:=x1) (p:=p1) (cap:=c1) (hln:=by first|rfl|assumption|omega|(unfold yo;omega)|(unfold yo;rw [hsq];omega)|(decide +kernel))) (.c (j:=0) rfl .n) ?_)
 rintro ⟨p25,c26⟩ -
 dsimp only [aq,nq,cq]
 refine e_one 3 (zm rfl rfl rfl rfl (.c rfl .n) ce90 (zid (z:=x2) (p:=p2) (cap:=c2) (hln:=by first|rfl|assumption|omega|(unfold yo;omega)|(unfold yo;rw [hsq];omega)|(decide +kernel))) (.c (j:=2) rfl .n) ?_)
 rintro ⟨p27,c28⟩ -
 dsimp only [aq,nq,cq]
 refine e_one 4 (zp kr rfl rfl rfl rfl rfl sz42 rfl (.t2 .nil) ?_)
 refine zhb (zoa (i:=1) rfl)<|e_one 5 (zp kr rfl rfl rfl rfl rfl sz42 rfl (.t2 .nil) ?_)
 refine zN kr<|zg<|zj<|zj<|zc<|e_p (zf yi rfl sz40 rfl rfl)<|e_ru (ze 0 ty40 rfl rfl rfl)<|e_p (zfa yh rfl)<|e_p (zOa rfl rfl)<|zk<|zg<|zT rfl (fun h9=> ?_) (fun h9=> ?_)
 ·
  exact absurd (yR.1 (show (yf x2.natAbs).length=0 by omega)) om
 ·
  refine zw<|zg<|zj<|zc<|e_p (zf yi rfl sz40 rfl rfl)<|e_ru (ze 1 ty40 rfl rfl rfl)<|e_p (zf yi rfl sz40 rfl rfl)<|e_ru (ze 0 ty40 rfl rfl rfl)<|zG rfl rfl (.c rfl (.c rfl .n)) ce99 (zDd (a:=(x1).natAbs) (b:=(x2).natAbs) (p1:=p25) (c1:=c26) (p2:=p27) (c2:=c28) (hb1:=by first|rfl|assumption|omega|(unfold yo;omega)|(unfold yo;rw [hsq];omega)|(decide +kernel)) (hb2:=by first|rfl|assumption|omega|(unfold yo;omega)|(unfold yo;rw [hsq];omega)|(decide +kernel)) (hb0:=by first|rfl|assumption|omega|(unfold yo;omega)|(unfold yo;rw [hsq];omega)|(decide +kernel))) (.c (j:=1) rfl (.c (j:=0) rfl .n)) ?_
  rintro ⟨p310,c311,p412,c413⟩ -
  dsimp only [aq,nq,cq]
  refine e_mv rfl<|e_p (zy rfl rfl)<|e_p (zy rfl rfl)<|e_p (zh rfl)<|e_p (zh rfl)<|zk<|zg<|zj ?_
  obtain ⟨Q,hQ⟩:∃z,z=((x1).natAbs) / ((x2).natAbs):=⟨_,rfl⟩
  rw [← hQ]
  obtain ⟨R0,hR0⟩:∃z,z=((x1).natAbs)%((x2).natAbs):=⟨_,rfl⟩
  rw [← hR0]
  rw [← hQ] at hl1
  rw [← hR0] at hl2
  have hsq:(yA (decide (decide (x1<0)≠decide (x2<0))) (Q:Int)).natAbs=Q:=by rw [yX om];exact Int.toNat_natCast _
  refine zc<|e_p (zf yi rfl sz4 rfl rfl)<|e_ru (ze 1 ty4 rfl rfl rfl)<|e_p (zf yi rfl sz4 rfl rfl)<|e_ru (ze 0 ty4 rfl rfl rfl)<|e_p (zgb yS rfl rfl)<|e_mv rfl<|zG rfl rfl (.c rfl (.c rfl .n)) ce91 (zDb (s:=decide (decide (x1<0)≠decide (x2<0))) (a:=Q) (p:=p310) (cap:=c311) (hln:=by first|rfl|assumption|omega|(unfold yo;omega)|(unfold yo;rw [hsq];omega)|(decide +kernel))) (.c (j:=0) rfl .n) ?_
  rintro ⟨p214,c215⟩ -
  dsimp only [aq,nq,cq]
  refine zE rfl rfl (zo zr42 rfl) (fun b16=> ?_)
  refine zl 0 rfl rfl rfl rfl rfl sz42 rfl (.t2 .nil) .z<|zk<|zg<|zj<|zj<|zc<|e_p (zf yi rfl sz4 rfl rfl)<|e_ru (ze 2 ty4 rfl rfl rfl)<|e_p (zf yi rfl sz4 rfl rfl)<|e_ru (ze 1 ty4 rfl rfl rfl)<|e_p (zgb yS rfl rfl)<|zja rfl rfl (zka rfl) (fun hsd=> ?_) (fun hsd=> ?_)
  ·
   refine e_mv rfl<|e_p (zfa yh rfl)<|e_p (zbb rfl rfl)<|e_p (zK rfl rfl)<|zk<|zg<|zT rfl (fun hadj=> ?_) (fun hadj=> ?_)
   ·
    have hr0:x1.natAbs%x2.natAbs≠0:=fun e=>by rw [hR0,e,Big.digs_zero] at hadj;exact absurd hadj dd
    have hqz:yA (decide (decide (x1<0)≠decide (x2<0))) (Q:Int) - 1=yD x1 x2:=by have h9:=(Big.fq_odd hy hsd hr0).1;rw [← h9,decide_eq_true hsd,hQ,Big.sg_t,Big.sg_t];omega
    refine zP (OW:=[boxA b16 42 [.bool (decide ((yA (decide (decide (x1<0)≠decide (x2<0))) (Q:Int))<0)),.slice p214 ((yf ((yA (decide (decide (x1<0)≠decide (x2<0))) (Q:Int)).natAbs)).length) c215]]) (O:=[boxA b2 42 [.bool (decide (x2<0)),.slice p27 ((yf ((x2).natAbs)).length) c28],boxA b1 42 [.bool (decide (x1<0)),.slice p25 ((yf ((x1).natAbs)).length) c26],boxA b4 42 [wz.b,wz.l],boxA b3 42 [wz.b,wz.l]]) 3 mixed (.then .ret) kr<|e_uw 0 rfl rfl (zd 0 ty42 rfl rfl (.t2 .nil))<|e_one 1 (zm rfl rfl rfl rfl (.c rfl .n) ce87 (zqf (z:=1) (hz:=by first|rfl|assumption|omega|(unfold yo;omega)|(unfold yo;rw [hsq];omega)|(decide +kernel))) (.n) ?_)
    rintro ⟨p217,c218⟩ -
    dsimp only [aq,nq,cq]
    refine e_one 2 (zm rfl rfl rfl rfl (.c rfl (.c rfl .n)) ce98 (zCc (x1:=yA (decide (decide (x1<0)≠decide (x2<0))) (Q:Int)) (x2:=1) (p1:=p214) (c1:=c215) (p2:=p217) (c2:=c218) (hb1:=by first|rfl|assumption|omega|(unfold yo;omega)|(unfold yo;rw [hsq];omega)|(decide +kernel)) (hb2:=by first|rfl|assumption|omega|(unfold yo;omega)|(unfold yo;rw [hsq];omega)|(decide +kernel))) (.c (j:=1) rfl (.c (j:=0) rfl .n)) ?_)
    rintro ⟨p319,c320⟩ -
    dsimp only [aq,nq,cq]
    refine e_one 3 (zp kr rfl rfl rfl rfl rfl sz42 rfl (.t2 .nil) ?_)
    refine zN kr<|zg<|zj ?_
    have e21:(yA (decide (decide (x1<0)≠decide (x2<0))) (Q:Int)) - 1=yD x1 x2:=by exact hqz
    rw [e21]
    refine zaa (.c (i:=4) rfl (.c (i:=3) rfl (.c (i:=0) rfl (.c (i:=0) rfl (.c (i:=0) rfl .n)))))<|zP (OW:=[boxA b3 42 [wz.b,wz.l],boxA b4 42 [wz.b,wz.l]]) (O:=[boxA b16 42 [.bool (decide ((yD x1 x2)<0)),.slice p319 ((yf ((yD x1 x2).natAbs)).length) c320],boxA b2 42 [.bool (decide (x2<0)),.slice p27 ((yf ((x2).natAbs)).length) c28],boxA b1 42 [.bool (decide (x1<0)),.slice p25 ((yf ((x1).natAbs)).length) c26]]) 6 mixed (.then .ret) kr<|e_uw 0 rfl rfl (zd 2 ty42 rfl rfl (.t2 .nil))<|e_uw 1 rfl rfl (zd 4 ty42 rfl rfl (.t2 .nil))<|e_uw 2 rfl rfl (zd 2 ty42 rfl rfl (.t2 .nil))<|e_uw 3 rfl rfl (zd 3 ty42 rfl rfl (.t2 .nil))<|e_one 4 (zm rfl rfl rfl rfl (.c rfl (.c rfl .n)) ce60 (zDc (x1:=yD x1 x2) (x2:=x2) (p1:=p319) (c1:=c320) (p2:=p27) (c2:=c28) (hb1:=by first|rfl|assumption|omega|(unfold yo;omega)|(unfold yo;rw [hsq];omega)|(decide +kernel)) (hb2:=by first|rfl|assumption|omega|(unfold yo;omega)|(unfold yo;rw [hsq];omega)|(decide +kernel))) (.c (j:=0) rfl (.c (j:=5) rfl .n)) ?_)
    rintro ⟨p322,c323⟩ -
    dsimp only [aq,nq,cq]
    refine e_one 5 (zm rfl rfl rfl rfl (.c rfl (.c rfl .n)) ce98 (zCc (x1:=x1) (x2:=(yD x1 x2)*x2) (p1:=p25) (c1:=c26) (p2:=p322) (c2:=c323) (hb1:=by first|rfl|assumption|omega|(unfold yo;omega)|(unfold yo;rw [hsq];omega)|(decide +kernel)) (hb2:=by first|rfl|assumption|omega|(unfold yo;omega)|(unfold yo;rw [hsq];omega)|(decide +kernel))) (.c (j:=7) rfl (.c (j:=0) rfl .n)) ?_)
    rintro ⟨p324,c325⟩ -
    dsimp only [aq,nq,cq]
    refine e_one 6 (zp kr rfl rfl rfl rfl rfl sz42 rfl (.t2 .nil) ?_)
    refine zhb (zoa (i:=1) rfl)<|e_one 7 (zp kr rfl rfl rfl rfl rfl sz42 rfl (.t2 .nil) ?_)
    refine e_pv 8 rfl rfl (zh rfl)<|zN kr<|zg<|zS ?_
    have hz2:x1 - yD x1 x2*x2=yZ x1 x2:=by unfold yZ;rw [Int.mul_comm]
    exact zsd Tryz.results89 (p319,c320,p324,c325) trivial (zr 1 ty42 rfl rfl (.t2 .nil)) (zr 0 ty42 rfl rfl (.t2 .nil)) (zC rfl) (by rw [hz2]) (ho:=(.n:PickO _ _ _)) ((.c (j:=2) rfl (.e (j:=0) rfl (by rw [hz2]) .n)):SelR _ _ _)
   ·
    have hr0:x1.natAbs%x2.natAbs=0:=yR.1 (by rw [← hR0];omega)
    have hqz:yA (decide (decide (x1<0)≠decide (x2<0))) (Q:Int)=yD x1 x2:=by rw [decide_eq_true hsd,hQ];exact (Big.fq_even hy hsd hr0).1
    refine zw<|zg<|zj ?_
    have e26:yA (decide (decide (x1<0)≠decide (x2<0))) (Q:Int)=yD x1 x2:=by exact hqz
    rw [e26]
    refine zaa (.c (i:=4) rfl (.c (i:=3) rfl (.c (i:=0) rfl (.c (i:=0) rfl (.c (i:=0) rfl .n)))))<|zP (OW:=[boxA b3 42 [wz.b,wz.l],boxA b4 42 [wz.b,wz.l]]) (O:=[boxA b16 42 [.bool (decide ((yD x1 x2)<0)),.slice p214 ((yf ((yD x1 x2).natAbs)).length) c215],boxA b2 42 [.bool (decide (x2<0)),.slice p27 ((yf ((x2).natAbs)).length) c28],boxA b1 42 [.bool (decide (x1<0)),.slice p25 ((yf ((x1).natAbs)).length) c26]]) 6 mixed (.then .ret) kr<|e_uw 0 rfl rfl (zd 2 ty42 rfl rfl (.t2 .nil))<|e_uw 1 rfl rfl (zd 4 ty42 rfl rfl (.t2 .nil))<|e_uw 2 rfl rfl (zd 2 ty42 rfl rfl (.t2 .nil))<|e_uw 3 rfl rfl (zd 3 ty42 rfl rfl (.t2 .nil))<|e_one 4 (zm rfl rfl rfl rfl (.c rfl (.c rfl .n)) ce60 (zDc (x1:=yD x1 x2) (x2:=x2) (p1:=p214) (c1:=c215) (p2:=p27) (c2:=c28) (hb1:=by first|rfl|assumption|omega|(unfold yo;omega)|(unfold yo;rw [hsq];omega)|(decide +kernel)) (hb2:=by first|rfl|assumption|omega|(unfold yo;omega)|(unfold yo;rw [hsq];omega)|(decide +kernel))) (.c (j:=0) rfl (.c (j:=3) rfl .n)) ?_)
    rintro ⟨p327,c328⟩ -
    dsimp only [aq,nq,cq]
    refine e_one 5 (zm rfl rfl rfl rfl (.c rfl (.c rfl .n)) ce98 (zCc (x1:=x1) (x2:=(yD x1 x2)*x2) (p1:=p25) (c1:=c26) (p2:=p327) (c2:=c328) (hb1:=by first|rfl|assumption|omega|(unfold yo;omega)|(unfold yo;rw [hsq];omega)|(decide +kernel)) (hb2:=by first|rfl|assumption|omega|(unfold yo;omega)|(unfold yo;rw [hsq];omega)|(decide +kernel))) (.c (j:=5) rfl (.c (j:=0) rfl .n)) ?_)
    rintro ⟨p329,c330⟩ -
    dsimp only [aq,nq,cq]
    refine e_one 6 (zp kr rfl rfl rfl rfl rfl sz42 rfl (.t2 .nil) ?_)
    refine zhb (zoa (i:=1) rfl)<|e_one 7 (zp kr rfl rfl rfl rfl rfl sz42 rfl (.t2 .nil) ?_)
    refine e_pv 8 rfl rfl (zh rfl)<|zN kr<|zg<|zS ?_
    have hz2:x1 - yD x1 x2*x2=yZ x1 x2:=by unfold yZ;rw [Int.mul_comm]
    exact zsd Tryz.results89 (p214,c215,p329,c330) trivial (zr 1 ty42 rfl rfl (.t2 .nil)) (zr 0 ty42 rfl rfl (.t2 .nil)) (zC rfl) (by rw [hz2]) (ho:=(.n:PickO _ _ _)) ((.c (j:=2) rfl (.e (j:=0) rfl (by rw [hz2]) .n)):SelR _ _ _)
  ·
   have hs9:=Decidable.not_not.1 hsd
   have hqz:yA (decide (decide (x1<0)≠decide (x2<0))) (Q:Int)=yD x1 x2:=by rw [decide_eq_false hsd,hQ];exact (Big.fq_same hy hs9).1
   refine e_no<|e_no<|e_no<|e_p (zK rfl rfl)<|zk<|zg<|zta rfl rfl<|zw<|zg<|zj ?_
   have e31:yA (decide (decide (x1<0)≠decide (x2<0))) (Q:Int)=yD x1 x2:=by exact hqz
   rw [e31]
   refine zaa (.c (i:=4) rfl (.c (i:=3) rfl (.c (i:=0) rfl (.c (i:=0) rfl (.c (i:=0) rfl .n)))))<|zP (OW:=[boxA b3 42 [wz.b,wz.l],boxA b4 42 [wz.b,wz.l]]) (O:=[boxA b16 42 [.bool (decide ((yD x1 x2)<0)),.slice p214 ((yf ((yD x1 x2).natAbs)).length) c215],boxA b2 42 [.bool (decide (x2<0)),.slice p27 ((yf ((x2).natAbs)).length) c28],boxA b1 42 [.bool (decide (x1<0)),.slice p25 ((yf ((x1).natAbs)).length) c26]]) 6 mixed (.then .ret) kr<|e_uw 0 rfl rfl (zd 2 ty42 rfl rfl (.t2 .nil))<|e_uw 1 rfl rfl (zd 4 ty42 rfl rfl (.t2 .nil))<|e_uw 2 rfl rfl (zd 2 ty42 rfl rfl (.t2 .nil))<|e_uw 3 rfl rfl (zd 3 ty42 rfl rfl (.t2 .nil))<|e_one 4 (zm rfl rfl rfl rfl (.c rfl (.c rfl .n)) ce60 (zDc (x1:=yD x1 x2) (x2:=x2) (p1:=p214) (c1:=c215) (p2:=p27) (c2:=c28) (hb1:=by first|rfl|assumption|omega|(unfold yo;omega)|(unfold yo;rw [hsq];omega)|(decide +kernel)) (hb2:=by first|rfl|assumption|omega|(unfold yo;omega)|(unfold yo;rw [hsq];omega)|(decide +kernel))) (.c (j:=0) rfl (.c (j:=3) rfl .n)) ?_)
   rintro ⟨p332,c333⟩ -
   dsimp only [aq,nq,cq]
   refine e_one 5 (zm rfl rfl rfl rfl (.c rfl (.c rfl .n)) ce98 (zCc (x1:=x1) (x2:=(yD x1 x2)*x2) (p1:=p25) (c1:=c26) (p2:=p332) (c2:=c333) (hb1:=by first|rfl|assumption|omega|(unfold yo;omega)|(unfold yo;rw [hsq];omega)|(decide +kernel)) (hb2:=by first|rfl|assumption|omega|(unfold yo;omega)|(unfold yo;rw [hsq];omega)|(decide +kernel))) (.c (j:=5) rfl (.c (j:=0) rfl .n)) ?_)
   rintro ⟨p334,c335⟩ -
   dsimp only [aq,nq,cq]
   refine e_one 6 (zp kr rfl rfl rfl rfl rfl sz42 rfl (.t2 .nil) ?_)
   refine zhb (zoa (i:=1) rfl)<|e_one 7 (zp kr rfl rfl rfl rfl rfl sz42 rfl (.t2 .nil) ?_)
   refine e_pv 8 rfl rfl (zh rfl)<|zN kr<|zg<|zS ?_
   have hz2:x1 - yD x1 x2*x2=yZ x1 x2:=by unfold yZ;rw [Int.mul_comm]
   exact zsd Tryz.results89 (p214,c215,p334,c335) trivial (zr 1 ty42 rfl rfl (.t2 .nil)) (zr 0 ty42 rfl rfl (.t2 .nil)) (zC rfl) (by rw [hz2]) (ho:=(.n:PickO _ _ _)) ((.c (j:=2) rfl (.e (j:=0) rfl (by rw [hz2]) .n)):SelR _ _ _)
theorem zJb {w1:Wd} {w2:Wd} {x1:Int} {x2:Int} (hb1:yo x1≤274877906944) (hb2:yo x2≤274877906944) (hy:x2≠0):Con yj 89 [.agg #[w1.b,w1.l],.agg #[w2.b,w2.l]] [] [zF w1 (x1),zF w2 (x2)] (Y:=(Wd)×(Wd)) (fun y=>True) (fun y=> .tuple #[.agg #[y.1.b,y.1.l],.agg #[y.2.b,y.2.l],yc yd (0)]) (fun y=>[]) (fun y=>[zF y.1 (yD x1 x2),zF y.2 (yZ x1 x2)]):=by
  exact zmf (zvc (fun p1 c1 p2 c2=>zoe hb1 hb2 hy))
end Go.Proofs.YtjeahiahjgifgaaGreatDoor.Sp
namespace Go.Proofs.YtjeahiahjgifgaaGreatDoor.Sp
open Go
set_option linter.unusedVariables false
set_option maxRecDepth 100000
set_option maxHeartbeats 8000000
theorem zEd {z:Int} (hz: -9223372036854775808≤z∧z≤9223372036854775807):Con yj 56 [yc yd z] [] [] (Y:=(Option Addr)×Nat) (fun y=>True) (fun y=> .agg #[.bool (decide (z<0)),.slice (y.1) ((yf ((z).natAbs)).length) (y.2)]) (fun y=>[]) (fun y=>[slF (rI .u32) (y.1) (y.2) (yf ((z).natAbs))]):=by
 refine zv Tryz.func56 rfl rfl rfl (fun c=> ?_)
 show RunC _ _ _ _ _ [(0,yc yd z)] [] []
 refine zj<|zc<|zE rfl rfl (zo zr42 rfl) (fun b1=> ?_)
 refine zk<|zg<|zj<|zc<|e_mv rfl<|zG rfl rfl (.c rfl .n) ce87 (zqf (z:=z) (hz:=ass)) (.n) ?_
 rintro ⟨p22,c23⟩ -
 dsimp only [aq,nq,cq]
 refine zl 0 rfl rfl rfl rfl rfl sz42 rfl (.t2 .nil) .z<|zk<|zg<|zS ?_
 exact zM Tryz.results56 (p22,c23) trivial (zr 0 ty42 rfl rfl (.t2 .nil)) rfl (ho:=(.n:PickO _ _ _)) ((.c (j:=0) rfl .n):SelR _ _ _)
theorem zVb {z:Int} (hz: -9223372036854775808≤z∧z≤9223372036854775807):Con yj 56 [yc yd (z)] [] [] (Y:=(Wd)) (fun y=>True) (fun y=> .agg #[y.b,y.l]) (fun y=>[]) (fun y=>[zF y (z)]):=by
  exact zkc (zEd hz)
theorem zva {z:Int} (hz: -9223372036854775808≤z∧z≤9223372036854775807):Con yj 22 [yc yd z] [] [] (Y:=Wd×Wd) (fun y=>True) (fun y=> .agg #[y.1.b,y.1.l,y.2.b,y.2.l]) (fun y=>[]) (fun y=>[qF true y.1 y.2 ((z:Int):Rat)]):=by
 refine zv Tryz.func22 rfl rfl rfl (fun c=> ?_)
 show RunC _ _ _ _ _ [(0,yc yd z)] [] []
 refine zj<|zc<|zE rfl rfl (zo zr44 rfl) (fun b1=> ?_)
 refine zk<|zg<|zj<|zc<|e_mv rfl<|zG rfl rfl (.c rfl .n) ce56 (zVb (z:=z) (hz:=ass)) (.n) ?_
 rintro w32 -
 dsimp only [aq,nq,cq]
 refine zG rfl rfl (.c rfl .n) ce56 (zVb (z:=1) (hz:=by first|rfl|assumption|omega|(rw [yr];omega)|(decide +kernel))) (.n) ?_
 rintro w33 -
 dsimp only [aq,nq,cq]
 refine e_p (zx zr44 rfl yk (.c sz42 (.c sz42 .n)) (.c rfl (.c rfl .n)) (.c rfl rfl rfl (.t2 .nil) (.c rfl rfl rfl (.s2 (.t2 .nil)) .n)))<|zl 0 rfl rfl rfl rfl rfl sz44 rfl (.t4 .nil) .z<|zk<|zg<|zS<|zdb (qF true w32 w33 ((z:Int):Rat)) (qF_close 1 0 rfl rfl (by exact ⟨(Rat.num_intCast z).symm,by rw [Rat.den_intCast];rfl,Nat.le_trans (Big.hq_64 hz.1 hz.2) dd⟩)) ?_
 exact zM Tryz.results22 (w32,w33) trivial (zr 0 ty44 rfl rfl (.t4 .nil)) rfl (ho:=(.n:PickO _ _ _)) ((.c (j:=0) rfl .n):SelR _ _ _)
theorem zqc {s:Bool} {p1:Option Addr} {n1:Nat} {c1:Nat} {l1:List Int} {t:Bool} {p2:Option Addr} {n2:Nat} {c2:Nat} {l2:List Int} (hn1:l1.length=n1) (hn2:l2.length=n2) (hm1:n1≤1048576) (hm2:n2≤1048576):Con yj 31 [.agg #[.bool s,.slice p1 n1 c1,.bool t,.slice p2 n2 c2]] [] [slF (rI .u32) p1 c1 l1,slF (rI .u32) p2 c2 l2] (Y:=Unit) (fun y=>True) (fun y=> .bool (decide (Big.qok ((s,l1),(t,l2))))) (fun y=>[]) (fun y=>[]):=by
 refine zv Tryz.func31 rfl rfl rfl (fun c=> ?_)
 show RunC _ _ _ _ _ [(0,.agg #[.bool s,.slice p1 n1 c1,.bool t,.slice p2 n2 c2])] [] [slF (rI .u32) p1 c1 l1,slF (rI .u32) p2 c2 l2]
 refine zqa 0 rfl (fun hL0=> ?_)
 refine zfb 0 rfl (fun hE0=> ?_)
 refine zqa 1 rfl (fun hL1=> ?_)
 refine zfb 1 rfl (fun hE1=> ?_)
 have hnn1:yK l1:=fun g hg=>(zL.1 (hE0 g hg)).1
 have hnn2:yK l2:=fun g hg=>(zL.1 (hE1 g hg)).1
 have hb1:yo (yg s l1)≤n1:=by have:=yJ (s:=s) hnn1;omega
 have hb2:yo (yg t l2)≤n2:=by have:=yJ (s:=t) hnn2;omega
 refine zj<|zc<|zE rfl rfl (zZ rfl rfl) (fun b1=> ?_)
 refine e_p (zh rfl)<|zk<|zg<|zj<|zAa (X:=Unit) (fun x=>True) (fun x=>[(18,.bool (decide (¬(Big.canon s l1∧Big.canon t l2∧0<yg t l2)))),(2,.bool false),(1,ye (some ⟨b1,0,none⟩))]) (fun x=>[boxA b1 44 [.bool s,.slice p1 n1 c1,.bool t,.slice p2 n2 c2]]) (fun x=>[slF (rI .u32) p1 c1 l1,slF (rI .u32) p2 c2 l2]) ?_ ?_
 ·
  refine zc<|e_p (zf yk rfl sz42 rfl rfl)<|e_ru (zd 0 ty42 rfl rfl (.t2 .nil))<|zU rfl rfl (.c rfl .n) ce65 (zJc (s:=s) (p:=p1) (n:=n1) (cap:=c1) (l:=l1) (hn:=ass)) (.c (j:=0) rfl .n)<|e_p (zKa rfl)<|zja rfl rfl (zka rfl) (fun h2=> ?_) (fun h2=> ?_)
  ·
   refine e_no<|e_no<|e_no<|e_no<|e_p (zK rfl rfl)<|e_mv rfl<|e_no<|e_no<|e_no<|e_no<|e_p (zK rfl rfl)<|zk ?_
   exact zha () (show True from by first|trivial|omega|simp_all) ((.e rfl (congrArg Value.bool (by simp_all)) (.c rfl (.c rfl .n))):SubM _ _) (ho:=((.c (i:=0) rfl .n):PickO _ _ _)) ((.of [0,1] rfl):SelR _ _ _)
  ·
   refine e_p (zf yk rfl sz42 rfl rfl)<|e_ru (zd 0 ty42 rfl rfl (.s2 (.t2 .nil)))<|zU rfl rfl (.c rfl .n) ce65 (zJc (s:=t) (p:=p2) (n:=n2) (cap:=c2) (l:=l2) (hn:=ass)) (.c (j:=1) rfl .n)<|e_p (zKa rfl)<|e_p (zK rfl rfl)<|zja rfl rfl (zka rfl) (fun h3=> ?_) (fun h3=> ?_)
   ·
    refine e_no<|e_no<|e_no<|e_no<|e_p (zK rfl rfl)<|zk ?_
    exact zha () (show True from by first|trivial|omega|simp_all) ((.e rfl (congrArg Value.bool (by simp_all)) (.c rfl (.c rfl .n))):SubM _ _) (ho:=((.c (i:=0) rfl .n):PickO _ _ _)) ((.of [0,1] rfl):SelR _ _ _)
   ·
    refine e_p (zf yk rfl sz42 rfl rfl)<|e_ru (zd 0 ty42 rfl rfl (.s2 (.t2 .nil)))<|zU rfl rfl (.c rfl .n) ce66 (zke (s:=t) (p:=p2) (n:=n2) (cap:=c2) (l:=l2) (hn:=ass) (hln:=by first|rfl|assumption|omega|(rw [yr];omega)|(decide +kernel))) (.c (j:=1) rfl .n)<|e_p (zKb rfl rfl)<|e_p (zK rfl rfl)<|zk ?_
    exact zha () (show True from by first|trivial|omega|simp_all) ((.e rfl (congrArg Value.bool (by exact decide_eq_decide.2 (Big.sgn_le (Decidable.not_not.1 ‹_›) (Decidable.not_not.1 ‹_›)))) (.c rfl (.c rfl .n))):SubM _ _) (ho:=((.c (i:=0) rfl .n):PickO _ _ _)) ((.of [0,1] rfl):SelR _ _ _)
 ·
  rintro ⟨⟩ -
  try dsimp only
  refine zT rfl (fun hc=> ?_) (fun hc=> ?_)
  ·
   refine zj<|zc<|e_p (zh rfl)<|zk<|zg<|zS<|zu ?_
   exact zM Tryz.results31 () trivial (zC rfl) (congrArg Value.bool (decide_eq_false (fun h=>hc ⟨h.1,h.2.1,h.2.2.1⟩))) (ho:=(.n:PickO _ _ _)) (.n:SelR _ _ _)
  ·
   have hcc:=Decidable.not_not.1 hc
   have hgl:=Big.zbe (n:=yg s l1) (d:=yg t l2) om
   refine zw<|zg<|zj<|zc<|e_p (zf yk rfl sz42 rfl rfl)<|e_ru (zd 0 ty42 rfl rfl (.t2 .nil))<|e_p (zf yk rfl sz42 rfl rfl)<|e_ru (zd 0 ty42 rfl rfl (.s2 (.t2 .nil)))<|zG rfl rfl (.c rfl (.c rfl .n)) ce68 (zMe (s:=s) (p1:=p1) (n1:=n1) (c1:=c1) (l1:=l1) (t:=t) (p2:=p2) (n2:=n2) (c2:=c2) (l2:=l2) (hn1:=ass) (hn2:=ass) (hm1:=by first|rfl|assumption|omega|(rw [yr];omega)|(decide +kernel)) (hm2:=by first|rfl|assumption|omega|(rw [yr];omega)|(decide +kernel))) (.c (j:=0) rfl (.c (j:=1) rfl .n)) ?_
   rintro ⟨p34,c35⟩ -
   dsimp only [aq,nq,cq]
   refine zG rfl rfl (.c rfl .n) ce56 (zEd (z:=1) (hz:=by first|rfl|assumption|omega|(rw [yr];omega)|(decide +kernel))) (.n) ?_
   rintro ⟨p26,c27⟩ -
   dsimp only [aq,nq,cq]
   refine zU rfl rfl (.c rfl (.c rfl .n)) ce67 (zSd (x1:=((Nat.gcd (yg s l1).natAbs (yg t l2).natAbs:Nat):Int)) (x2:=1) (p1:=p34) (c1:=c35) (p2:=p26) (c2:=c27) (hb1:=by first|rfl|assumption|omega|(rw [yr];omega)|(decide +kernel)) (hb2:=by first|rfl|assumption|omega|(rw [yr];omega)|(decide +kernel))) (.c (j:=1) rfl (.c (j:=0) rfl .n))<|e_p (zOa rfl rfl)<|e_p (zh rfl)<|zk<|zg<|zS ?_
   exact zM Tryz.results31 () trivial (zC rfl) (congrArg Value.bool (decide_eq_decide.2 (Big.qok_sub (x:=((s,l1),(t,l2))) (Decidable.not_not.1 hc)).symm)) (ho:=(.n:PickO _ _ _)) (.n:SelR _ _ _)
theorem zUc {u1:Wd} {v1:Wd} {q1:Rat}:Con yj 31 [.agg #[u1.b,u1.l,v1.b,v1.l]] [] [qF true u1 v1 (q1)] (Y:=Unit) (fun y=>True) (fun y=> .bool true) (fun y=>[]) (fun y=>[]):=by
  exact zRf (fun x hx hk h1 h2=>by have h:= @zqc x.1.1 u1.p _ u1.c x.1.2 x.2.1 v1.p _ v1.c x.2.2 rfl rfl h1 h2;rw [decide_eq_true (hk rfl)] at h;exact h)
theorem zze {s:Bool} {p1:Option Addr} {n1:Nat} {c1:Nat} {l1:List Int} {t:Bool} {p2:Option Addr} {n2:Nat} {c2:Nat} {l2:List Int} (hn1:l1.length=n1) (hn2:l2.length=n2) (hm1:n1≤1048576) (hm2:n2≤1048576):Con yj 57 [.agg #[.bool s,.slice p1 n1 c1,.bool t,.slice p2 n2 c2]] [] [slF (rI .u32) p1 c1 l1,slF (rI .u32) p2 c2 l2] (Y:=Wd×Wd) (fun y=>True) (fun y=> .agg #[y.1.b,y.1.l,y.2.b,y.2.l]) (fun y=>[]) (fun y=>[qF true y.1 y.2 (Big.qv ((s,l1),(t,l2)))]):=by
 refine zv Tryz.func57 rfl rfl rfl (fun c=> ?_)
 show RunC _ _ _ _ _ [(0,.agg #[.bool s,.slice p1 n1 c1,.bool t,.slice p2 n2 c2])] [] [slF (rI .u32) p1 c1 l1,slF (rI .u32) p2 c2 l2]
 refine zqa 0 rfl (fun hL0=> ?_)
 refine zfb 0 rfl (fun hE0=> ?_)
 refine zqa 1 rfl (fun hL1=> ?_)
 refine zfb 1 rfl (fun hE1=> ?_)
 have hnn1:yK l1:=fun g hg=>(zL.1 (hE0 g hg)).1
 have hnn2:yK l2:=fun g hg=>(zL.1 (hE1 g hg)).1
 have hb1:yo (yg s l1)≤n1:=by have:=yJ (s:=s) hnn1;omega
 have hb2:yo (yg t l2)≤n2:=by have:=yJ (s:=t) hnn2;omega
 refine zj<|zc<|zE rfl rfl (zZ rfl rfl) (fun b1=> ?_)
 refine zE rfl rfl (zo zr44 rfl) (fun b2=> ?_)
 refine zk<|zg<|zj<|zj<|zc<|e_ru (zd 1 ty44 rfl rfl (.t4 .nil))<|zU rfl rfl (.c rfl .n) ce31 (zqc (s:=s) (p1:=p1) (n1:=n1) (c1:=c1) (l1:=l1) (t:=t) (p2:=p2) (n2:=n2) (c2:=c2) (l2:=l2) (hn1:=ass) (hn2:=ass) (hm1:=ass) (hm2:=ass)) (.c (j:=0) rfl (.c (j:=1) rfl .n))<|zk<|zg<|zT rfl (fun hq=> ?_) (fun hq=> ?_)
 ·
  have hrp:=Big.raw_parts (x:=((s,l1),(t,l2))) hnn1 hnn2 hq
  have hqp:=Big.qv_parts (x:=((s,l1),(t,l2))) hq
  have hl:yQ (Big.qv ((s,l1),(t,l2)))≤1048576:=by unfold yQ;rw [hqp.1,hqp.2];dsimp only;omega
  refine zj<|zc<|e_ru (zd 1 ty44 rfl rfl (.t4 .nil))<|zl 0 rfl rfl rfl rfl rfl sz44 rfl (.t4 .nil) .z<|zk<|zg<|zS<|zu<|zdb (qF true ⟨s,p1,n1,c1⟩ ⟨t,p2,n2,c2⟩ (Big.qv ((s,l1),(t,l2)))) (fun g r=>qF_rawI 0 1 rfl rfl hn1 hn2 hm1 hm2 hq g r) ?_
  exact zM Tryz.results57 (⟨s,p1,n1,c1⟩,⟨t,p2,n2,c2⟩) trivial (zr 0 ty44 rfl rfl (.t4 .nil)) rfl (ho:=(.n:PickO _ _ _)) ((.c (j:=0) rfl .n):SelR _ _ _)
 ·
  have hz:=Big.qv_not (x:=((s,l1),(t,l2))) hq
  refine zw<|zg<|zj<|zc<|zG rfl rfl (.c rfl .n) ce22 (zva (z:=0) (hz:=by first|rfl|assumption|omega|(rw [yr];omega)|(decide +kernel))) (.n) ?_
  rintro ⟨w33,w44⟩ -
  dsimp only [aq,nq,cq]
  refine zl 0 rfl rfl rfl rfl rfl sz44 rfl (.t4 .nil) .z<|zk<|zg<|zS ?_
  exact zM Tryz.results57 (w33,w44) trivial (zr 0 ty44 rfl rfl (.t4 .nil)) rfl (ho:=(.n:PickO _ _ _)) ((.e (j:=0) rfl (by rw [hz];rfl) .n):SelR _ _ _)
theorem zZa {k1:Bool} {u1:Wd} {v1:Wd} {q1:Rat}:Con yj 57 [.agg #[u1.b,u1.l,v1.b,v1.l]] [] [qF k1 u1 v1 (q1)] (Y:=(Wd)×(Wd)) (fun y=>True) (fun y=> .agg #[y.1.b,y.1.l,y.2.b,y.2.l]) (fun y=>[]) (fun y=>[qF true y.1 y.2 (q1)]):=by
  exact zlf (fun x hx hk h1 h2 hl=>by subst hx;exact zze rfl rfl h1 h2)
theorem zcc {w1:Wd} {w2:Wd} {x1:Int} {x2:Int} (hl1:yo x1≤1048576) (hl2:yo x2≤1048576) (hd:x2≠0):Con yj 58 [.agg #[w1.b,w1.l],.agg #[w2.b,w2.l]] [] [zF w1 x1,zF w2 x2] (Y:=Wd×Wd) (fun y=>True) (fun y=> .agg #[y.1.b,y.1.l,y.2.b,y.2.l]) (fun y=>[]) (fun y=>[qF true y.1 y.2 (Rat.divInt x1 x2)]):=by
 refine zv Tryz.func58 rfl rfl rfl (fun c=> ?_)
 show RunC _ _ _ _ _ [(0,.agg #[w1.b,w1.l]),(1,.agg #[w2.b,w2.l])] [] [zF w1 x1,zF w2 x2]
 refine zj<|zc<|zE rfl rfl (zZ rfl rfl) (fun b1=> ?_)
 refine zE rfl rfl (zZ rfl rfl) (fun b2=> ?_)
 refine zE rfl rfl (zo zr44 rfl) (fun b3=> ?_)
 refine zk<|zg<|zj<|zc<|e_ru (zd 2 ty42 rfl rfl (.t2 .nil))<|e_ru (zd 1 ty42 rfl rfl (.t2 .nil))<|zG rfl rfl (.c rfl (.c rfl .n)) ce68 (zwf (w1:=w1) (w2:=w2) (x1:=x1) (x2:=x2) (hb1:=by first|rfl|assumption|omega|(rw [yr];omega)|(decide +kernel)) (hb2:=by first|rfl|assumption|omega|(rw [yr];omega)|(decide +kernel))) (.c (j:=0) rfl (.c (j:=1) rfl .n)) ?_
 rintro w34 -
 dsimp only [aq,nq,cq]
 refine zE rfl rfl (zo zr42 rfl) (fun b5=> ?_)
 refine zl 0 rfl rfl rfl rfl rfl sz42 rfl (.t2 .nil) .z<|zk<|zg<|zj<|zj<|zc<|e_ru (zd 2 ty42 rfl rfl (.t2 .nil))<|zU rfl rfl (.c rfl .n) ce66 (zKc (w1:=w2) (x1:=x2) (hln:=by first|rfl|assumption|omega|(rw [yr];omega)|(decide +kernel))) (.c (j:=2) rfl .n)<|e_p (zO rfl rfl)<|zk<|zg<|zT rfl (fun hneg=> ?_) (fun hneg=> ?_)
 ·
  have hs:x2<0:=by rcases Big.sign_le (x:=x2) with h|h|h <;> omega
  have hgp:=Big.gcd_pos_right (n:=x1) (d:=x2) om
  have hgl:=Big.zbe (n:=x1) (d:=x2) om
  obtain ⟨hr1,hr2⟩:=Big.red_neg (n:=x1) hs
  refine zc<|e_ru (zd 0 ty42 rfl rfl (.t2 .nil))<|zG rfl rfl (.c rfl .n) ce88 (zje (w1:=w34) (x1:=((Nat.gcd x1.natAbs x2.natAbs:Nat):Int)) (hln:=by first|rfl|assumption|omega|(rw [yr];omega)|(decide +kernel))) (.c (j:=0) rfl .n) ?_
  rintro w36 -
  dsimp only [aq,nq,cq]
  refine zl 0 rfl rfl rfl rfl rfl sz42 rfl (.t2 .nil) .z<|zk<|zg<|zj<|zc<|e_ru (zd 3 ty42 rfl rfl (.t2 .nil))<|e_ru (zd 0 ty42 rfl rfl (.t2 .nil))<|zG rfl rfl (.c rfl (.c rfl .n)) ce89 (zJb (w1:=w1) (w2:=w36) (x1:=x1) (x2:= - ((Nat.gcd x1.natAbs x2.natAbs:Nat):Int)) (hb1:=by first|rfl|assumption|omega|(rw [yr];omega)|(decide +kernel)) (hb2:=by first|rfl|assumption|omega|(rw [yr];omega)|(decide +kernel)) (hy:=by first|rfl|assumption|omega|(rw [yr];omega)|(decide +kernel))) (.c (j:=2) rfl (.c (j:=0) rfl .n)) ?_
  rintro ⟨w37,w48⟩ -
  dsimp only [aq,nq,cq]
  refine e_mv rfl<|e_p (zy rfl rfl)<|e_p (zy rfl rfl)<|e_p (zy rfl rfl)<|zE rfl rfl (zo zr42 rfl) (fun b9=> ?_)
  refine zE rfl rfl (zo zr42 rfl) (fun b10=> ?_)
  refine zl 1 rfl rfl rfl rfl rfl sz42 rfl (.t2 .nil) (.s .z)<|zl 0 rfl rfl rfl rfl rfl sz42 rfl (.t2 .nil) .z<|e_p (zh rfl)<|zk<|zg<|zj<|zc<|e_ru (zd 4 ty42 rfl rfl (.t2 .nil))<|e_ru (zd 2 ty42 rfl rfl (.t2 .nil))<|zG rfl rfl (.c rfl (.c rfl .n)) ce89 (zJb (w1:=w2) (w2:=w36) (x1:=x2) (x2:= - ((Nat.gcd x1.natAbs x2.natAbs:Nat):Int)) (hb1:=by first|rfl|assumption|omega|(rw [yr];omega)|(decide +kernel)) (hb2:=by first|rfl|assumption|omega|(rw [yr];omega)|(decide +kernel)) (hy:=by first|rfl|assumption|omega|(rw [yr];omega)|(decide +kernel))) (.c (j:=5) rfl (.c (j:=2) rfl .n)) ?_
  rintro ⟨w311,w412⟩ -
  dsimp only [aq,nq,cq]
  refine e_mv rfl<|e_p (zy rfl rfl)<|e_p (zy rfl rfl)<|e_p (zy rfl rfl)<|zE rfl rfl (zo zr42 rfl) (fun b13=> ?_)
  refine zE rfl rfl (zo zr42 rfl) (fun b14=> ?_)
  refine zl 1 rfl rfl rfl rfl rfl sz42 rfl (.t2 .nil) (.s .z)<|zl 0 rfl rfl rfl rfl rfl sz42 rfl (.t2 .nil) .z<|e_p (zh rfl)<|zk<|zg<|zj<|zc<|e_ru (zd 3 ty42 rfl rfl (.t2 .nil))<|e_ru (zd 1 ty42 rfl rfl (.t2 .nil))<|e_p (zx zr44 rfl yk (.c sz42 (.c sz42 .n)) (.c rfl (.c rfl .n)) (.c rfl rfl rfl (.t2 .nil) (.c rfl rfl rfl (.s2 (.t2 .nil)) .n)))<|zl 5 rfl rfl rfl rfl rfl sz44 rfl (.t4 .nil) (.s (.s (.s (.s (.s .z)))))<|zk<|zg<|zS<|zdb (qF true w37 w311 (Rat.divInt x1 x2)) (qF_close 2 0 rfl rfl (by exact ⟨hr1,hr2,Nat.le_trans (Big.hq_divInt hd) om⟩)) ?_
  exact zM Tryz.results58 (w37,w311) trivial (zr 5 ty44 rfl rfl (.t4 .nil)) rfl (ho:=(.n:PickO _ _ _)) ((.c (j:=0) rfl .n):SelR _ _ _)
 ·
  have hs:0<x2:=by rcases Big.sign_le (x:=x2) with h|h|h <;> omega
  have hgp:=Big.gcd_pos_right (n:=x1) (d:=x2) om
  have hgl:=Big.zbe (n:=x1) (d:=x2) om
  obtain ⟨hr1,hr2⟩:=Big.red_pos (n:=x1) hs
  refine zw<|zg<|zj<|zc<|e_ru (zd 3 ty42 rfl rfl (.t2 .nil))<|e_ru (zd 0 ty42 rfl rfl (.t2 .nil))<|zG rfl rfl (.c rfl (.c rfl .n)) ce89 (zJb (w1:=w1) (w2:=w34) (x1:=x1) (x2:=((Nat.gcd x1.natAbs x2.natAbs:Nat):Int)) (hb1:=by first|rfl|assumption|omega|(rw [yr];omega)|(decide +kernel)) (hb2:=by first|rfl|assumption|omega|(rw [yr];omega)|(decide +kernel)) (hy:=by first|rfl|assumption|omega|(rw [yr];omega)|(decide +kernel))) (.c (j:=1) rfl (.c (j:=0) rfl .n)) ?_
  rintro ⟨w315,w416⟩ -
  dsimp only [aq,nq,cq]
  refine e_mv rfl<|e_p (zy rfl rfl)<|e_p (zy rfl rfl)<|e_p (zy rfl rfl)<|zE rfl rfl (zo zr42 rfl) (fun b17=> ?_)
  refine zE rfl rfl (zo zr42 rfl) (fun b18=> ?_)
  refine zl 1 rfl rfl rfl rfl rfl sz42 rfl (.t2 .nil) (.s .z)<|zl 0 rfl rfl rfl rfl rfl sz42 rfl (.t2 .nil) .z<|e_p (zh rfl)<|zk<|zg<|zj<|zc<|e_ru (zd 4 ty42 rfl rfl (.t2 .nil))<|e_ru (zd 2 ty42 rfl rfl (.t2 .nil))<|zG rfl rfl (.c rfl (.c rfl .n)) ce89 (zJb (w1:=w2) (w2:=w34) (x1:=x2) (x2:=((Nat.gcd x1.natAbs x2.natAbs:Nat):Int)) (hb1:=by first|rfl|assumption|omega|(rw [yr];omega)|(decide +kernel)) (hb2:=by first|rfl|assumption|omega|(rw [yr];omega)|(decide +kernel)) (hy:=by first|rfl|assumption|omega|(rw [yr];omega)|(decide +kernel))) (.c (j:=4) rfl (.c (j:=2) rfl .n)) ?_
  rintro ⟨w319,w420⟩ -
  dsimp only [aq,nq,cq]
  refine e_mv rfl<|e_p (zy rfl rfl)<|e_p (zy rfl rfl)<|e_p (zy rfl rfl)<|zE rfl rfl (zo zr42 rfl) (fun b21=> ?_)
  refine zE rfl rfl (zo zr42 rfl) (fun b22=> ?_)
  refine zl 1 rfl rfl rfl rfl rfl sz42 rfl (.t2 .nil) (.s .z)<|zl 0 rfl rfl rfl rfl rfl sz42 rfl (.t2 .nil) .z<|e_p (zh rfl)<|zk<|zg<|zj<|zc<|e_ru (zd 3 ty42 rfl rfl (.t2 .nil))<|e_ru (zd 1 ty42 rfl rfl (.t2 .nil))<|e_p (zx zr44 rfl yk (.c sz42 (.c sz42 .n)) (.c rfl (.c rfl .n)) (.c rfl rfl rfl (.t2 .nil) (.c rfl rfl rfl (.s2 (.t2 .nil)) .n)))<|zl 5 rfl rfl rfl rfl rfl sz44 rfl (.t4 .nil) (.s (.s (.s (.s (.s .z)))))<|zk<|zg<|zS<|zdb (qF true w315 w319 (Rat.divInt x1 x2)) (qF_close 2 0 rfl rfl (by exact ⟨hr1,hr2,Nat.le_trans (Big.hq_divInt hd) om⟩)) ?_
  exact zM Tryz.results58 (w315,w319) trivial (zr 5 ty44 rfl rfl (.t4 .nil)) rfl (ho:=(.n:PickO _ _ _)) ((.c (j:=0) rfl .n):SelR _ _ _)
theorem zNe {w1:Wd} {w2:Wd} {x1:Int} {x2:Int} (hl1:yo x1≤1048576) (hl2:yo x2≤1048576):Con yj 72 [.agg #[w1.b,w1.l],.agg #[w2.b,w2.l]] [] [zF w1 x1,zF w2 x2] (Y:=Wd×Wd) (fun y=>True) (fun y=> .tuple #[.agg #[y.1.b,y.1.l,y.2.b,y.2.l],yc yd (if x2=0 then 14 else 0)]) (fun y=>[]) (fun y=>[qF (decide (x2≠0)) y.1 y.2 (Rat.divInt x1 x2)]):=by
 refine zv Tryz.func72 rfl rfl rfl (fun c=> ?_)
 show RunC _ _ _ _ _ [(0,.agg #[w1.b,w1.l]),(1,.agg #[w2.b,w2.l])] [] [zF w1 x1,zF w2 x2]
 refine zj<|zc<|zE rfl rfl (zZ rfl rfl) (fun b1=> ?_)
 refine zE rfl rfl (zZ rfl rfl) (fun b2=> ?_)
 refine zE rfl rfl (zo zr44 rfl) (fun b3=> ?_)
 refine e_p (zh rfl)<|zk<|zg<|zj<|zj<|zc<|e_ru (zd 1 ty42 rfl rfl (.t2 .nil))<|zU rfl rfl (.c rfl .n) ce66 (zKc (w1:=w2) (x1:=x2) (hln:=by first|rfl|assumption|omega|(rw [yr];omega)|(decide +kernel))) (.c (j:=1) rfl .n)<|e_p (zOa rfl rfl)<|zk<|zg<|zT rfl (fun hz0=> ?_) (fun hz0=> ?_)
 ·
  have hx0:x2=0:=Big.sign_zero.1 hz0
  refine zj<|zc<|e_p (zx zr44 rfl yk (.c sz42 (.c sz42 .n)) .n .n)<|zl 0 rfl rfl rfl rfl rfl sz44 rfl (.t4 .nil) .z<|e_p (zh rfl)<|zk<|zg<|zS<|zu<|zdb (qF false wz wz 0) (fun g _=>qF_none g) ?_
  exact zCa Tryz.results72 (wz,wz) trivial (zr 0 ty44 rfl rfl (.t4 .nil)) (zC rfl) (by rw [if_pos hx0];rfl) (ho:=(.n:PickO _ _ _)) ((.e (j:=0) rfl (by rw [Big.divInt_nil hx0,decide_eq_false (not_not_intro hx0)]) .n):SelR _ _ _)
 ·
  have hx0:x2≠0:=fun e=>hz0 (Big.sign_zero.2 e)
  refine zw<|zg<|zj<|zc<|e_ru (zd 2 ty42 rfl rfl (.t2 .nil))<|e_ru (zd 1 ty42 rfl rfl (.t2 .nil))<|zG rfl rfl (.c rfl (.c rfl .n)) ce58 (zcc (w1:=w1) (w2:=w2) (x1:=x1) (x2:=x2) (hl1:=ass) (hl2:=ass) (hd:=by first|rfl|assumption|omega|(rw [yr];omega)|(decide +kernel))) (.c (j:=0) rfl (.c (j:=1) rfl .n)) ?_
  rintro ⟨w34,w45⟩ -
  dsimp only [aq,nq,cq]
  refine zl 0 rfl rfl rfl rfl rfl sz44 rfl (.t4 .nil) .z<|e_p (zh rfl)<|zk<|zg<|zS ?_
  exact zCa Tryz.results72 (w34,w45) trivial (zr 0 ty44 rfl rfl (.t4 .nil)) (zC rfl) (by rw [if_neg hx0]) (ho:=(.n:PickO _ _ _)) ((.e (j:=0) rfl (by rw [decide_eq_true hx0]) .n):SelR _ _ _)
theorem zOf {z1:Int} {z2:Int} (hz1: -9223372036854775808≤z1∧z1≤9223372036854775807) (hz2: -9223372036854775808≤z2∧z2≤9223372036854775807):Con yj 41 [yc yd z1,yc yd z2] [] [] (Y:=Wd×Wd) (fun y=>True) (fun y=> .tuple #[.agg #[y.1.b,y.1.l,y.2.b,y.2.l],yc yd (if z2=0 then 14 else 0)]) (fun y=>[]) (fun y=>[qF (decide (z2≠0)) y.1 y.2 (Rat.divInt z1 z2)]):=by
 refine zv Tryz.func41 rfl rfl rfl (fun c=> ?_)
 show RunC _ _ _ _ _ [(0,yc yd z1),(1,yc yd z2)] [] []
 have g1:=Big.zif hz1.1 hz1.2
 have g2:=Big.zif hz2.1 hz2.2
 refine zj<|zc<|zE rfl rfl (zo zr44 rfl) (fun b1=> ?_)
 refine e_p (zh rfl)<|zk<|zg<|zj<|zc<|e_mv rfl<|zG rfl rfl (.c rfl .n) ce56 (zVb (z:=z1) (hz:=ass)) (.n) ?_
 rintro w32 -
 dsimp only [aq,nq,cq]
 refine e_mv rfl<|zG rfl rfl (.c rfl .n) ce56 (zVb (z:=z2) (hz:=ass)) (.n) ?_
 rintro w33 -
 dsimp only [aq,nq,cq]
 refine zG rfl rfl (.c rfl (.c rfl .n)) ce72 (zNe (w1:=w32) (w2:=w33) (x1:=z1) (x2:=z2) (hl1:=by first|rfl|assumption|omega|(rw [yr];omega)|(decide +kernel)) (hl2:=by first|rfl|assumption|omega|(rw [yr];omega)|(decide +kernel))) (.c (j:=1) rfl (.c (j:=0) rfl .n)) ?_
 rintro ⟨w34,w45⟩ -
 dsimp only [aq,nq,cq]
 refine e_p (zy rfl rfl)<|e_p (zy rfl rfl)<|zl 0 rfl rfl rfl rfl rfl sz44 rfl (.t4 .nil) .z<|e_p (zh rfl)<|zk<|zg<|zS ?_
 exact zCa Tryz.results41 (w34,w45) trivial (zr 0 ty44 rfl rfl (.t4 .nil)) (zC rfl) rfl (ho:=(.n:PickO _ _ _)) ((.c (j:=0) rfl .n):SelR _ _ _)
theorem zFd {z1:Int} {z2:Int} (hz1: -9223372036854775808≤z1∧z1≤9223372036854775807) (hz2: -9223372036854775808≤z2∧z2≤9223372036854775807) (hy:z2≠0):Con yj 41 [yc yd (z1),yc yd (z2)] [] [] (Y:=(Wd)×(Wd)) (fun y=>True) (fun y=> .tuple #[.agg #[y.1.b,y.1.l,y.2.b,y.2.l],yc yd (0)]) (fun y=>[]) (fun y=>[qF true y.1 y.2 (Rat.divInt z1 z2)]):=by
  have h:=zOf hz1 hz2
  rw [if_neg hy,decide_eq_true hy] at h
  exact h
theorem zGd {k1:Bool} {u1:Wd} {v1:Wd} {q1:Rat} (hl:yQ q1≤1048576):Con yj 53 [.agg #[u1.b,u1.l,v1.b,v1.l]] [] [qF k1 u1 v1 q1] (Y:=Unit) (fun y=>True) (fun y=> yc yd (Big.sgq q1)) (fun y=>[]) (fun y=>[]):=by
 refine zv Tryz.func53 rfl rfl rfl (fun c=> ?_)
 show RunC _ _ _ _ _ [(0,.agg #[u1.b,u1.l,v1.b,v1.l])] [] [qF k1 u1 v1 q1]
 have a1:=yF q1
 have a2:=yG q1
 refine zj<|zc<|zE rfl rfl (zZ rfl rfl) (fun b1=> ?_)
 refine e_p (zh rfl)<|zk<|zg<|zj<|zc<|e_ru (zd 0 ty44 rfl rfl (.t4 .nil))<|zG rfl rfl (.c rfl .n) ce57 (zZa (k1:=k1) (u1:=u1) (v1:=v1) (q1:=q1)) (.c (j:=0) rfl .n) ?_
 rintro ⟨w32,w43⟩ -
 dsimp only [aq,nq,cq]
 refine e_p (zNc yk rfl ty42 rfl (.t2 .nil))<|zMc (qF_open 0 rfl) (fun _ _=> ?_)
 refine zU rfl rfl (.c rfl .n) ce66 (zKc (w1:=w32) (x1:=(q1).num) (hln:=by first|rfl|assumption|omega|(rw [yr];omega)|(decide +kernel))) (.c (j:=0) rfl .n)<|e_p (zh rfl)<|zk<|zg<|zS ?_
 exact zM Tryz.results53 () trivial (zC rfl) rfl (ho:=(.n:PickO _ _ _)) (.n:SelR _ _ _)
theorem zqb {k1:Bool} {u1:Wd} {v1:Wd} {q1:Rat} (hl:yQ q1≤1048576):Con yj 62 [.agg #[u1.b,u1.l,v1.b,v1.l]] [] [qF k1 u1 v1 q1] (Y:=Wd×Wd) (fun y=>True) (fun y=> .agg #[y.1.b,y.1.l,y.2.b,y.2.l]) (fun y=>[]) (fun y=>[qF true y.1 y.2 (- q1)]):=by
 refine zv Tryz.func62 rfl rfl rfl (fun c=> ?_)
 show RunC _ _ _ _ _ [(0,.agg #[u1.b,u1.l,v1.b,v1.l])] [] [qF k1 u1 v1 q1]
 have a1:=yF q1
 have a2:=yG q1
 refine zj<|zc<|zE rfl rfl (zZ rfl rfl) (fun b1=> ?_)
 refine zE rfl rfl (zo zr44 rfl) (fun b2=> ?_)
 refine zk<|zg<|zj<|zc<|e_ru (zd 1 ty44 rfl rfl (.t4 .nil))<|zG rfl rfl (.c rfl .n) ce57 (zZa (k1:=k1) (u1:=u1) (v1:=v1) (q1:=q1)) (.c (j:=0) rfl .n) ?_
 rintro ⟨w33,w44⟩ -
 dsimp only [aq,nq,cq]
 refine zE rfl rfl (zo zr44 rfl) (fun b5=> ?_)
 refine zl 0 rfl rfl rfl rfl rfl sz44 rfl (.t4 .nil) .z<|zk<|zg<|zj<|zaa (.c (i:=1) rfl (.c (i:=0) rfl (.c (i:=0) rfl .n)))<|zP (OW:=[boxA b2 44 (cw [wz,wz])]) (O:=[boxA b5 44 (cw [w33,w44]),boxA b1 44 (cw [u1,v1])]) 6 mixed (.then .ret) kr<|e_pv 0 rfl rfl (zf yk rfl sz42 rfl rfl)<|e_uw 1 rfl rfl (zd 1 ty42 rfl rfl (.t2 .nil))<|e_pv 3 rfl rfl (zf yk rfl sz42 rfl rfl)<|e_uw 4 rfl rfl (zd 1 ty42 rfl rfl (.s2 (.t2 .nil)))<|zEb (qF_open 0 rfl) (fun _ _=> ?_)
 refine e_one 2 (zm rfl rfl rfl rfl (.c rfl .n) ce88 (zje (w1:=w33) (x1:=(q1).num) (hln:=by first|rfl|assumption|omega|(rw [yr];omega)|(decide +kernel))) (.c (j:=0) rfl .n) ?_)
 rintro w36 -
 dsimp only [aq,nq,cq]
 refine e_pv 5 rfl rfl (zx zr44 rfl yk (.c sz42 (.c sz42 .n)) (.c rfl (.c rfl .n)) (.c rfl rfl rfl (.t2 .nil) (.c rfl rfl rfl (.s2 (.t2 .nil)) .n)))<|e_one 6 (zp kr rfl rfl rfl rfl rfl sz44 rfl (.t4 .nil) ?_)
 refine zN kr<|zg<|zS<|zdb (qF true w36 w44 (- q1)) (qF_close 0 2 rfl rfl (by exact ⟨(Rat.neg_num q1).symm,by rw [Rat.neg_den],by rw [Big.hq_neg];exact hl⟩)) ?_
 exact zM Tryz.results62 (w36,w44) trivial (zr 0 ty44 rfl rfl (.t4 .nil)) rfl (ho:=(.n:PickO _ _ _)) ((.c (j:=0) rfl .n):SelR _ _ _)
theorem zNa {k1:Bool} {u1:Wd} {v1:Wd} {q1:Rat} {k2:Bool} {u2:Wd} {v2:Wd} {q2:Rat} (hl:yQ q1+yQ q2+1≤1048576):Con yj 25 [.agg #[u1.b,u1.l,v1.b,v1.l],.agg #[u2.b,u2.l,v2.b,v2.l]] [] [qF k1 u1 v1 q1,qF k2 u2 v2 q2] (Y:=Wd×Wd) (fun y=>True) (fun y=> .agg #[y.1.b,y.1.l,y.2.b,y.2.l]) (fun y=>[]) (fun y=>[qF true y.1 y.2 (q1+q2)]):=by
 refine zv Tryz.func25 rfl rfl rfl (fun c=> ?_)
 show RunC _ _ _ _ _ [(0,.agg #[u1.b,u1.l,v1.b,v1.l]),(1,.agg #[u2.b,u2.l,v2.b,v2.l])] [] [qF k1 u1 v1 q1,qF k2 u2 v2 q2]
 have a1:=yF q1
 have a2:=yG q1
 have a3:=yF q2
 have a4:=yG q2
 have b1:=yU q1.num q2.den
 have b2:=yU q2.num q1.den
 have b3:=Big.zQc (q1.num*q2.den) (q2.num*q1.den)
 have b4:=yU (q1.den:Int) q2.den
 have b5:=yU q1.num q2.num
 refine zj<|zc<|zE rfl rfl (zZ rfl rfl) (fun b1=> ?_)
 refine zE rfl rfl (zZ rfl rfl) (fun b2=> ?_)
 refine zE rfl rfl (zo zr44 rfl) (fun b3=> ?_)
 refine zk<|zg<|zj<|zc<|e_ru (zd 2 ty44 rfl rfl (.t4 .nil))<|zG rfl rfl (.c rfl .n) ce57 (zZa (k1:=k1) (u1:=u1) (v1:=v1) (q1:=q1)) (.c (j:=0) rfl .n) ?_
 rintro ⟨w34,w45⟩ -
 dsimp only [aq,nq,cq]
 refine zE rfl rfl (zo zr44 rfl) (fun b6=> ?_)
 refine zl 0 rfl rfl rfl rfl rfl sz44 rfl (.t4 .nil) .z<|zk<|zg<|zj<|zc<|e_ru (zd 2 ty44 rfl rfl (.t4 .nil))<|zG rfl rfl (.c rfl .n) ce57 (zZa (k1:=k2) (u1:=u2) (v1:=v2) (q1:=q2)) (.c (j:=2) rfl .n) ?_
 rintro ⟨w37,w48⟩ -
 dsimp only [aq,nq,cq]
 refine zE rfl rfl (zo zr44 rfl) (fun b9=> ?_)
 refine zl 0 rfl rfl rfl rfl rfl sz44 rfl (.t4 .nil) .z<|zk<|zg<|zj<|zaa (.c (i:=2) rfl (.c (i:=0) rfl (.c (i:=0) rfl (.c (i:=0) rfl (.c (i:=0) rfl .n)))))<|zP (OW:=[boxA b3 44 (cw [wz,wz])]) (O:=[boxA b9 44 (cw [w37,w48]),boxA b6 44 (cw [w34,w45]),boxA b2 44 (cw [u2,v2]),boxA b1 44 (cw [u1,v1])]) 17 mixed (.then .ret) kr<|e_pv 0 rfl rfl (zf yk rfl sz42 rfl rfl)<|e_uw 1 rfl rfl (zd 2 ty42 rfl rfl (.t2 .nil))<|e_pv 2 rfl rfl (zf yk rfl sz42 rfl rfl)<|e_uw 3 rfl rfl (zd 1 ty42 rfl rfl (.s2 (.t2 .nil)))<|e_pv 5 rfl rfl (zf yk rfl sz42 rfl rfl)<|e_uw 6 rfl rfl (zd 1 ty42 rfl rfl (.t2 .nil))<|e_pv 7 rfl rfl (zf yk rfl sz42 rfl rfl)<|e_uw 8 rfl rfl (zd 2 ty42 rfl rfl (.s2 (.t2 .nil)))<|e_pv 11 rfl rfl (zf yk rfl sz42 rfl rfl)<|e_uw 12 rfl rfl (zd 2 ty42 rfl rfl (.s2 (.t2 .nil)))<|e_pv 13 rfl rfl (zf yk rfl sz42 rfl rfl)<|e_uw 14 rfl rfl (zd 1 ty42 rfl rfl (.s2 (.t2 .nil)))<|zEb (qF_open 1 rfl) (fun _ _=> ?_)
 refine zEb (qF_open 2 rfl) (fun _ _=> ?_)
 refine e_one 4 (zm rfl rfl rfl rfl (.c rfl (.c rfl .n)) ce60 (zFb (w1:=w34) (w2:=w48) (x1:=(q1).num) (x2:=(((q2).den:Nat):Int)) (hb1:=by first|rfl|assumption|omega|(rw [yr];omega)|(decide +kernel)) (hb2:=by first|rfl|assumption|omega|(rw [yr];omega)|(decide +kernel))) (.c (j:=2) rfl (.c (j:=1) rfl .n)) ?_)
 rintro w310 -
 dsimp only [aq,nq,cq]
 refine e_one 9 (zm rfl rfl rfl rfl (.c rfl (.c rfl .n)) ce60 (zFb (w1:=w37) (w2:=w45) (x1:=(q2).num) (x2:=(((q1).den:Nat):Int)) (hb1:=by first|rfl|assumption|omega|(rw [yr];omega)|(decide +kernel)) (hb2:=by first|rfl|assumption|omega|(rw [yr];omega)|(decide +kernel))) (.c (j:=1) rfl (.c (j:=4) rfl .n)) ?_)
 rintro w311 -
 dsimp only [aq,nq,cq]
 refine e_one 10 (zm rfl rfl rfl rfl (.c rfl (.c rfl .n)) ce59 (zuf (w1:=w310) (w2:=w311) (x1:=((q1).num)*(((q2).den:Nat):Int)) (x2:=((q2).num)*(((q1).den:Nat):Int)) (hb1:=by first|rfl|assumption|omega|(rw [yr];omega)|(decide +kernel)) (hb2:=by first|rfl|assumption|omega|(rw [yr];omega)|(decide +kernel))) (.c (j:=1) rfl (.c (j:=0) rfl .n)) ?_)
 rintro w312 -
 dsimp only [aq,nq,cq]
 refine e_one 15 (zm rfl rfl rfl rfl (.c rfl (.c rfl .n)) ce60 (zFb (w1:=w45) (w2:=w48) (x1:=(((q1).den:Nat):Int)) (x2:=(((q2).den:Nat):Int)) (hb1:=by first|rfl|assumption|omega|(rw [yr];omega)|(decide +kernel)) (hb2:=by first|rfl|assumption|omega|(rw [yr];omega)|(decide +kernel))) (.c (j:=6) rfl (.c (j:=4) rfl .n)) ?_)
 rintro w313 -
 dsimp only [aq,nq,cq]
 refine e_one 16 (zm rfl rfl rfl rfl (.c rfl (.c rfl .n)) ce58 (zcc (w1:=w312) (w2:=w313) (x1:=(((q1).num)*(((q2).den:Nat):Int))+(((q2).num)*(((q1).den:Nat):Int))) (x2:=(((q1).den:Nat):Int)*(((q2).den:Nat):Int)) (hl1:=by first|rfl|assumption|omega|(rw [yr];omega)|(decide +kernel)) (hl2:=by first|rfl|assumption|omega|(rw [yr];omega)|(decide +kernel)) (hd:=by exact Int.mul_ne_zero (Big.den_ne q1) (Big.den_ne q2))) (.c (j:=1) rfl (.c (j:=0) rfl .n)) ?_)
 rintro ⟨w314,w415⟩ -
 dsimp only [aq,nq,cq]
 refine e_one 17 (zp kr rfl rfl rfl rfl rfl sz44 rfl (.t4 .nil) ?_)
 refine zN kr<|zg<|zS ?_
 exact zM Tryz.results25 (w314,w415) trivial (zr 0 ty44 rfl rfl (.t4 .nil)) rfl (ho:=(.n:PickO _ _ _)) ((.e (j:=0) rfl (by rw [Big.add_parts]) .n):SelR _ _ _)
theorem zXa {k1:Bool} {u1:Wd} {v1:Wd} {q1:Rat} {k2:Bool} {u2:Wd} {v2:Wd} {q2:Rat} (hl:yQ q1+yQ q2+1≤1048576):Con yj 54 [.agg #[u1.b,u1.l,v1.b,v1.l],.agg #[u2.b,u2.l,v2.b,v2.l]] [] [qF k1 u1 v1 q1,qF k2 u2 v2 q2] (Y:=Wd×Wd) (fun y=>True) (fun y=> .agg #[y.1.b,y.1.l,y.2.b,y.2.l]) (fun y=>[]) (fun y=>[qF true y.1 y.2 (q1*q2)]):=by
 refine zv Tryz.func54 rfl rfl rfl (fun c=> ?_)
 show RunC _ _ _ _ _ [(0,.agg #[u1.b,u1.l,v1.b,v1.l]),(1,.agg #[u2.b,u2.l,v2.b,v2.l])] [] [qF k1 u1 v1 q1,qF k2 u2 v2 q2]
 have a1:=yF q1
 have a2:=yG q1
 have a3:=yF q2
 have a4:=yG q2
 have b1:=yU q1.num q2.den
 have b2:=yU q2.num q1.den
 have b3:=Big.zQc (q1.num*q2.den) (q2.num*q1.den)
 have b4:=yU (q1.den:Int) q2.den
 have b5:=yU q1.num q2.num
 refine zj<|zc<|zE rfl rfl (zZ rfl rfl) (fun b1=> ?_)
 refine zE rfl rfl (zZ rfl rfl) (fun b2=> ?_)
 refine zE rfl rfl (zo zr44 rfl) (fun b3=> ?_)
 refine zk<|zg<|zj<|zc<|e_ru (zd 2 ty44 rfl rfl (.t4 .nil))<|zG rfl rfl (.c rfl .n) ce57 (zZa (k1:=k1) (u1:=u1) (v1:=v1) (q1:=q1)) (.c (j:=0) rfl .n) ?_
 rintro ⟨w34,w45⟩ -
 dsimp only [aq,nq,cq]
 refine zE rfl rfl (zo zr44 rfl) (fun b6=> ?_)
 refine zl 0 rfl rfl rfl rfl rfl sz44 rfl (.t4 .nil) .z<|zk<|zg<|zj<|zc<|e_ru (zd 2 ty44 rfl rfl (.t4 .nil))<|zG rfl rfl (.c rfl .n) ce57 (zZa (k1:=k2) (u1:=u2) (v1:=v2) (q1:=q2)) (.c (j:=2) rfl .n) ?_
 rintro ⟨w37,w48⟩ -
 dsimp only [aq,nq,cq]
 refine zE rfl rfl (zo zr44 rfl) (fun b9=> ?_)
 refine zl 0 rfl rfl rfl rfl rfl sz44 rfl (.t4 .nil) .z<|zk<|zg<|zj<|zaa (.c (i:=2) rfl (.c (i:=0) rfl (.c (i:=0) rfl (.c (i:=0) rfl (.c (i:=0) rfl .n)))))<|zP (OW:=[boxA b3 44 (cw [wz,wz])]) (O:=[boxA b9 44 (cw [w37,w48]),boxA b6 44 (cw [w34,w45]),boxA b2 44 (cw [u2,v2]),boxA b1 44 (cw [u1,v1])]) 11 mixed (.then .ret) kr<|e_pv 0 rfl rfl (zf yk rfl sz42 rfl rfl)<|e_uw 1 rfl rfl (zd 2 ty42 rfl rfl (.t2 .nil))<|e_pv 2 rfl rfl (zf yk rfl sz42 rfl rfl)<|e_uw 3 rfl rfl (zd 1 ty42 rfl rfl (.t2 .nil))<|e_pv 5 rfl rfl (zf yk rfl sz42 rfl rfl)<|e_uw 6 rfl rfl (zd 2 ty42 rfl rfl (.s2 (.t2 .nil)))<|e_pv 7 rfl rfl (zf yk rfl sz42 rfl rfl)<|e_uw 8 rfl rfl (zd 1 ty42 rfl rfl (.s2 (.t2 .nil)))<|zEb (qF_open 1 rfl) (fun _ _=> ?_)
 refine zEb (qF_open 2 rfl) (fun _ _=> ?_)
 refine e_one 4 (zm rfl rfl rfl rfl (.c rfl (.c rfl .n)) ce60 (zFb (w1:=w34) (w2:=w37) (x1:=(q1).num) (x2:=(q2).num) (hb1:=by first|rfl|assumption|omega|(rw [yr];omega)|(decide +kernel)) (hb2:=by first|rfl|assumption|omega|(rw [yr];omega)|(decide +kernel))) (.c (j:=2) rfl (.c (j:=0) rfl .n)) ?_)
 rintro w310 -
 dsimp only [aq,nq,cq]
 refine e_one 9 (zm rfl rfl rfl rfl (.c rfl (.c rfl .n)) ce60 (zFb (w1:=w45) (w2:=w48) (x1:=(((q1).den:Nat):Int)) (x2:=(((q2).den:Nat):Int)) (hb1:=by first|rfl|assumption|omega|(rw [yr];omega)|(decide +kernel)) (hb2:=by first|rfl|assumption|omega|(rw [yr];omega)|(decide +kernel))) (.c (j:=4) rfl (.c (j:=2) rfl .n)) ?_)
 rintro w311 -
 dsimp only [aq,nq,cq]
 refine e_one 10 (zm rfl rfl rfl rfl (.c rfl (.c rfl .n)) ce58 (zcc (w1:=w310) (w2:=w311) (x1:=((q1).num)*((q2).num)) (x2:=(((q1).den:Nat):Int)*(((q2).den:Nat):Int)) (hl1:=by first|rfl|assumption|omega|(rw [yr];omega)|(decide +kernel)) (hl2:=by first|rfl|assumption|omega|(rw [yr];omega)|(decide +kernel)) (hd:=by exact Int.mul_ne_zero (Big.den_ne q1) (Big.den_ne q2))) (.c (j:=1) rfl (.c (j:=0) rfl .n)) ?_)
 rintro ⟨w312,w413⟩ -
 dsimp only [aq,nq,cq]
 refine e_one 11 (zp kr rfl rfl rfl rfl rfl sz44 rfl (.t4 .nil) ?_)
 refine zN kr<|zg<|zS ?_
 exact zM Tryz.results54 (w312,w413) trivial (zr 0 ty44 rfl rfl (.t4 .nil)) rfl (ho:=(.n:PickO _ _ _)) ((.e (j:=0) rfl (by rw [Big.mul_parts]) .n):SelR _ _ _)
theorem zEc {k1:Bool} {u1:Wd} {v1:Wd} {q1:Rat} {k2:Bool} {u2:Wd} {v2:Wd} {q2:Rat} (hl:yQ q1+yQ q2+1≤1048576):Con yj 28 [.agg #[u1.b,u1.l,v1.b,v1.l],.agg #[u2.b,u2.l,v2.b,v2.l]] [] [qF k1 u1 v1 q1,qF k2 u2 v2 q2] (Y:=Wd×Wd) (fun y=>True) (fun y=> .agg #[y.1.b,y.1.l,y.2.b,y.2.l]) (fun y=>[]) (fun y=>[qF true y.1 y.2 (q1 - q2)]):=by
 refine zv Tryz.func28 rfl rfl rfl (fun c=> ?_)
 show RunC _ _ _ _ _ [(0,.agg #[u1.b,u1.l,v1.b,v1.l]),(1,.agg #[u2.b,u2.l,v2.b,v2.l])] [] [qF k1 u1 v1 q1,qF k2 u2 v2 q2]
 have a1:=yF q1
 have a2:=yG q1
 have a3:=yF q2
 have a4:=yG q2
 refine zj<|zc<|zE rfl rfl (zZ rfl rfl) (fun b1=> ?_)
 refine zE rfl rfl (zZ rfl rfl) (fun b2=> ?_)
 refine zE rfl rfl (zo zr44 rfl) (fun b3=> ?_)
 refine zk<|zg<|zj<|zP (OW:=[boxA b3 44 (cw [wz,wz])]) (O:=[boxA b2 44 (cw [u2,v2]),boxA b1 44 (cw [u1,v1])]) 4 mixed (.then .ret) kr<|e_uw 0 rfl rfl (zd 2 ty44 rfl rfl (.t4 .nil))<|e_uw 1 rfl rfl (zd 1 ty44 rfl rfl (.t4 .nil))<|e_one 2 (zm rfl rfl rfl rfl (.c rfl .n) ce62 (zqb (k1:=k2) (u1:=u2) (v1:=v2) (q1:=q2) (hl:=by first|rfl|assumption|omega|(rw [yr];omega)|(decide +kernel)|(rw [Big.hq_neg];omega))) (.c (j:=1) rfl .n) ?_)
 rintro ⟨w34,w45⟩ -
 dsimp only [aq,nq,cq]
 refine e_one 3 (zm rfl rfl rfl rfl (.c rfl (.c rfl .n)) ce25 (zNa (k1:=k1) (u1:=u1) (v1:=v1) (q1:=q1) (k2:=true) (u2:=w34) (v2:=w45) (q2:= - q2) (hl:=by first|rfl|assumption|omega|(rw [yr];omega)|(decide +kernel)|(rw [Big.hq_neg];omega))) (.c (j:=1) rfl (.c (j:=0) rfl .n)) ?_)
 rintro ⟨w36,w47⟩ -
 dsimp only [aq,nq,cq]
 refine e_one 4 (zp kr rfl rfl rfl rfl rfl sz44 rfl (.t4 .nil) ?_)
 refine zN kr<|zg<|zS ?_
 exact zM Tryz.results28 (w36,w47) trivial (zr 0 ty44 rfl rfl (.t4 .nil)) rfl (ho:=(.n:PickO _ _ _)) ((.e (j:=0) rfl (by rw [Rat.sub_eq_add_neg]) .n):SelR _ _ _)
theorem zWb {k1:Bool} {u1:Wd} {v1:Wd} {q1:Rat} {k2:Bool} {u2:Wd} {v2:Wd} {q2:Rat} (hl:yQ q1+yQ q2+1≤1048576):Con yj 38 [.agg #[u1.b,u1.l,v1.b,v1.l],.agg #[u2.b,u2.l,v2.b,v2.l]] [] [qF k1 u1 v1 q1,qF k2 u2 v2 q2] (Y:=Unit) (fun y=>True) (fun y=> yc yd (Big.sgq (q1 - q2))) (fun y=>[]) (fun y=>[]):=by
 refine zv Tryz.func38 rfl rfl rfl (fun c=> ?_)
 show RunC _ _ _ _ _ [(0,.agg #[u1.b,u1.l,v1.b,v1.l]),(1,.agg #[u2.b,u2.l,v2.b,v2.l])] [] [qF k1 u1 v1 q1,qF k2 u2 v2 q2]
 have hsb:=Big.hq_sub q1 q2
 refine zj<|zc<|zE rfl rfl (zZ rfl rfl) (fun b1=> ?_)
 refine zE rfl rfl (zZ rfl rfl) (fun b2=> ?_)
 refine e_p (zh rfl)<|zk<|zg<|zj<|zc<|e_ru (zd 1 ty44 rfl rfl (.t4 .nil))<|e_ru (zd 0 ty44 rfl rfl (.t4 .nil))<|zG rfl rfl (.c rfl (.c rfl .n)) ce28 (zEc (k1:=k1) (u1:=u1) (v1:=v1) (q1:=q1) (k2:=k2) (u2:=u2) (v2:=v2) (q2:=q2) (hl:=ass)) (.c (j:=0) rfl (.c (j:=1) rfl .n)) ?_
 rintro ⟨w33,w44⟩ -
 dsimp only [aq,nq,cq]
 refine zU rfl rfl (.c rfl .n) ce53 (zGd (k1:=true) (u1:=w33) (v1:=w44) (q1:=q1 - q2) (hl:=by first|rfl|assumption|omega|(rw [yr];omega)|(decide +kernel))) (.c (j:=0) rfl .n)<|e_p (zh rfl)<|zk<|zg<|zS ?_
 exact zM Tryz.results38 () trivial (zC rfl) rfl (ho:=(.n:PickO _ _ _)) (.n:SelR _ _ _)
theorem zVc {k1:Bool} {u1:Wd} {v1:Wd} {q1:Rat} {k2:Bool} {u2:Wd} {v2:Wd} {q2:Rat} (hl:yQ q1+yQ q2+1≤1048576):Con yj 52 [.agg #[u1.b,u1.l,v1.b,v1.l],.agg #[u2.b,u2.l,v2.b,v2.l]] [] [qF k1 u1 v1 q1,qF k2 u2 v2 q2] (Y:=Wd×Wd) (fun y=>True) (fun y=> .tuple #[.agg #[y.1.b,y.1.l,y.2.b,y.2.l],yc yd (if q2=0 then 14 else 0)]) (fun y=>[]) (fun y=>[qF (decide (q2≠0)) y.1 y.2 (q1 / q2)]):=by
 refine zv Tryz.func52 rfl rfl rfl (fun c=> ?_)
 show RunC _ _ _ _ _ [(0,.agg #[u1.b,u1.l,v1.b,v1.l]),(1,.agg #[u2.b,u2.l,v2.b,v2.l])] [] [qF k1 u1 v1 q1,qF k2 u2 v2 q2]
 have a1:=yF q1
 have a2:=yG q1
 have a3:=yF q2
 have a4:=yG q2
 have b1:=yU q1.num q2.den
 have b2:=yU (q1.den:Int) q2.num
 refine zj<|zc<|zE rfl rfl (zZ rfl rfl) (fun b1=> ?_)
 refine zE rfl rfl (zZ rfl rfl) (fun b2=> ?_)
 refine zE rfl rfl (zo zr44 rfl) (fun b3=> ?_)
 refine e_p (zh rfl)<|zk<|zg<|zj<|zc<|e_ru (zd 2 ty44 rfl rfl (.t4 .nil))<|zG rfl rfl (.c rfl .n) ce57 (zZa (k1:=k1) (u1:=u1) (v1:=v1) (q1:=q1)) (.c (j:=0) rfl .n) ?_
 rintro ⟨w34,w45⟩ -
 dsimp only [aq,nq,cq]
 refine zE rfl rfl (zo zr44 rfl) (fun b6=> ?_)
 refine zl 0 rfl rfl rfl rfl rfl sz44 rfl (.t4 .nil) .z<|zk<|zg<|zj<|zc<|e_ru (zd 2 ty44 rfl rfl (.t4 .nil))<|zG rfl rfl (.c rfl .n) ce57 (zZa (k1:=k2) (u1:=u2) (v1:=v2) (q1:=q2)) (.c (j:=2) rfl .n) ?_
 rintro ⟨w37,w48⟩ -
 dsimp only [aq,nq,cq]
 refine zE rfl rfl (zo zr44 rfl) (fun b9=> ?_)
 refine zl 0 rfl rfl rfl rfl rfl sz44 rfl (.t4 .nil) .z<|zk<|zg<|zj<|zaa (.c (i:=2) rfl (.c (i:=0) rfl (.c (i:=0) rfl (.c (i:=0) rfl (.c (i:=0) rfl .n)))))<|zP (OW:=[boxA b3 44 (cw [wz,wz])]) (O:=[boxA b9 44 (cw [w37,w48]),boxA b6 44 (cw [w34,w45]),boxA b2 44 (cw [u2,v2]),boxA b1 44 (cw [u1,v1])]) 13 mixed (.then .ret) kr<|e_pv 0 rfl rfl (zf yk rfl sz42 rfl rfl)<|e_uw 1 rfl rfl (zd 2 ty42 rfl rfl (.t2 .nil))<|e_pv 2 rfl rfl (zf yk rfl sz42 rfl rfl)<|e_uw 3 rfl rfl (zd 1 ty42 rfl rfl (.s2 (.t2 .nil)))<|e_pv 5 rfl rfl (zf yk rfl sz42 rfl rfl)<|e_uw 6 rfl rfl (zd 2 ty42 rfl rfl (.s2 (.t2 .nil)))<|e_pv 7 rfl rfl (zf yk rfl sz42 rfl rfl)<|e_uw 8 rfl rfl (zd 1 ty42 rfl rfl (.t2 .nil))<|zEb (qF_open 1 rfl) (fun _ _=> ?_)
 refine zEb (qF_open 2 rfl) (fun _ _=> ?_)
 refine e_one 4 (zm rfl rfl rfl rfl (.c rfl (.c rfl .n)) ce60 (zFb (w1:=w34) (w2:=w48) (x1:=(q1).num) (x2:=(((q2).den:Nat):Int)) (hb1:=by first|rfl|assumption|omega|(rw [yr];omega)|(decide +kernel)) (hb2:=by first|rfl|assumption|omega|(rw [yr];omega)|(decide +kernel))) (.c (j:=2) rfl (.c (j:=1) rfl .n)) ?_)
 rintro w310 -
 dsimp only [aq,nq,cq]
 refine e_one 9 (zm rfl rfl rfl rfl (.c rfl (.c rfl .n)) ce60 (zFb (w1:=w45) (w2:=w37) (x1:=(((q1).den:Nat):Int)) (x2:=(q2).num) (hb1:=by first|rfl|assumption|omega|(rw [yr];omega)|(decide +kernel)) (hb2:=by first|rfl|assumption|omega|(rw [yr];omega)|(decide +kernel))) (.c (j:=4) rfl (.c (j:=1) rfl .n)) ?_)
 rintro w311 -
 dsimp only [aq,nq,cq]
 refine e_one 10 (zm rfl rfl rfl rfl (.c rfl (.c rfl .n)) ce72 (zNe (w1:=w310) (w2:=w311) (x1:=((q1).num)*(((q2).den:Nat):Int)) (x2:=(((q1).den:Nat):Int)*((q2).num)) (hl1:=by first|rfl|assumption|omega|(rw [yr];omega)|(decide +kernel)) (hl2:=by first|rfl|assumption|omega|(rw [yr];omega)|(decide +kernel))) (.c (j:=1) rfl (.c (j:=0) rfl .n)) ?_)
 rintro ⟨w312,w413⟩ -
 dsimp only [aq,nq,cq]
 refine e_pv 11 rfl rfl (zy rfl rfl)<|e_pv 12 rfl rfl (zy rfl rfl)<|e_one 13 (zp kr rfl rfl rfl rfl rfl sz44 rfl (.t4 .nil) ?_)
 refine e_pv 14 rfl rfl (zh rfl)<|zN kr<|zg<|zS ?_
 have hi1:((q1.den:Int)*q2.num=0)=(q2=0):=propext (Big.den_zero q1 q2)
 exact zCa Tryz.results52 (w312,w413) trivial (zr 0 ty44 rfl rfl (.t4 .nil)) (zC rfl) (by simp only [hi1]) (ho:=(.n:PickO _ _ _)) ((.e (j:=0) rfl (by rw [Big.div_any];simp only [ne_eq,hi1]) .n):SelR _ _ _)
theorem zHd {u1:Wd} {v1:Wd} {q1:Rat} {u2:Wd} {v2:Wd} {q2:Rat} (hl:yQ q1+yQ q2+1≤1048576):Con yj 27 [.agg #[u1.b,u1.l,v1.b,v1.l],.agg #[u2.b,u2.l,v2.b,v2.l]] [] [qF true u1 v1 q1,qF true u2 v2 q2] (Y:=Unit) (fun y=>True) (fun y=> .bool (decide (q1=q2))) (fun y=>[]) (fun y=>[]):=by
 refine zv Tryz.func27 rfl rfl rfl (fun c=> ?_)
 show RunC _ _ _ _ _ [(0,.agg #[u1.b,u1.l,v1.b,v1.l]),(1,.agg #[u2.b,u2.l,v2.b,v2.l])] [] [qF true u1 v1 q1,qF true u2 v2 q2]
 refine zj<|zc<|zE rfl rfl (zZ rfl rfl) (fun b1=> ?_)
 refine zE rfl rfl (zZ rfl rfl) (fun b2=> ?_)
 refine e_p (zh rfl)<|zk<|zg<|zAa (X:=Unit) (fun x=>True) (fun x=>[(4,.bool (decide (Big.sgq (q1 - q2)=0)))]) (fun x=>[boxA b2 44 (cw [u2,v2]),boxA b1 44 (cw [u1,v1])]) (fun x=>[qF true u1 v1 q1,qF true u2 v2 q2]) ?_ ?_
 ·
  refine zc<|e_ru (zd 1 ty44 rfl rfl (.t4 .nil))<|zU rfl rfl (.c rfl .n) ce31 (zUc (u1:=u1) (v1:=v1) (q1:=q1)) (.c (j:=0) rfl .n)<|e_mv rfl<|e_ru (zd 0 ty44 rfl rfl (.t4 .nil))<|zU rfl rfl (.c rfl .n) ce31 (zUc (u1:=u2) (v1:=v2) (q1:=q2)) (.c (j:=1) rfl .n)<|e_p (zK rfl rfl)<|e_mv rfl<|e_ru (zd 1 ty44 rfl rfl (.t4 .nil))<|e_ru (zd 0 ty44 rfl rfl (.t4 .nil))<|zU rfl rfl (.c rfl (.c rfl .n)) ce38 (zWb (k1:=true) (u1:=u1) (v1:=v1) (q1:=q1) (k2:=true) (u2:=u2) (v2:=v2) (q2:=q2) (hl:=ass)) (.c (j:=0) rfl (.c (j:=1) rfl .n))<|e_p (zOa rfl rfl)<|e_p (zK rfl rfl)<|e_p (zh rfl)<|zk ?_
  exact zha () (show True from by first|trivial|omega|simp_all) ((.c rfl .n):SubM _ _) (ho:=((.of [0,0] rfl):PickO _ _ _)) ((.of [0,1] rfl):SelR _ _ _)
 ·
  rintro ⟨⟩ -
  try dsimp only [cw]
  refine zS ?_
  exact zM Tryz.results27 () trivial (zC rfl) (congrArg Value.bool (decide_eq_decide.2 Big.sgq_sub_zero.symm)) (ho:=(.n:PickO _ _ _)) (.n:SelR _ _ _)
end Go.Proofs.YtjeahiahjgifgaaGreatDoor.Sp
namespace Go.Proofs.YtjeahiahjgifgaaGreatDoor.Sp
open Go
set_option linter.unusedVariables false
def Wd.zz (u v:Wd):Prop:=u.s=false∧v.s=false∧u.n=0∧v.n=0
instance (u v:Wd):Decidable (Wd.zz u v):=inferInstanceAs (Decidable (_∧_))
def rQ:Rp Rat:=⟨4,Wd×Wd,fun _ w=>[w.1.b,w.1.l,w.2.b,w.2.l],fun g q w=>(qF true w.1 w.2 q).on g,fun _ _ _ _ h k=>(qF true _ _ _).mono _ _ h k,fun _ _=>rfl,fun _ _=>rfl⟩
theorem open_rQ {A:Fa} {q:Rat} {w1 w2:Wd} {R:List Fa}:∀g,Holds g (A :: okF rQ q (w1,w2) :: R)→Holds g (A :: qF true w1 w2 q :: R):=fun g ⟨h,a,r⟩=>⟨h,a,r⟩
def qo (y:Big.RQ):Option Rat:=if Big.qok y then some (Big.qv y) else none
def eF (u v:Wd) (x:Option Rat):Fa:=⟨fun g=>∃y:Big.RQ,u.raw g y.1∧v.raw g y.2∧x=qo y,fun _ _ h ⟨y,a,b,e⟩=>⟨y,Wd.raw_mono h a,Wd.raw_mono h b,e⟩⟩
theorem qo_v (y:Big.RQ):(qo y).getD 0=Big.qv y:=by
  unfold qo;split
  · rfl
  · rename_i h;rw [Big.qv_not h];rfl
theorem eF_q {g:Hp} {u v:Wd} {x:Option Rat} (h:(eF u v x).on g):(qF x.isSome u v (x.getD 0)).on g:=by
  obtain ⟨y,a,b,rfl⟩:=h
  refine ⟨y,a,b,(qo_v y).symm,fun e=> ?_⟩
  by_cases hk:Big.qok y
  · exact hk
  · unfold qo at e;rw [if_neg hk] at e;cases e
theorem qo_s (y:Big.RQ):(qo y).isSome=decide (Big.qok y):=by
  unfold qo;split
  · rename_i h;rw [decide_eq_true h];rfl
  · rename_i h;rw [decide_eq_false h];rfl
theorem qo_hq (y:Big.RQ) (h1:yK y.1.2) (h2:yK y.2.2) {k:Nat} (k1:y.1.2.length≤k) (k2:y.2.2.length≤k) (k0:1≤k):yQ ((qo y).getD 0)≤k:=by
  rw [qo_v]
  by_cases hk:Big.qok y
  · obtain ⟨e1, e2⟩ := Big.qv_parts hk
    unfold yQ yo
    rw [e1,e2]
    have a1:=Big.raw_digs (s:=y.1.1) h1
    have a2:=Big.raw_digs (s:=y.2.1) h2
    rw [if_pos hk.1] at a1;rw [if_pos hk.2.1] at a2
    rw [a1,a2];omega
  · rw [Big.qv_not hk,Big.hq_zero];exact k0
section
variable {P : Program} {O : List As} {R : List Fa} {f : Nat} {u v : Wd}
theorem zTf {x:Option Rat} {Y:Type} {φ:Y→Prop} {val:Y→Value} {O':Y→List As} {R':Y→List Fa}
    (h:∀(y:Big.RQ),qo y=x→y.1.2.length≤1048576→y.2.2.length≤1048576→Con P f [.agg #[.bool y.1.1,.slice u.p y.1.2.length u.c,.bool y.2.1,.slice v.p y.2.2.length v.c]] O [slF (rI .u32) u.p u.c y.1.2,slF (rI .u32) v.p v.c y.2.2] φ val O' R'):
    Con P f [.agg #[u.b,u.l,v.b,v.l]] O [eF u v x] φ val O' R':=
  Con.of (X:=Big.RQ) (ψ:=fun y=>qo y=x∧y.1.2.length≤1048576∧y.2.2.length≤1048576) (A2:=fun x=>[.agg #[.bool x.1.1,.slice u.p x.1.2.length u.c,.bool x.2.1,.slice v.p x.2.2.length v.c]]) (R2:=fun x=>[slF (rI .u32) u.p u.c x.1.2,slF (rI .u32) v.p v.c x.2.2])
    (fun x hx=>h x hx.1 hx.2.1 hx.2.2) fun g r=>by
      obtain ⟨x,a,b,e⟩:=r.1
      refine ⟨x,⟨e.symm,a.2.2.1,b.2.2.1⟩,?_,a.2.2.2,b.2.2.2,trivial⟩
      have h1:=Wd.rawL_eq a;have h2:=Wd.rawL_eq b
      simp only [rawL,List.cons.injEq,and_true] at h1 h2
      rw [h1.1,h1.2,h2.1,h2.2]
theorem eF_raw (i j:Nat) {la lb:List Int} (hi:R[i]? =some (slF (rI .u32) u.p u.c la)) (hj:R[j]? =some (slF (rI .u32) v.p v.c lb)) (h1:la.length=u.n) (h2:lb.length=v.n) (k1:u.n≤1048576) (k2:v.n≤1048576):∀g,Holds g R→(eF u v (qo ((u.s,la),(v.s,lb)))).on g:=fun g h=>
  ⟨((u.s,la),(v.s,lb)),⟨rfl,h1.symm,by show la.length≤1048576;omega,Holds.get i hi h⟩,⟨rfl,h2.symm,by show lb.length≤1048576;omega,Holds.get j hj h⟩,rfl⟩
theorem eF_weak (i:Nat) {x:Option Rat} (hi:R[i]? =some (eF u v x)):∀g,Holds g R→(qF x.isSome u v (x.getD 0)).on g:=fun g h=>eF_q (Holds.get i hi h)
end
end Go.Proofs.YtjeahiahjgifgaaGreatDoor.Sp
namespace Go.Proofs.YtjeahiahjgifgaaGreatDoor.Sp
open Go
set_option linter.unusedVariables false
set_option maxRecDepth 100000
set_option maxHeartbeats 8000000
theorem zkd {u1:Wd} {v1:Wd} {x1:Option Rat}:Con yj 97 [.agg #[u1.b,u1.l,v1.b,v1.l]] [] [eF u1 v1 (x1)] (Y:=Unit) (fun y=>True) (fun y=> .bool (x1.isSome)) (fun y=>[]) (fun y=>[]):=by
  exact zTf (fun y hy h1 h2=>by subst hy;have h:= @zyd y.1.1 u1.p _ u1.c y.1.2 y.2.1 v1.p _ v1.c y.2.2 rfl rfl h1 h2;rw [qo_s];exact h)
theorem zWc {u1:Wd} {v1:Wd} {x1:Option Rat}:Con yj 31 [.agg #[u1.b,u1.l,v1.b,v1.l]] [] [eF u1 v1 (x1)] (Y:=Unit) (fun y=>True) (fun y=> .bool (x1.isSome)) (fun y=>[]) (fun y=>[]):=by
  exact zTf (fun y hy h1 h2=>by subst hy;have h:= @zqc y.1.1 u1.p _ u1.c y.1.2 y.2.1 v1.p _ v1.c y.2.2 rfl rfl h1 h2;rw [qo_s];exact h)
end Go.Proofs.YtjeahiahjgifgaaGreatDoor.Sp
namespace Go.Proofs.YtjeahiahjgifgaaGreatDoor.Sp
open Go
set_option linter.unusedVariables false
set_option maxRecDepth 100000
set_option maxHeartbeats 8000000
theorem zGb {cm:Sh.C} {h:Int} (h64fo: -9223372036854775808≤cm.fo∧cm.fo≤9223372036854775807) (h64cx: -9223372036854775808≤cm.cx∧cm.cx≤9223372036854775807) (h64cy: -9223372036854775808≤cm.cy∧cm.cy≤9223372036854775807) (h64h: -9223372036854775808≤h∧h≤9223372036854775807):Con yj 45 [.agg #[yc yd (cm.fo),yc yd (cm.cx),yc yd (cm.cy)],yc yd h] [] [] (Y:=Unit) (fun y=>True) (fun y=> .bool (decide (Sh.cam cm∧yY h))) (fun y=>[]) (fun y=>[]):=by
 refine zv Tryz.func45 rfl rfl rfl (fun c=> ?_)
 show RunC _ _ _ _ _ [(0,.agg #[yc yd (cm.fo),yc yd (cm.cx),yc yd (cm.cy)]),(1,yc yd h)] [] []
 refine zj<|zc<|zE rfl rfl (zZ rfl rfl) (fun b1=> ?_)
 refine e_p (zh rfl)<|zk<|zg<|zAa (X:=Unit) (fun x=>True) (fun x=>[(4,.bool (decide (((1≤cm.fo)∧(cm.fo≤1048576))∧(Sh.wi 1048576 ([cm.cx,cm.cy,h])))))]) (fun x=>[boxA b1 37 [yc yd (cm.fo),yc yd (cm.cx),yc yd (cm.cy)]]) (fun x=>[]) ?_ ?_
 ·
  refine zc<|e_p (zf yL rfl sz3 rfl rfl)<|e_ru (ze 0 ty3 rfl rfl rfl)<|e_p (zob rfl rfl)<|zja rfl rfl (zka rfl) (fun h2=> ?_) (fun h2=> ?_)
  ·
   refine e_p (zf yL rfl sz3 rfl rfl)<|e_ru (ze 0 ty3 rfl rfl rfl)<|e_p (zKb rfl rfl)<|e_p (zK rfl rfl)<|zja rfl rfl (zka rfl) (fun h3=> ?_) (fun h3=> ?_)
   ·
    refine e_p (zf yL rfl sz35 rfl rfl)<|e_p (zf yM rfl sz3 rfl rfl)<|e_ru (ze 0 ty3 rfl rfl rfl)<|e_p (zf yL rfl sz35 rfl rfl)<|e_p (zf yM rfl sz3 rfl rfl)<|e_ru (ze 0 ty3 rfl rfl rfl)<|e_mv rfl<|zDa rfl rfl (zR (enc:=fun z:Int=>[yc yd z]) (ok:=InK .i64) (h1:=fun _=>rfl) (h2:=fun _=>rfl) (k:=3) yH inf3 rfl dd dd dd (.c (x:=cm.cx) rfl rfl (fun _ _=>by exact zq.2 om) (.c (x:=cm.cy) rfl rfl (fun _ _=>by exact zq.2 om) (.c (x:=h) rfl rfl (fun _ _=>by exact zq.2 om) .n)))) (fun b4 _=> ?_)
    refine zia 0 rfl .z<|zU rfl rfl (.c rfl (.c rfl .n)) ce42 (zxb (p:=some ⟨b4,0,none⟩) (n:=3) (cap:=3) (l:=[cm.cx,cm.cy,h]) (m:=1048576) (hn:=cbd) (hm:=cbd)) (.c (j:=0) rfl .n)<|e_p (zK rfl rfl)<|e_p (zh rfl)<|zk ?_
    exact zha () (show True from by first|trivial|omega|simp_all) ((.e rfl (congrArg Value.bool cbu) .n):SubM _ _) (ho:=((.c (i:=1) rfl .n):PickO _ _ _)) (.n:SelR _ _ _)
   ·
    refine e_no<|e_no<|e_no<|e_no<|e_no<|e_no<|e_no<|e_no<|e_no<|e_p (zK rfl rfl)<|e_p (zh rfl)<|zk ?_
    exact zha () (show True from by first|trivial|omega|simp_all) ((.e rfl (congrArg Value.bool cbu) .n):SubM _ _) (ho:=((.c (i:=0) rfl .n):PickO _ _ _)) (.n:SelR _ _ _)
  ·
   refine e_no<|e_no<|e_no<|e_p (zK rfl rfl)<|e_mv rfl<|e_no<|e_no<|e_no<|e_no<|e_no<|e_no<|e_no<|e_no<|e_no<|e_p (zK rfl rfl)<|e_p (zh rfl)<|zk ?_
   exact zha () (show True from by first|trivial|omega|simp_all) ((.e rfl (congrArg Value.bool cbu) .n):SubM _ _) (ho:=((.c (i:=0) rfl .n):PickO _ _ _)) (.n:SelR _ _ _)
 ·
  rintro ⟨⟩ -
  try dsimp only
  refine zS ?_
  exact zM Tryz.results45 () trivial (zC rfl) (congrArg Value.bool (decide_eq_decide.2 (by unfold Sh.cam yY;rw [Sh.wi_3];constructor <;> intro k <;> omega))) (ho:=(.n:PickO _ _ _)) (.n:SelR _ _ _)
theorem zlc {u:Int} {v:Int} (h64u: -9223372036854775808≤u∧u≤9223372036854775807) (h64v: -9223372036854775808≤v∧v≤9223372036854775807):Con yj 46 [.agg #[yc yd u,yc yd v]] [] [] (Y:=Unit) (fun y=>True) (fun y=> .bool (decide (yY u∧yY v∧Sh.inr (Sh.ro v)))) (fun y=>[]) (fun y=>[]):=by
 refine zv Tryz.func46 rfl rfl rfl (fun c=> ?_)
 show RunC _ _ _ _ _ [(0,.agg #[yc yd u,yc yd v])] [] []
 refine zj<|zc<|zE rfl rfl (zZ rfl rfl) (fun b1=> ?_)
 refine e_p (zh rfl)<|zk<|zg<|zAa (X:=Unit) (fun x=>True) (fun x=>[(2,.bool (decide ((Sh.wi 1048576 ([u,v]))∧(0≤(Sh.ro v)∧(Sh.ro v)<64))))]) (fun x=>[boxA b1 35 [yc yd u,yc yd v]]) (fun x=>[]) ?_ ?_
 ·
  refine zc<|e_p (zf yM rfl sz3 rfl rfl)<|e_ru (ze 0 ty3 rfl rfl rfl)<|e_p (zf yM rfl sz3 rfl rfl)<|e_ru (ze 0 ty3 rfl rfl rfl)<|zDa rfl rfl (zR (enc:=fun z:Int=>[yc yd z]) (ok:=InK .i64) (h1:=fun _=>rfl) (h2:=fun _=>rfl) (k:=2) yH inf3 rfl dd dd dd (.c (x:=u) rfl rfl (fun _ _=>by exact zq.2 om) (.c (x:=v) rfl rfl (fun _ _=>by exact zq.2 om) .n))) (fun b2 _=> ?_)
  refine zia 0 rfl .z<|zU rfl rfl (.c rfl (.c rfl .n)) ce42 (zxb (p:=some ⟨b2,0,none⟩) (n:=2) (cap:=2) (l:=[u,v]) (m:=1048576) (hn:=cbd) (hm:=cbd)) (.c (j:=0) rfl .n)<|zja rfl rfl (zka rfl) (fun h3=> ?_) (fun h3=> ?_)
  ·
   refine e_ru (zd 1 ty35 rfl rfl (.t2 .nil))<|zU rfl rfl (.c rfl .n) ce74 (zce (u:=u) (v:=v)) (.n)<|zU rfl rfl (.c rfl .n) ce44 (zxd (r:=(Sh.ro v))) (.n)<|e_p (zK rfl rfl)<|e_p (zh rfl)<|zk ?_
   exact zha () (show True from by first|trivial|omega|simp_all) ((.e rfl (congrArg Value.bool cbu) .n):SubM _ _) (ho:=((.c (i:=1) rfl .n):PickO _ _ _)) (.n:SelR _ _ _)
  ·
   refine e_no<|e_no<|e_no<|e_p (zK rfl rfl)<|e_p (zh rfl)<|zk ?_
   exact zha () (show True from by first|trivial|omega|simp_all) ((.e rfl (congrArg Value.bool cbu) .n):SubM _ _) (ho:=((.c (i:=1) rfl .n):PickO _ _ _)) (.n:SelR _ _ _)
 ·
  rintro ⟨⟩ -
  try dsimp only
  refine zS ?_
  exact zM Tryz.results46 () trivial (zC rfl) (congrArg Value.bool (decide_eq_decide.2 (by unfold yY Sh.inr;rw [Sh.wi_2];constructor <;> intro k <;> omega))) (ho:=(.n:PickO _ _ _)) (.n:SelR _ _ _)
theorem zTd {u1:Wd} {v1:Wd} {lx:Option Rat} {u2:Wd} {v2:Wd} {ly:Option Rat}:Con yj 63 [.agg #[u1.b,u1.l,v1.b,v1.l,u2.b,u2.l,v2.b,v2.l]] [] [eF u1 v1 lx,eF u2 v2 ly] (Y:=Unit) (fun y=>True) (fun y=> .bool (decide (lx.isSome=true∧ly.isSome=true))) (fun y=>[]) (fun y=>[]):=by
 refine zv Tryz.func63 rfl rfl rfl (fun c=> ?_)
 show RunC _ _ _ _ _ [(0,.agg #[u1.b,u1.l,v1.b,v1.l,u2.b,u2.l,v2.b,v2.l])] [] [eF u1 v1 lx,eF u2 v2 ly]
 refine zj<|zc<|zE rfl rfl (zZ rfl rfl) (fun b1=> ?_)
 refine e_p (zh rfl)<|zk<|zg<|zAa (X:=Unit) (fun x=>True) (fun x=>[(2,.bool (decide ((lx.isSome=true)∧(ly.isSome=true))))]) (fun x=>[boxA b1 46 (cw [u1,v1,u2,v2])]) (fun x=>[eF u1 v1 lx,eF u2 v2 ly]) ?_ ?_
 ·
  refine zc<|e_p (zf yw rfl sz44 rfl rfl)<|e_ru (zd 0 ty44 rfl rfl (.t4 .nil))<|zU rfl rfl (.c rfl .n) ce97 (zkd (u1:=u1) (v1:=v1) (x1:=lx)) (.c (j:=0) rfl .n)<|zbf rfl rfl (zka rfl) (fun h2=> ?_) (fun h2=> ?_)
  ·
   refine e_p (zf yw rfl sz44 rfl rfl)<|e_ru (zd 0 ty44 rfl rfl (.s4 (.t4 .nil)))<|zU rfl rfl (.c rfl .n) ce97 (zkd (u1:=u2) (v1:=v2) (x1:=ly)) (.c (j:=1) rfl .n)<|e_p (zK rfl rfl)<|e_p (zh rfl)<|zk ?_
   exact zha () (show True from by first|trivial|omega|simp_all) ((.e rfl (congrArg Value.bool cbu) .n):SubM _ _) (ho:=((.c (i:=0) rfl .n):PickO _ _ _)) ((.of [0,1] rfl):SelR _ _ _)
  ·
   refine e_no<|e_no<|e_no<|e_p (zK rfl rfl)<|e_p (zh rfl)<|zk ?_
   exact zha () (show True from by first|trivial|omega|simp_all) ((.e rfl (congrArg Value.bool cbu) .n):SubM _ _) (ho:=((.c (i:=0) rfl .n):PickO _ _ _)) ((.of [0,1] rfl):SelR _ _ _)
 ·
  rintro ⟨⟩ -
  try dsimp only [cw]
  refine zS ?_
  exact zM Tryz.results63 () trivial (zC rfl) rfl (ho:=(.n:PickO _ _ _)) (.n:SelR _ _ _)
end Go.Proofs.YtjeahiahjgifgaaGreatDoor.Sp
namespace Go.Proofs.YtjeahiahjgifgaaGreatDoor.Sp
open Go
set_option linter.unusedVariables false
set_option maxRecDepth 100000
set_option maxHeartbeats 8000000
theorem zId {s:Sh.S} {cm:Sh.C} {u:Int} {v:Int} {h:Int} (hfi: -9223372036854775808≤s.fi∧s.fi≤9223372036854775807) (hst: -9223372036854775808≤s.st∧s.st≤9223372036854775807) (hta: -9223372036854775808≤s.ta∧s.ta≤9223372036854775807) (htb: -9223372036854775808≤s.tb∧s.tb≤9223372036854775807) (hxa: -9223372036854775808≤s.xa∧s.xa≤9223372036854775807) (hya: -9223372036854775808≤s.ya∧s.ya≤9223372036854775807) (hza: -9223372036854775808≤s.za∧s.za≤9223372036854775807) (hqa: -9223372036854775808≤s.qa∧s.qa≤9223372036854775807) (hqb: -9223372036854775808≤s.qb∧s.qb≤9223372036854775807) (hqc: -9223372036854775808≤s.qc∧s.qc≤9223372036854775807) (hqd: -9223372036854775808≤s.qd∧s.qd≤9223372036854775807) (hxb: -9223372036854775808≤s.xb∧s.xb≤9223372036854775807) (hyb: -9223372036854775808≤s.yb∧s.yb≤9223372036854775807) (hzb: -9223372036854775808≤s.zb∧s.zb≤9223372036854775807) (hra: -9223372036854775808≤s.ra∧s.ra≤9223372036854775807) (hrb: -9223372036854775808≤s.rb∧s.rb≤9223372036854775807) (hrc: -9223372036854775808≤s.rc∧s.rc≤9223372036854775807) (hrd: -9223372036854775808≤s.rd∧s.rd≤9223372036854775807) (h64fo: -9223372036854775808≤cm.fo∧cm.fo≤9223372036854775807) (h64cx: -9223372036854775808≤cm.cx∧cm.cx≤9223372036854775807) (h64cy: -9223372036854775808≤cm.cy∧cm.cy≤9223372036854775807) (h64u: -9223372036854775808≤u∧u≤9223372036854775807) (h64v: -9223372036854775808≤v∧v≤9223372036854775807) (h64h: -9223372036854775808≤h∧h≤9223372036854775807):Con yj 24 [.agg #[yc yd (s.fi),yc yd (s.st),yc yd (s.ta),yc yd (s.xa),yc yd (s.ya),yc yd (s.za),yc yd (s.qa),yc yd (s.qb),yc yd (s.qc),yc yd (s.qd),yc yd (s.tb),yc yd (s.xb),yc yd (s.yb),yc yd (s.zb),yc yd (s.ra),yc yd (s.rb),yc yd (s.rc),yc yd (s.rd)],.agg #[yc yd (cm.fo),yc yd (cm.cx),yc yd (cm.cy)],.agg #[yc yd u,yc yd v],yc yd h] [] [sgF] (Y:=Wd×Wd×Wd×Wd) (fun y=>Sh.Gc s cm u v h≠0→y.1=wz∧y.2.1=wz∧y.2.2.1=wz∧y.2.2.2=wz) (fun y=> .tuple #[.agg #[y.1.b,y.1.l,y.2.1.b,y.2.1.l,y.2.2.1.b,y.2.2.1.l,y.2.2.2.b,y.2.2.2.l],yc yd (Sh.Gc s cm u v h)]) (fun y=>[]) (fun y=>[qF (decide (Sh.Gc s cm u v h=0)) y.1 y.2.1 (Sh.Gx s cm u v h),qF (decide (Sh.Gc s cm u v h=0)) y.2.2.1 y.2.2.2 (Sh.Gy s cm u v h)]):=by
 refine zv Tryz.func24 rfl rfl rfl (fun c=> ?_)
 show RunC _ _ _ _ _ [(0,.agg #[yc yd (s.fi),yc yd (s.st),yc yd (s.ta),yc yd (s.xa),yc yd (s.ya),yc yd (s.za),yc yd (s.qa),yc yd (s.qb),yc yd (s.qc),yc yd (s.qd),yc yd (s.tb),yc yd (s.xb),yc yd (s.yb),yc yd (s.zb),yc yd (s.ra),yc yd (s.rb),yc yd (s.rc),yc yd (s.rd)]),(1,.agg #[yc yd (cm.fo),yc yd (cm.cx),yc yd (cm.cy)]),(2,.agg #[yc yd u,yc yd v]),(3,yc yd h)] [] [sgF]
 refine zj<|zc<|zE rfl rfl (zZ rfl rfl) (fun b1=> ?_)
 refine zE rfl rfl (zZ rfl rfl) (fun b2=> ?_)
 refine zE rfl rfl (zZ rfl rfl) (fun b3=> ?_)
 refine zE rfl rfl (zo zr46 rfl) (fun b4=> ?_)
 refine e_p (zh rfl)<|zk<|zg<|zj<|zj<|zc<|e_ru (zd 3 ty29 rfl rfl (.t8 (.t8 (.t2 .nil))))<|zU rfl rfl (.c rfl (.c rfl .n)) ce12 (zwc (s:=s) (n:=1) (hfi:=ass) (hst:=ass) (hta:=ass) (htb:=ass) (hxa:=ass) (hya:=ass) (hza:=ass) (hqa:=ass) (hqb:=ass) (hqc:=ass) (hqd:=ass) (hxb:=ass) (hyb:=ass) (hzb:=ass) (hra:=ass) (hrb:=ass) (hrc:=ass) (hrd:=ass)) (.n)<|e_p (zh rfl)<|zk<|zg<|zj<|zc<|e_mv rfl<|e_p (zAb rfl rfl)<|zk<|zg<|zT rfl (fun hc=> ?_) (fun hc=> ?_)
 ·
  refine zj<|zc<|e_p (zx zr46 rfl yw (.c sz44 (.c sz44 .n)) .n .n)<|e_mv rfl<|zl 0 rfl rfl rfl rfl rfl sz46 rfl (.t8 .nil) .z<|e_p (zh rfl)<|zk<|zg<|zS<|zu<|zdb (qF false wz wz 0) (fun g _=>qF_none g) ?_
  have hg9:Sh.Gc s cm u v h=Sh.chk s 1:=if_neg hc
  have hg8:¬Sh.Gc s cm u v h=0:=by rw [hg9];exact hc
  have hx9:Sh.Gx s cm u v h=0:=if_neg hg8
  have hy9:Sh.Gy s cm u v h=0:=if_neg hg8
  exact zCa Tryz.results24 (wz,wz,wz,wz) (fun _=>⟨rfl,rfl,rfl,rfl⟩) (zr 0 ty46 rfl rfl (.t8 .nil)) (zC rfl) (by rw [hg9];rfl) (ho:=(.n:PickO _ _ _)) ((.e (j:=0) rfl (by rw [hx9,decide_eq_false hg8]) (.e (j:=0) rfl (by rw [hy9,decide_eq_false hg8]) .n)):SelR _ _ _)
 ·
  have hc0:Sh.chk s 1=0:=Decidable.not_not.1 hc
  obtain ⟨hok,-,hlt,hnd⟩:=Sh.chk_ok hc0
  refine zw<|zg<|zj<|zAa (X:=Unit) (fun x=>True) (fun x=>[(25,.bool (decide ((¬(Sh.cam cm∧yY h))∨(¬(yY u∧yY v∧Sh.inr (Sh.ro v)))))),(9,yc yd 0),(8,ye (some ⟨b4,0,none⟩)),(6,ye (some ⟨b3,0,none⟩)),(5,ye (some ⟨b2,0,none⟩)),(4,ye (some ⟨b1,0,none⟩)),(3,yc yd h)]) (fun x=>[boxA b4 46 (cw [wz,wz,wz,wz]),boxA b3 35 [yc yd u,yc yd v],boxA b2 37 [yc yd (cm.fo),yc yd (cm.cx),yc yd (cm.cy)],boxA b1 29 (cS s)]) (fun x=>[sgF]) ?_ ?_
  ·
   refine zc<|e_ru (zd 2 ty37 rfl rfl (.t2 (.take .nil)))<|e_mv rfl<|zU rfl rfl (.c rfl (.c rfl .n)) ce45 (zGb (cm:=cm) (h:=h) (h64fo:=ass) (h64cx:=ass) (h64cy:=ass) (h64h:=ass)) (.n)<|e_p (zKa rfl)<|zja rfl rfl (zka rfl) (fun h5=> ?_) (fun h5=> ?_)
   ·
    refine e_no<|e_no<|e_no<|e_p (zK rfl rfl)<|zk ?_
    exact zha () (show True from by first|trivial|omega|simp_all) ((.e rfl (congrArg Value.bool cbu) (.of rfl)):SubM _ _) (ho:=((.of [0,0,0,0] rfl):PickO _ _ _)) ((.c (j:=0) rfl .n):SelR _ _ _)
   ·
    refine e_ru (zd 1 ty35 rfl rfl (.t2 .nil))<|zU rfl rfl (.c rfl .n) ce46 (zlc (u:=u) (v:=v) (h64u:=ass) (h64v:=ass)) (.n)<|e_p (zKa rfl)<|e_p (zK rfl rfl)<|zk ?_
    exact zha () (show True from by first|trivial|omega|simp_all) ((.e rfl (congrArg Value.bool cbu) (.of rfl)):SubM _ _) (ho:=((.of [0,0,0,0] rfl):PickO _ _ _)) ((.c (j:=0) rfl .n):SelR _ _ _)
  ·
   rintro ⟨⟩ -
   try dsimp only [cw]
   refine zT rfl (fun hcp=> ?_) (fun hcp=> ?_)
   ·
    have hcp2:¬Sh.cp cm u v h:=fun k=>hcp.elim (fun e=>e ⟨k.1,k.2.2.2.1⟩) (fun e=>e ⟨k.2.1,k.2.2.1,k.2.2.2.2⟩)
    refine zj<|zc<|e_p (zx zr46 rfl yw (.c sz44 (.c sz44 .n)) .n .n)<|zl 0 rfl rfl rfl rfl rfl sz46 rfl (.t8 .nil) .z<|e_p (zh rfl)<|zk<|zg<|zS<|zu<|zdb (qF false wz wz 0) (fun g _=>qF_none g) ?_
    have hg9:Sh.Gc s cm u v h=2:=(if_pos hc0).trans (if_neg hcp2)
    have hg8:¬Sh.Gc s cm u v h=0:=by rw [hg9];decide
    have hx9:Sh.Gx s cm u v h=0:=if_neg hg8
    have hy9:Sh.Gy s cm u v h=0:=if_neg hg8
    exact zCa Tryz.results24 (wz,wz,wz,wz) (fun _=>⟨rfl,rfl,rfl,rfl⟩) (zr 0 ty46 rfl rfl (.t8 .nil)) (zC rfl) (by rw [hg9];rfl) (ho:=(.n:PickO _ _ _)) ((.e (j:=0) rfl (by rw [hx9,decide_eq_false hg8]) (.e (j:=0) rfl (by rw [hy9,decide_eq_false hg8]) .n)):SelR _ _ _)
   ·
    have hca:=Decidable.not_not.1 (fun e=>hcp (Or.inl e))
    have hcb:=Decidable.not_not.1 (fun e=>hcp (Or.inr e))
    have hcp2:Sh.cp cm u v h:=⟨hca.1,hcb.1,hcb.2.1,hca.2,hcb.2.2⟩
    refine zw<|zg<|zj<|zc<|e_ru (zd 3 ty29 rfl rfl (.t8 (.t8 (.t2 .nil))))<|e_ru (zd 2 ty37 rfl rfl (.t2 (.take .nil)))<|e_ru (zd 1 ty35 rfl rfl (.t2 .nil))<|e_mv rfl<|zG rfl rfl (.c rfl (.c rfl (.c rfl (.c rfl .n)))) ce47 (zzd (s:=s) (cm:=cm) (u:=u) (v:=v) (h:=h) (hok:=cbd) (hlt:=cbd) (hc:=by exact hcp2.1) (hu:=by exact hcp2.2.1) (hv:=by exact hcp2.2.2.1) (hh:=by exact hcp2.2.2.2.1) (hr:=by exact hcp2.2.2.2.2)) (.c (j:=0) rfl .n) ?_
    rintro ⟨w16,w27,w38,w49⟩ hph
    dsimp only [aq,nq,cq]
    replace hph:Sh.gc s cm u v h≠0→w16=wz∧w27=wz∧w38=wz∧w49=wz:=hph
    refine e_p (zy rfl rfl)<|e_p (zy rfl rfl)<|zl 0 rfl rfl rfl rfl rfl sz46 rfl (.t8 .nil) .z<|e_p (zh rfl)<|zk<|zg<|zS ?_
    have hg9:Sh.Gc s cm u v h=Sh.gc s cm u v h:=(if_pos hc0).trans (if_pos hcp2)
    have hx9:Sh.Gx s cm u v h=Sh.gx s cm u v h:=by by_cases k:Sh.gc s cm u v h=0;rw [show Sh.Gx s cm u v h=Sh.gx s cm u v h from if_pos (hg9.trans k)];(rw [show Sh.Gx s cm u v h=0 from if_neg (fun e=>k (hg9.symm.trans e)),show Sh.gx s cm u v h=0 from if_neg k])
    have hy9:Sh.Gy s cm u v h=Sh.gy s cm u v h:=by by_cases k:Sh.gc s cm u v h=0;rw [show Sh.Gy s cm u v h=Sh.gy s cm u v h from if_pos (hg9.trans k)];(rw [show Sh.Gy s cm u v h=0 from if_neg (fun e=>k (hg9.symm.trans e)),show Sh.gy s cm u v h=0 from if_neg k])
    exact zCa Tryz.results24 (w16,w27,w38,w49) (fun k=>hph (by rw [← hg9];exact k)) (zr 0 ty46 rfl rfl (.t8 .nil)) (zC rfl) (by rw [hg9]) (ho:=(.n:PickO _ _ _)) ((.e (j:=0) rfl (by rw [hx9,hg9]) (.e (j:=1) rfl (by rw [hy9,hg9]) .n)):SelR _ _ _)
end Go.Proofs.YtjeahiahjgifgaaGreatDoor.Sp
namespace Go.Proofs.YtjeahiahjgifgaaGreatDoor.Sp
open Go
set_option linter.unusedVariables false
set_option maxRecDepth 100000
set_option maxHeartbeats 8000000
theorem zld {s:Sh.S} {cm:Sh.C} {u:Int} {v:Int} {r:Int} {h:Int} (hfi: -9223372036854775808≤s.fi∧s.fi≤9223372036854775807) (hst: -9223372036854775808≤s.st∧s.st≤9223372036854775807) (hta: -9223372036854775808≤s.ta∧s.ta≤9223372036854775807) (htb: -9223372036854775808≤s.tb∧s.tb≤9223372036854775807) (hxa: -9223372036854775808≤s.xa∧s.xa≤9223372036854775807) (hya: -9223372036854775808≤s.ya∧s.ya≤9223372036854775807) (hza: -9223372036854775808≤s.za∧s.za≤9223372036854775807) (hqa: -9223372036854775808≤s.qa∧s.qa≤9223372036854775807) (hqb: -9223372036854775808≤s.qb∧s.qb≤9223372036854775807) (hqc: -9223372036854775808≤s.qc∧s.qc≤9223372036854775807) (hqd: -9223372036854775808≤s.qd∧s.qd≤9223372036854775807) (hxb: -9223372036854775808≤s.xb∧s.xb≤9223372036854775807) (hyb: -9223372036854775808≤s.yb∧s.yb≤9223372036854775807) (hzb: -9223372036854775808≤s.zb∧s.zb≤9223372036854775807) (hra: -9223372036854775808≤s.ra∧s.ra≤9223372036854775807) (hrb: -9223372036854775808≤s.rb∧s.rb≤9223372036854775807) (hrc: -9223372036854775808≤s.rc∧s.rc≤9223372036854775807) (hrd: -9223372036854775808≤s.rd∧s.rd≤9223372036854775807) (h64fo: -9223372036854775808≤cm.fo∧cm.fo≤9223372036854775807) (h64cx: -9223372036854775808≤cm.cx∧cm.cx≤9223372036854775807) (h64cy: -9223372036854775808≤cm.cy∧cm.cy≤9223372036854775807) (h64u: -9223372036854775808≤u∧u≤9223372036854775807) (h64v: -9223372036854775808≤v∧v≤9223372036854775807) (h64r: -9223372036854775808≤r∧r≤9223372036854775807) (h64h: -9223372036854775808≤h∧h≤9223372036854775807):Con yj 14 [.agg #[yc yd (s.fi),yc yd (s.st),yc yd (s.ta),yc yd (s.xa),yc yd (s.ya),yc yd (s.za),yc yd (s.qa),yc yd (s.qb),yc yd (s.qc),yc yd (s.qd),yc yd (s.tb),yc yd (s.xb),yc yd (s.yb),yc yd (s.zb),yc yd (s.ra),yc yd (s.rb),yc yd (s.rc),yc yd (s.rd)],.agg #[yc yd (cm.fo),yc yd (cm.cx),yc yd (cm.cy)],.agg #[yc yd u,yc yd v],yc yd r,yc yd h] [] [sgF] (Y:=Wd×Wd×Wd×Wd) (fun y=>Sh.Cc s cm u v r h≠0→y.1=wz∧y.2.1=wz∧y.2.2.1=wz∧y.2.2.2=wz) (fun y=> .tuple #[.agg #[y.1.b,y.1.l,y.2.1.b,y.2.1.l,y.2.2.1.b,y.2.2.1.l,y.2.2.2.b,y.2.2.2.l],yc yd (Sh.Cc s cm u v r h)]) (fun y=>[]) (fun y=>[qF (decide (Sh.Cc s cm u v r h=0)) y.1 y.2.1 (Sh.Cx s cm u v r h),qF (decide (Sh.Cc s cm u v r h=0)) y.2.2.1 y.2.2.2 (Sh.Cy s cm u v r h)]):=by
 refine zv Tryz.func14 rfl rfl rfl (fun c=> ?_)
 show RunC _ _ _ _ _ [(0,.agg #[yc yd (s.fi),yc yd (s.st),yc yd (s.ta),yc yd (s.xa),yc yd (s.ya),yc yd (s.za),yc yd (s.qa),yc yd (s.qb),yc yd (s.qc),yc yd (s.qd),yc yd (s.tb),yc yd (s.xb),yc yd (s.yb),yc yd (s.zb),yc yd (s.ra),yc yd (s.rb),yc yd (s.rc),yc yd (s.rd)]),(1,.agg #[yc yd (cm.fo),yc yd (cm.cx),yc yd (cm.cy)]),(2,.agg #[yc yd u,yc yd v]),(3,yc yd r),(4,yc yd h)] [] [sgF]
 refine zj<|zc<|zE rfl rfl (zZ rfl rfl) (fun b1=> ?_)
 refine zE rfl rfl (zZ rfl rfl) (fun b2=> ?_)
 refine zE rfl rfl (zZ rfl rfl) (fun b3=> ?_)
 refine zE rfl rfl (zo zr46 rfl) (fun b4=> ?_)
 refine e_p (zh rfl)<|zk<|zg<|zj<|zj<|zc<|e_ru (zd 3 ty29 rfl rfl (.t8 (.t8 (.t2 .nil))))<|zU rfl rfl (.c rfl (.c rfl .n)) ce12 (zwc (s:=s) (n:=1) (hfi:=ass) (hst:=ass) (hta:=ass) (htb:=ass) (hxa:=ass) (hya:=ass) (hza:=ass) (hqa:=ass) (hqb:=ass) (hqc:=ass) (hqd:=ass) (hxb:=ass) (hyb:=ass) (hzb:=ass) (hra:=ass) (hrb:=ass) (hrc:=ass) (hrd:=ass)) (.n)<|e_p (zh rfl)<|zk<|zg<|zj<|zc<|e_mv rfl<|e_p (zAb rfl rfl)<|zk<|zg<|zT rfl (fun hc=> ?_) (fun hc=> ?_)
 ·
  refine zj<|zc<|e_p (zx zr46 rfl yw (.c sz44 (.c sz44 .n)) .n .n)<|e_mv rfl<|zl 0 rfl rfl rfl rfl rfl sz46 rfl (.t8 .nil) .z<|e_p (zh rfl)<|zk<|zg<|zS<|zu<|zdb (qF false wz wz 0) (fun g _=>qF_none g) ?_
  have hg9:Sh.Cc s cm u v r h=Sh.chk s 1:=if_neg hc
  have hg8:¬Sh.Cc s cm u v r h=0:=by rw [hg9];exact hc
  have hx9:Sh.Cx s cm u v r h=0:=if_neg hg8
  have hy9:Sh.Cy s cm u v r h=0:=if_neg hg8
  exact zCa yV (wz,wz,wz,wz) (fun _=>⟨rfl,rfl,rfl,rfl⟩) (zr 0 ty46 rfl rfl (.t8 .nil)) (zC rfl) (by rw [hg9];rfl) (ho:=(.n:PickO _ _ _)) ((.e (j:=0) rfl (by rw [hx9,decide_eq_false hg8]) (.e (j:=0) rfl (by rw [hy9,decide_eq_false hg8]) .n)):SelR _ _ _)
 ·
  have hc0:Sh.chk s 1=0:=Decidable.not_not.1 hc
  obtain ⟨hok,-,hlt,hnd⟩:=Sh.chk_ok hc0
  refine zw<|zg<|zj<|zAa (X:=Unit) (fun x=>True) (fun x=>[(34,.bool (decide (((¬(0≤r∧r<64))∨(¬(Sh.cam cm∧yY h)))∨(¬(yY u∧yY v∧Sh.inr (Sh.ro v)))))),(11,yc yd 0),(10,ye (some ⟨b4,0,none⟩)),(7,ye (some ⟨b3,0,none⟩)),(6,ye (some ⟨b2,0,none⟩)),(5,ye (some ⟨b1,0,none⟩)),(3,yc yd r),(4,yc yd h)]) (fun x=>[boxA b4 46 (cw [wz,wz,wz,wz]),boxA b3 35 [yc yd u,yc yd v],boxA b2 37 [yc yd (cm.fo),yc yd (cm.cx),yc yd (cm.cy)],boxA b1 29 (cS s)]) (fun x=>[sgF]) ?_ ?_
  ·
   refine zc<|e_mv rfl<|zU rfl rfl (.c rfl .n) ce44 (zxd (r:=r)) (.n)<|e_p (zKa rfl)<|zja rfl rfl (zka rfl) (fun h5=> ?_) (fun h5=> ?_)
   ·
    refine e_no<|e_no<|e_no<|e_no<|e_p (zK rfl rfl)<|e_mv rfl<|e_no<|e_no<|e_no<|e_p (zK rfl rfl)<|zk ?_
    exact zha () (show True from by first|trivial|omega|simp_all) ((.e rfl (congrArg Value.bool cbu) (.of rfl)):SubM _ _) (ho:=((.of [0,0,0,0] rfl):PickO _ _ _)) ((.c (j:=0) rfl .n):SelR _ _ _)
   ·
    refine e_ru (zd 2 ty37 rfl rfl (.t2 (.take .nil)))<|e_mv rfl<|zU rfl rfl (.c rfl (.c rfl .n)) ce45 (zGb (cm:=cm) (h:=h) (h64fo:=ass) (h64cx:=ass) (h64cy:=ass) (h64h:=ass)) (.n)<|e_p (zKa rfl)<|e_p (zK rfl rfl)<|zja rfl rfl (zka rfl) (fun h6=> ?_) (fun h6=> ?_)
    ·
     refine e_no<|e_no<|e_no<|e_p (zK rfl rfl)<|zk ?_
     exact zha () (show True from by first|trivial|omega|simp_all) ((.e rfl (congrArg Value.bool cbu) (.of rfl)):SubM _ _) (ho:=((.of [0,0,0,0] rfl):PickO _ _ _)) ((.c (j:=0) rfl .n):SelR _ _ _)
    ·
     refine e_ru (zd 1 ty35 rfl rfl (.t2 .nil))<|zU rfl rfl (.c rfl .n) ce46 (zlc (u:=u) (v:=v) (h64u:=ass) (h64v:=ass)) (.n)<|e_p (zKa rfl)<|e_p (zK rfl rfl)<|zk ?_
     exact zha () (show True from by first|trivial|omega|simp_all) ((.e rfl (congrArg Value.bool cbu) (.of rfl)):SubM _ _) (ho:=((.of [0,0,0,0] rfl):PickO _ _ _)) ((.c (j:=0) rfl .n):SelR _ _ _)
  ·
   rintro ⟨⟩ -
   try dsimp only [cw]
   refine zT rfl (fun hcr=> ?_) (fun hcr=> ?_)
   ·
    have hcr2:¬(Sh.inr r∧Sh.cp cm u v h):=fun k=>hcr.elim (fun e=>e.elim (fun e=>e k.1) (fun e=>e ⟨k.2.1,k.2.2.2.2.1⟩)) (fun e=>e ⟨k.2.2.1,k.2.2.2.1,k.2.2.2.2.2⟩)
    refine zj<|zc<|e_p (zx zr46 rfl yw (.c sz44 (.c sz44 .n)) .n .n)<|zl 0 rfl rfl rfl rfl rfl sz46 rfl (.t8 .nil) .z<|e_p (zh rfl)<|zk<|zg<|zS<|zu<|zdb (qF false wz wz 0) (fun g _=>qF_none g) ?_
    have hg9:Sh.Cc s cm u v r h=2:=(if_pos hc0).trans (if_neg hcr2)
    have hg8:¬Sh.Cc s cm u v r h=0:=by rw [hg9];decide
    have hx9:Sh.Cx s cm u v r h=0:=if_neg hg8
    have hy9:Sh.Cy s cm u v r h=0:=if_neg hg8
    exact zCa yV (wz,wz,wz,wz) (fun _=>⟨rfl,rfl,rfl,rfl⟩) (zr 0 ty46 rfl rfl (.t8 .nil)) (zC rfl) (by rw [hg9];rfl) (ho:=(.n:PickO _ _ _)) ((.e (j:=0) rfl (by rw [hx9,decide_eq_false hg8]) (.e (j:=0) rfl (by rw [hy9,decide_eq_false hg8]) .n)):SelR _ _ _)
   ·
    have hir2:=Decidable.not_not.1 (fun e=>hcr (Or.inl (Or.inl e)))
    have hca:=Decidable.not_not.1 (fun e=>hcr (Or.inl (Or.inr e)))
    have hcb:=Decidable.not_not.1 (fun e=>hcr (Or.inr e))
    have hcp2:Sh.cp cm u v h:=⟨hca.1,hcb.1,hcb.2.1,hca.2,hcb.2.2⟩
    have hgq:=Sh.gx_hq hok hcp2.1 hcp2.2.1 hcp2.2.2.1 hcp2.2.2.2.2 hcp2.2.2.2.1
    refine zw<|zg<|zj<|zc<|e_ru (zd 3 ty29 rfl rfl (.t8 (.t8 (.t2 .nil))))<|e_ru (zd 2 ty37 rfl rfl (.t2 (.take .nil)))<|e_ru (zd 1 ty35 rfl rfl (.t2 .nil))<|e_mv rfl<|zG rfl rfl (.c rfl (.c rfl (.c rfl (.c rfl .n)))) ce47 (zzd (s:=s) (cm:=cm) (u:=u) (v:=v) (h:=h) (hok:=cbd) (hlt:=cbd) (hc:=by exact hcp2.1) (hu:=by exact hcp2.2.1) (hv:=by exact hcp2.2.2.1) (hh:=by exact hcp2.2.2.2.1) (hr:=by exact hcp2.2.2.2.2)) (.c (j:=0) rfl .n) ?_
    rintro ⟨w17,w28,w39,w410⟩ hy11
    dsimp only [aq,nq,cq]
    replace hy11:Sh.gc s cm u v h≠0→w17=wz∧w28=wz∧w39=wz∧w410=wz:=hy11
    refine e_mv rfl<|e_p (zy rfl rfl)<|e_p (zy rfl rfl)<|zE rfl rfl (zo zr46 rfl) (fun b12=> ?_)
    refine zl 0 rfl rfl rfl rfl rfl sz46 rfl (.t8 .nil) .z<|e_p (zh rfl)<|zk<|zg<|zj<|zj<|zc<|e_mv rfl<|e_p (zAb rfl rfl)<|zk<|zg<|zT rfl (fun hgg=> ?_) (fun hgg=> ?_)
    ·
     refine zj<|zc<|e_p (zx zr46 rfl yw (.c sz44 (.c sz44 .n)) .n .n)<|e_mv rfl<|zl 1 rfl rfl rfl rfl rfl sz46 rfl (.t8 .nil) (.s .z)<|e_p (zh rfl)<|zk<|zg<|zS<|zu<|zdb (qF false wz wz 0) (fun g _=>qF_none g) ?_
     have hg9:Sh.Cc s cm u v r h=Sh.gc s cm u v h:=((if_pos hc0).trans (if_pos ⟨hir2,hcp2⟩)).trans (if_neg hgg)
     have hg8:¬Sh.Cc s cm u v r h=0:=by rw [hg9];exact hgg
     have hx9:Sh.Cx s cm u v r h=0:=if_neg hg8
     have hy9:Sh.Cy s cm u v r h=0:=if_neg hg8
     exact zCa yV (wz,wz,wz,wz) (fun _=>⟨rfl,rfl,rfl,rfl⟩) (zr 1 ty46 rfl rfl (.t8 .nil)) (zC rfl) (by rw [hg9];rfl) (ho:=(.n:PickO _ _ _)) ((.e (j:=0) rfl (by rw [hx9,decide_eq_false hg8]) (.e (j:=0) rfl (by rw [hy9,decide_eq_false hg8]) .n)):SelR _ _ _)
    ·
     have hgz:=Decidable.not_not.1 hgg
     refine zw<|zg<|zj<|zc<|e_ru (zd 4 ty29 rfl rfl (.t8 (.t8 (.t2 .nil))))<|e_ru (zd 3 ty37 rfl rfl (.t2 (.take .nil)))<|e_mv rfl<|e_ru (zd 0 ty46 rfl rfl (.t8 .nil))<|e_mv rfl<|zG rfl rfl (.c rfl (.c rfl (.c rfl (.c rfl (.c rfl .n))))) ce48 (zie (s:=s) (cm:=cm) (r:=r) (k1:=(decide (Sh.gc s cm u v h=0))) (u1:=w17) (v1:=w28) (ax:=(Sh.gx s cm u v h)) (k2:=(decide (Sh.gc s cm u v h=0))) (u2:=w39) (v2:=w410) (ay:=(Sh.gy s cm u v h)) (h:=h) (hok:=cbd) (hlt:=cbd) (hc:=by exact hcp2.1) (hr:=by exact hir2) (hqx:=by exact hgq.1) (hqy:=by exact hgq.2) (hh:=by exact hcp2.2.2.2.1)) (.c (j:=2) rfl (.c (j:=0) rfl (.c (j:=1) rfl .n))) ?_
     rintro ⟨w113,w214,w315,w416⟩ hph
     dsimp only [aq,nq,cq]
     replace hph:Sh.ic s r (Sh.gx s cm u v h) (Sh.gy s cm u v h) h≠0→w113=wz∧w214=wz∧w315=wz∧w416=wz:=hph
     refine e_p (zy rfl rfl)<|e_p (zy rfl rfl)<|zl 1 rfl rfl rfl rfl rfl sz46 rfl (.t8 .nil) (.s .z)<|e_p (zh rfl)<|zk<|zg<|zS ?_
     have hg9:Sh.Cc s cm u v r h=Sh.ic s r (Sh.gx s cm u v h) (Sh.gy s cm u v h) h:=((if_pos hc0).trans (if_pos ⟨hir2,hcp2⟩)).trans (if_pos hgz)
     have hx9:Sh.Cx s cm u v r h=Sh.ix s cm r (Sh.gx s cm u v h) (Sh.gy s cm u v h) h:=by by_cases k:Sh.ic s r (Sh.gx s cm u v h) (Sh.gy s cm u v h) h=0;rw [show Sh.Cx s cm u v r h=Sh.ix s cm r (Sh.gx s cm u v h) (Sh.gy s cm u v h) h from if_pos (hg9.trans k)];(rw [show Sh.Cx s cm u v r h=0 from if_neg (fun e=>k (hg9.symm.trans e)),show Sh.ix s cm r (Sh.gx s cm u v h) (Sh.gy s cm u v h) h=0 from if_neg k])
     have hy9:Sh.Cy s cm u v r h=Sh.iy s cm r (Sh.gx s cm u v h) (Sh.gy s cm u v h) h:=by by_cases k:Sh.ic s r (Sh.gx s cm u v h) (Sh.gy s cm u v h) h=0;rw [show Sh.Cy s cm u v r h=Sh.iy s cm r (Sh.gx s cm u v h) (Sh.gy s cm u v h) h from if_pos (hg9.trans k)];(rw [show Sh.Cy s cm u v r h=0 from if_neg (fun e=>k (hg9.symm.trans e)),show Sh.iy s cm r (Sh.gx s cm u v h) (Sh.gy s cm u v h) h=0 from if_neg k])
     exact zCa yV (w113,w214,w315,w416) (fun k=>hph (by rw [← hg9];exact k)) (zr 1 ty46 rfl rfl (.t8 .nil)) (zC rfl) (by rw [hg9]) (ho:=(.n:PickO _ _ _)) ((.e (j:=0) rfl (by rw [hx9,hg9]) (.e (j:=1) rfl (by rw [hy9,hg9]) .n)):SelR _ _ _)
end Go.Proofs.YtjeahiahjgifgaaGreatDoor.Sp
namespace Go.Proofs.YtjeahiahjgifgaaGreatDoor.Sh
open Go.Proofs.YtjeahiahjgifgaaGreatDoor.Big
theorem k0:((0:Int):Rat)=0:=rfl
theorem k1:((1:Int):Rat)=1:=rfl
theorem k2:((2:Int):Rat)=2:=rfl
theorem km1:((-1:Int):Rat)= -1:=rfl
theorem km2:((-2:Int):Rat)= -2:=rfl
def mm (x y:Int):Rat:=((x:Int):Rat)*((y:Int):Rat)
theorem pr_1 (x y:Int):mm x y=pr 1 x y:=by unfold mm pr;rw [k1,Rat.one_mul]
theorem pr_m1 (x y:Int): - mm x y=pr (-1) x y:=by unfold mm pr;rw [km1];grind
theorem s2_pp (a b c d:Int):s2 (mm a b) (mm c d)+s2 (mm a b) (mm c d)=s2 (pr 2 a b) (pr 2 c d):=by unfold s2 mm pr;rw [k2];grind
theorem s2_pm (a b c d:Int):s2 (mm a b) (- mm c d)+s2 (mm a b) (- mm c d)=s2 (pr 2 a b) (pr (-2) c d):=by unfold s2 mm pr;rw [k2,km2];grind
def nn (q:Q4):Rat:=((((q.1:Int):Rat)*((q.1:Int):Rat)+((q.2.1:Int):Rat)*((q.2.1:Int):Rat))+((q.2.2.1:Int):Rat)*((q.2.2.1:Int):Rat))+((q.2.2.2:Int):Rat)*((q.2.2.2:Int):Rat)
theorem e4 (a b c d:Rat):s4 a b c d=a+b+c+d:=by unfold s4;rw [k0];grind
theorem e2 (a b:Rat):s2 a b=a+b:=by unfold s2;rw [k0];grind
end Go.Proofs.YtjeahiahjgifgaaGreatDoor.Sh
namespace Go.Proofs.YtjeahiahjgifgaaGreatDoor.Sh
open Go.Proofs.YtjeahiahjgifgaaGreatDoor.Big
def Pc (s:S) (r:Int):Int:=if chk s 1=0 then (if inr r then (if z4 (rot s r) then 13 else 0) else 2) else chk s 1
def seen (s:S) (c:C) (x y:Rat) (h r:Int):Prop:=(ic s r x y h=0∧0≤sgq (iy s c r x y h - ((64*r:Int):Rat)))∧sgq (iy s c r x y h - ((64*r+64:Int):Rat))<0
instance (s:S) (c:C) (x y:Rat) (h r:Int):Decidable (seen s c x y h r):=by unfold seen;infer_instance
def rowsL (s:S) (c:C) (x y:Rat) (h:Int):Nat→List Int
  |0=>[]
  |k+1=>rowsL s c x y h k++(if seen s c x y h (k:Int) then [(k:Int)] else [])
theorem rowsL_len {s:S} {c:C} {x y:Rat} {h:Int}:∀k,(rowsL s c x y h k).length≤k
  |0=>Nat.le_refl _
  |k+1=>by rw [rowsL,List.length_append];have:=rowsL_len (s:=s) (c:=c) (x:=x) (y:=y) (h:=h) k;split <;> simp <;> omega
def rc (c:C) (h:Int):Prop:=cam c∧inb h
instance (c:C) (h:Int):Decidable (rc c h):=by unfold rc;infer_instance
def Rc (s:S) (c:C) (n:Int) (kx ky:Bool) (h:Int):Int:=if chk s n=0 then (if rc c h then (if kx=true∧ky=true then 0 else 1) else 2) else chk s n
def Rl (s:S) (c:C) (n:Int) (kx:Bool) (x:Rat) (ky:Bool) (y:Rat) (h:Int):List Int:=if Rc s c n kx ky h=0 then rowsL s c x y h n.toNat else []
theorem gl_take {l:List Int} {i:Nat} (h:i<l.length):gl (l.take (i+1))=Nat.gcd (gl (l.take i)) (l.getD i 0).natAbs:=by
  unfold gl
  rw [List.take_add_one,List.getElem?_eq_getElem h,Option.toList_some,List.foldl_append,List.getD_eq_getElem?_getD,List.getElem?_eq_getElem h];rfl
def sumL (l:List Rat):Rat:=l.foldl (fun a b=>a+b) ((0:Int):Rat)
theorem sumL_take {l:List Rat} {i:Nat} (h:i<l.length):sumL (l.take (i+1))=sumL (l.take i)+l.getD i 0:=by
  unfold sumL
  rw [List.take_add_one,List.getElem?_eq_getElem h,Option.toList_some,List.foldl_append,List.getD_eq_getElem?_getD,List.getElem?_eq_getElem h];rfl
def hqAll (k:Nat):List Rat→Prop
  |[]=>True
  |x :: l=>hq x≤k∧hqAll k l
theorem hqAll_get {k:Nat}:∀{l:List Rat},hqAll k l→∀i,i<l.length→hq (l.getD i 0)≤k
  |[],_,i,h=>by simp at h
  |x :: l,h,0,_=>h.1
  |x :: l,h,i+1,hi=>by rw [List.getD_cons_succ];exact hqAll_get h.2 i (by simpa using hi)
theorem sumL_hq {l:List Rat} {k:Nat} (h:hqAll k l):∀i,i≤l.length→hq (sumL (l.take i))≤3+i*(k+1)
  |0,_=>by simp [sumL];exact hq0
  |i+1,hi=>by
    rw [sumL_take (by omega)]
    have:=hqA (sumL_hq h i (by omega)) (hqAll_get h i (by omega))
    rw [Nat.add_mul];omega
theorem two_hq {l:List Rat} (h:hqAll 20 l) (hl:l.length≤4):hq (sumL l)+hq (sumL l)+1≤1048576:=by
  have:=sumL_hq h l.length (Nat.le_refl _)
  rw [List.take_length] at this
  omega
theorem d_ppmm (a b c d:Int):sumL [mm a a,mm b b,- mm c c,- mm d d]=s4 (pr 1 a a) (pr 1 b b) (pr (-1) c c) (pr (-1) d d):=by rw [← pr_1,←pr_1,←pr_m1,←pr_m1];rfl
theorem d_pmpm (a b c d:Int):sumL [mm a a,- mm b b,mm c c,- mm d d]=s4 (pr 1 a a) (pr (-1) b b) (pr 1 c c) (pr (-1) d d):=by rw [← pr_1,←pr_1,←pr_m1,←pr_m1];rfl
theorem d_pmmp (a b c d:Int):sumL [mm a a,- mm b b,- mm c c,mm d d]=s4 (pr 1 a a) (pr (-1) b b) (pr (-1) c c) (pr 1 d d):=by rw [← pr_1,←pr_1,←pr_m1,←pr_m1];rfl
theorem o_pm (a b c d:Int):sumL [mm a b,- mm c d]+sumL [mm a b,- mm c d]=s2 (pr 2 a b) (pr (-2) c d):=s2_pm a b c d
theorem o_pp (a b c d:Int):sumL [mm a b,mm c d]+sumL [mm a b,mm c d]=s2 (pr 2 a b) (pr 2 c d):=s2_pp a b c d
theorem mm_hq {a b:Int} (ha: -9223372036854775808≤a∧a≤9223372036854775807) (hb: -9223372036854775808≤b∧b≤9223372036854775807):hq (mm a b)≤6:=hqM (hqI ha.1 ha.2) (hqI hb.1 hb.2)
theorem quo_mul (f z x:Rat):f / z*x=f*x / z:=by rw [Rat.div_def,Rat.div_def];grind
def lcam (c:C) (lr ll:List Int):Prop:=(∀r∈lr,0≤r∧r<64)∧cam c∧wi 1048576 ll
instance (c:C) (lr ll:List Int):Decidable (lcam c lr ll):=by unfold lcam;infer_instance
theorem rows_get {l:List Int} (h:∀j,j<l.length→0≤l.getD j 0∧l.getD j 0<64):∀r∈l,0≤r∧r<64:=fun x hx=>by
  obtain ⟨j,hj,e⟩:=List.getElem_of_mem hx
  have:=h j hj
  rwa [List.getD_eq_getElem?_getD,List.getElem?_eq_getElem hj,Option.getD_some,e] at this
theorem rows_not {l:List Int} {j:Nat} (hj:j<l.length) (h:l.getD j 0<0∨64≤l.getD j 0):¬∀r∈l,0≤r∧r<64:=fun k=>by
  have:=k (l.getD j 0) (by rw [List.getD_eq_getElem?_getD,List.getElem?_eq_getElem hj,Option.getD_some];exact List.getElem_mem hj)
  omega
theorem lcam_r {c:C} {h:Int}:lcam c [] [h]↔rc c h:=by
  unfold lcam rc inb;rw [wi_1]
  constructor
  · rintro ⟨a,b,d⟩;exact ⟨b,d⟩
  · rintro ⟨b,d⟩;exact ⟨fun x hx=>(by cases hx),b,d⟩
def exS:S:=⟨0,10,0,0,0,1000,0,1,0,0,100,100,0,1000,0,1,0,0⟩
def exC:C:=⟨640,0,0⟩
theorem ex_chk:chk exS 64=0:=by decide +kernel
theorem ex_gc:Gc exS exC 64 128 0=0:=by decide +kernel
theorem ex_gx:Gx exS exC 64 128 0=((120:Int):Rat):=by decide +kernel
theorem ex_gy:Gy exS exC 64 128 0=((-200:Int):Rat):=by decide +kernel
theorem ex_cc:Cc exS exC 64 128 0 0=0:=by decide +kernel
theorem ex_cx:Cx exS exC 64 128 0 0=Rat.divInt 384 5:=by decide +kernel
theorem ex_cy:Cy exS exC 64 128 0 0=((128:Int):Rat):=by decide +kernel
theorem au {p:Prop} (h:p:=by first|rfl|assumption|omega|(exact Nat.le_trans (by assumption) (by decide))|exact Go.Proofs.YtjeahiahjgifgaaGreatDoor.Sh.two_hq (by (repeat' (first|exact trivial|(refine And.intro ?_ ?_)|exact Nat.le_trans (by assumption) (by decide)|(rw [Go.Proofs.YtjeahiahjgifgaaGreatDoor.Big.hq_neg];exact Nat.le_trans (by assumption) (by decide))))) (by simp)|(repeat' (first|exact trivial|(refine And.intro ?_ ?_)|exact Nat.le_trans (by assumption) (by decide)|(rw [Go.Proofs.YtjeahiahjgifgaaGreatDoor.Big.hq_neg];exact Nat.le_trans (by assumption) (by decide))))):p:=h
end Go.Proofs.YtjeahiahjgifgaaGreatDoor.Sh
namespace Go.Proofs.YtjeahiahjgifgaaGreatDoor.Sp
open Go
set_option linter.unusedVariables false
set_option maxRecDepth 100000
set_option maxHeartbeats 8000000
theorem zgg {p:Option Addr} {n:Nat} {cap:Nat} {l:List Int} (hn:l.length=n) (hl:∀i,i<n→ -4611686018427387904≤l.getD i 0∧l.getD i 0≤4611686018427387904):Con yj 69 [.slice p n cap] [] [slF (rI .i64) p cap l] (Y:=Unit) (fun y=>True) (fun y=> yc yd (((Sh.gl l):Nat):Int)) (fun y=>[]) (fun y=>[]):=by
 refine zv Tryz.func69 rfl rfl rfl (fun c=> ?_)
 show RunC _ _ _ _ _ [(0,.slice p n cap)] [] [slF (rI .i64) p cap l]
 refine zqa 0 rfl (fun hL0=> ?_)
 refine zj<|zc<|e_p (zh rfl)<|zk<|zg<|zj<|zc<|e_p (zh rfl)<|zk<|zg<|zj<|zj<|zc<|e_mv rfl<|e_p (zfa yH rfl)<|e_mv rfl<|zk<|zg<|zt<|zBa (X:=Nat×Nat) (fun x:Nat×Nat=>x.1≤n∧x.2=Sh.gl (l.take x.1)) (fun x=>[(3,yc yd ((x.2:Nat):Int)),(8,yc yd ((x.1:Nat):Int)),(7,yc yd ((n:Nat):Int)),(6,.slice p n cap),(2,yc yd 0)]) (fun x=>[]) (fun x=>[slF (rI .i64) p cap l]) (fun x:Nat×Nat=>n - x.1) (0,0) (show 0≤n∧0=Sh.gl (l.take 0) from by exact ⟨Nat.zero_le _,rfl⟩) ((.e rfl (by first|rfl|(congr 1;omega)|simp_all) (.e rfl (by first|rfl|(congr 1;omega)|simp_all) (.of rfl))):SubM _ _) (ho:=(.n:PickO _ _ _)) ((.c (j:=0) rfl .n):SelR _ _ _) ?_
 rintro ⟨i,g⟩ hI
 replace hI:i≤n∧g=Sh.gl (l.take i):=hI
 try dsimp only
 obtain ⟨hi,hgl⟩:=hI
 refine zj<|zc<|e_p (zO rfl rfl)<|zk<|zg<|zj<|zT rfl (fun h1=> ?_) (fun h1=> ?_)
 ·
  have hli:=hl i om
  refine zw<|zg<|zj<|zt<|zj<|zc<|zW (x0:=(l.getD i 0)) 0 i rfl yH sz3 rfl rfl rfl cbs rfl rfl (gD (d:=0) om) (fun b2 o3 hok4=> ?_)
  replace hok4:=zq.1 hok4
  refine e_ru (zB (j:=0) 0 ty3 rfl rfl rfl rfl)<|e_p (zh rfl)<|zk<|zg<|zj<|zc<|e_mv rfl<|e_mv rfl<|e_p (zgc (z:=(-(l.getD i 0))) rfl (w64 om))<|e_p (ztd rfl rfl)<|e_p (zh rfl)<|zk<|zg<|zt ?_
  have e5:((max (l.getD i 0) (-(l.getD i 0))):Int)=(((l.getD i 0).natAbs:Nat):Int):=by omega
  rw [e5]
  obtain ⟨gg,hgg⟩:∃z:Nat,z=Nat.gcd g (l.getD i 0).natAbs:=⟨_,rfl⟩
  refine zBa (X:=Nat×Nat) (fun x:Nat×Nat=>Nat.gcd x.1 x.2=gg) (fun x=>[(5,yc yd ((x.2:Nat):Int)),(3,yc yd ((x.1:Nat):Int)),(8,yc yd ((i:Nat):Int)),(7,yc yd ((n:Nat):Int)),(6,.slice p n cap),(2,yc yd 0)]) (fun x=>[]) (fun x=>[atF b2 o3 [yc yd (l.getD i 0)],slF (rI .i64) p cap l]) (fun x:Nat×Nat=>x.2) (g,(l.getD i 0).natAbs) (show Nat.gcd g ((l.getD i 0).natAbs)=gg from by exact hgg.symm) ((.of rfl):SubM _ _) (ho:=(.n:PickO _ _ _)) ((.of [0,1] rfl):SelR _ _ _) ?_
  rintro ⟨x,y⟩ hG
  replace hG:Nat.gcd x y=gg:=hG
  try dsimp only
  refine zj<|zj<|zc<|e_mv rfl<|e_p (zAb rfl rfl)<|zk<|zg<|zT rfl (fun hy0=> ?_) (fun hy0=> ?_)
  ·
   refine zw<|zg<|zt<|zP (OW:=[]) (O:=[]) 100000 mixed (.block (.then (.block (.block (.then (.then (.block (.then .ret)))))))) kr<|e_dm 0 rfl rfl rfl<|e_dm 1 rfl rfl rfl<|e_dm 2 rfl rfl rfl<|e_pv 3 rfl rfl (znb (z:=(((x%y):Nat):Int)) rfl rfl om (remN om om))<|e_pv 4 rfl rfl (zh rfl)<|e_pv 5 rfl rfl (zh rfl)<|zN kr<|zI<|zwa (y,(x%y)) (show Nat.gcd y (x%y)=gg from by exact Sh.gcd_step hG) (by show x%y<y;exact Nat.mod_lt _ om) ((.of rfl):SubM _ _) (ho:=(.n:PickO _ _ _)) ((.of [0,1] rfl):SelR _ _ _)
  ·
   refine zla<|zn<|zn<|zA<|zI<|zg<|zc<|e_p (zH (z:=(((i+1):Nat):Int)) rfl rfl (w64 om))<|e_mv rfl<|zk<|zwa ((i+1),x) (show (i+1)≤n∧x=Sh.gl (l.take (i+1)) from by exact ⟨by omega,by rw [Sh.gl_take om,←hgl,←hgg,←hG,show y=0 by omega,Nat.gcd_zero_right]⟩) (by show n - (i+1)<n - i;omega) ((.of rfl):SubM _ _) (ho:=(.n:PickO _ _ _)) ((.c (j:=1) rfl .n):SelR _ _ _)
 ·
  refine zla<|zn<|zn<|zA<|zg<|zj<|zc<|e_mv rfl<|e_p (zh rfl)<|zk<|zg<|zS ?_
  exact zM Tryz.results69 () trivial (zC rfl) (by rw [hgl,List.take_of_length_le om]) (ho:=(.n:PickO _ _ _)) (.n:SelR _ _ _)
theorem zOe {s:Sh.S} {r:Int} (hok:Sh.Ok s) (hr:0≤r∧r≤64):Con yj 33 [.agg #[yc yd (s.fi),yc yd (s.st),yc yd (s.ta),yc yd (s.xa),yc yd (s.ya),yc yd (s.za),yc yd (s.qa),yc yd (s.qb),yc yd (s.qc),yc yd (s.qd),yc yd (s.tb),yc yd (s.xb),yc yd (s.yb),yc yd (s.zb),yc yd (s.ra),yc yd (s.rb),yc yd (s.rc),yc yd (s.rd)],yc yd r] [] [] (Y:=Unit) (fun y=>True) (fun y=> .agg #[yc yd ((Sh.rot s r).1),yc yd ((Sh.rot s r).2.1),yc yd ((Sh.rot s r).2.2.1),yc yd ((Sh.rot s r).2.2.2)]) (fun y=>[]) (fun y=>[]):=by
 refine zv Tryz.func33 rfl rfl rfl (fun c=> ?_)
 show RunC _ _ _ _ _ [(0,.agg #[yc yd (s.fi),yc yd (s.st),yc yd (s.ta),yc yd (s.xa),yc yd (s.ya),yc yd (s.za),yc yd (s.qa),yc yd (s.qb),yc yd (s.qc),yc yd (s.qd),yc yd (s.tb),yc yd (s.xb),yc yd (s.yb),yc yd (s.zb),yc yd (s.ra),yc yd (s.rb),yc yd (s.rc),yc yd (s.rd)]),(1,yc yd r)] [] []
 have hn:=hok.n
 have hpa:=hok.pa
 have hpb:=hok.pb
 have hqa:=hok.qa
 have hqb:=hok.qb
 have htm:=Sh.tm_b hok hr
 have hrs: -(64*1073741824)≤r*s.st∧r*s.st≤64*1073741824:=by have h8:=htm;unfold yC at h8;have h9:=Sh.mul_b (x:=r) (y:=s.st) (m:=64) (n:=1073741824) om om;omega
 have hm0:=Sh.mix_b hok hr hok.qa.1 hok.qb.1
 have hm1:=Sh.mix_b hok hr hok.qa.2.1 hok.qb.2.1
 have hm2:=Sh.mix_b hok hr hok.qa.2.2.1 hok.qb.2.2.1
 have hm3:=Sh.mix_b hok hr hok.qa.2.2.2 hok.qb.2.2.2
 have hrw:=Sh.raw_b hok hr
 refine zj<|zc<|zE rfl rfl (zZ rfl rfl) (fun b1=> ?_)
 refine zE rfl rfl (zo zr25 rfl) (fun b2=> ?_)
 refine zk<|zg<|zj<|zc<|e_p (zf yz rfl sz3 rfl rfl)<|e_ru (ze 1 ty3 rfl rfl rfl)<|e_mv rfl<|e_p (zf yz rfl sz3 rfl rfl)<|e_ru (ze 1 ty3 rfl rfl rfl)<|e_p (zJa (z:=(r*s.st)) rfl rfl (w64 om))<|e_p (zH (z:=(s.fi+(r*s.st))) rfl rfl (w64 om))<|e_p (zh rfl)<|zk<|zg<|zj ?_
 have e3:s.fi+(r*s.st)=yC s r:=by rfl
 rw [e3]
 refine zP (OW:=[]) (O:=[boxA b2 25 [yc yd 0,yc yd 0,yc yd 0,yc yd 0],boxA b1 29 (cS s)]) 100000 mixed (.then .ret) kr<|e_pv 0 rfl rfl (zf yz rfl sz27 rfl rfl)<|e_pv 1 rfl rfl (zf yN rfl sz3 rfl rfl)<|e_u 2 rfl rfl (ze 1 ty3 rfl rfl rfl)<|e_dm 3 rfl rfl rfl<|e_pv 4 rfl rfl (zna (z:=(s.tb - (yC s r))) rfl rfl (w64 om))<|e_dm 5 rfl rfl rfl<|e_pv 6 rfl rfl (zf yz rfl sz27 rfl rfl)<|e_pv 7 rfl rfl (zf yN rfl sz3 rfl rfl)<|e_u 8 rfl rfl (ze 1 ty3 rfl rfl rfl)<|e_pv 9 rfl rfl (zna (z:=((yC s r) - s.ta)) rfl rfl (w64 om))<|e_pv 10 rfl rfl (zh rfl)<|e_pv 11 rfl rfl (zh rfl)<|zN kr<|zg<|zj<|zP (OW:=[]) (O:=[boxA b2 25 [yc yd 0,yc yd 0,yc yd 0,yc yd 0],boxA b1 29 (cS s)]) 8 mixed (.then .ret) kr<|e_pv 0 rfl rfl (zf yz rfl sz27 rfl rfl)<|e_pv 1 rfl rfl (zf yN rfl sz25 rfl rfl)<|e_u 2 rfl rfl (zd 1 ty25 rfl rfl (.s4 (.s2 (.t4 .nil))))<|e_pv 3 rfl rfl (zf yz rfl sz27 rfl rfl)<|e_pv 4 rfl rfl (zf yN rfl sz25 rfl rfl)<|e_u 5 rfl rfl (zd 1 ty25 rfl rfl (.s8 (.s4 (.s2 (.t4 .nil)))))<|zLb (m':=[(34,.agg #[yc yd (s.ra),yc yd (s.rb),yc yd (s.rc),yc yd (s.rd)]),(31,.agg #[yc yd (s.qa),yc yd (s.qb),yc yd (s.qc),yc yd (s.qd)]),(7,yc yd ((yC s r) - s.ta)),(6,yc yd (s.tb - (yC s r))),(4,ye (some ⟨b2,0,none⟩))]) (R':=[]) ((.of rfl):SubM _ _) (List.Perm.refl _) (List.Perm.refl _) (.n:SelR _ _ _)<|zga (X:=Nat×Nat) (k':=0) (L':=(lb 10 1023)) (fun (u6_1,u7_1)=>([(9,ye (some ⟨u7_1,0,none⟩)),(8,ye (some ⟨u6_1,0,none⟩)),(7,yc yd ((yC s r) - s.ta)),(6,yc yd (s.tb - (yC s r))),(4,ye (some ⟨b2,0,none⟩))],[boxA u7_1 25 [yc yd (s.ra),yc yd (s.rb),yc yd (s.rc),yc yd (s.rd)],boxA u6_1 25 [yc yd (s.qa),yc yd (s.qb),yc yd (s.qc),yc yd (s.qd)]],[boxA b2 25 [yc yd 0,yc yd 0,yc yd 0,yc yd 0],boxA b1 29 (cS s)],[])) ?_ (fun hD0=> ?_)
 ·
  rintro ⟨u6_1,u7_1⟩
  dsimp only [cw,cS]
  refine zN kr<|zg<|zj<|zc<|e_mv rfl<|e_p (zf yp rfl sz3 rfl rfl)<|e_ru (ze 1 ty3 rfl rfl rfl)<|e_p (zJa (z:=((s.tb - (yC s r))*s.qa)) rfl rfl (w64 om))<|e_mv rfl<|e_p (zf yp rfl sz3 rfl rfl)<|e_ru (ze 0 ty3 rfl rfl rfl)<|e_p (zJa (z:=(((yC s r) - s.ta)*s.ra)) rfl rfl (w64 om))<|e_p (zH (z:=(((s.tb - (yC s r))*s.qa)+(((yC s r) - s.ta)*s.ra))) rfl rfl (w64 om))<|e_mv rfl<|e_p (zf yp rfl sz3 rfl rfl)<|e_ru (ze 1 ty3 rfl rfl rfl)<|e_p (zJa (z:=((s.tb - (yC s r))*s.qb)) rfl rfl (w64 om))<|e_mv rfl<|e_p (zf yp rfl sz3 rfl rfl)<|e_ru (ze 0 ty3 rfl rfl rfl)<|e_p (zJa (z:=(((yC s r) - s.ta)*s.rb)) rfl rfl (w64 om))<|e_p (zH (z:=(((s.tb - (yC s r))*s.qb)+(((yC s r) - s.ta)*s.rb))) rfl rfl (w64 om))<|e_mv rfl<|e_p (zf yp rfl sz3 rfl rfl)<|e_ru (ze 1 ty3 rfl rfl rfl)<|e_p (zJa (z:=((s.tb - (yC s r))*s.qc)) rfl rfl (w64 om))<|e_mv rfl<|e_p (zf yp rfl sz3 rfl rfl)<|e_ru (ze 0 ty3 rfl rfl rfl)<|e_p (zJa (z:=(((yC s r) - s.ta)*s.rc)) rfl rfl (w64 om))<|e_p (zH (z:=(((s.tb - (yC s r))*s.qc)+(((yC s r) - s.ta)*s.rc))) rfl rfl (w64 om))<|e_mv rfl<|e_p (zf yp rfl sz3 rfl rfl)<|e_ru (ze 1 ty3 rfl rfl rfl)<|e_p (zJa (z:=((s.tb - (yC s r))*s.qd)) rfl rfl (w64 om))<|e_mv rfl<|e_p (zf yp rfl sz3 rfl rfl)<|e_ru (ze 0 ty3 rfl rfl rfl)<|e_p (zJa (z:=(((yC s r) - s.ta)*s.rd)) rfl rfl (w64 om))<|e_p (zH (z:=(((s.tb - (yC s r))*s.qd)+(((yC s r) - s.ta)*s.rd))) rfl rfl (w64 om))<|e_p (zx zr25 rfl yp (.c sz3 (.c sz3 (.c sz3 (.c sz3 .n)))) (.c rfl (.c rfl (.c rfl (.c rfl .n)))) (.c rfl rfl rfl (.take .nil) (.c rfl rfl rfl (.skip (.take .nil)) (.c rfl rfl rfl (.s2 (.take .nil)) (.c rfl rfl rfl (.s2 (.skip (.take .nil))) .n)))))<|zE rfl rfl (zo zr25 rfl) (fun b4=> ?_)
  refine zl 0 rfl rfl rfl rfl rfl sz25 rfl (.t4 .nil) .z<|zk<|zg<|zj<|zj ?_
  have e5:((s.tb - (yC s r))*s.qa)+(((yC s r) - s.ta)*s.ra)=(yu s r).1:=by rfl
  rw [e5]
  have e6:((s.tb - (yC s r))*s.qb)+(((yC s r) - s.ta)*s.rb)=(yu s r).2.1:=by rfl
  rw [e6]
  have e7:((s.tb - (yC s r))*s.qc)+(((yC s r) - s.ta)*s.rc)=(yu s r).2.2.1:=by rfl
  rw [e7]
  have e8:((s.tb - (yC s r))*s.qd)+(((yC s r) - s.ta)*s.rd)=(yu s r).2.2.2:=by rfl
  rw [e8]
  refine zc<|e_p (zf yp rfl sz3 rfl rfl)<|e_ru (ze 0 ty3 rfl rfl rfl)<|e_p (zf yp rfl sz3 rfl rfl)<|e_ru (ze 0 ty3 rfl rfl rfl)<|e_p (zf yp rfl sz3 rfl rfl)<|e_ru (ze 0 ty3 rfl rfl rfl)<|e_p (zf yp rfl sz3 rfl rfl)<|e_ru (ze 0 ty3 rfl rfl rfl)<|zDa rfl rfl (zR (enc:=fun z:Int=>[yc yd z]) (ok:=InK .i64) (h1:=fun _=>rfl) (h2:=fun _=>rfl) (k:=4) yH inf3 rfl dd dd dd (.c (x:=((yu s r).1)) rfl rfl (fun _ _=>by exact zq.2 om) (.c (x:=((yu s r).2.1)) rfl rfl (fun _ _=>by exact zq.2 om) (.c (x:=((yu s r).2.2.1)) rfl rfl (fun _ _=>by exact zq.2 om) (.c (x:=((yu s r).2.2.2)) rfl rfl (fun _ _=>by exact zq.2 om) .n))))) (fun b9 _=> ?_)
  refine zia 0 rfl .z<|zU rfl rfl (.c rfl .n) ce69 (zgg (p:=some ⟨b9,0,none⟩) (n:=4) (cap:=4) (l:=[((yu s r).1),((yu s r).2.1),((yu s r).2.2.1),((yu s r).2.2.2)]) (hn:=by rfl) (hl:=by intro i hi;match i,hi with|0,_=>exact ⟨by show _≤(yu s r).1;omega,by show (yu s r).1≤_;omega⟩|1,_=>exact ⟨by show _≤(yu s r).2.1;omega,by show (yu s r).2.1≤_;omega⟩|2,_=>exact ⟨by show _≤(yu s r).2.2.1;omega,by show (yu s r).2.2.1≤_;omega⟩|3,_=>exact ⟨by show _≤(yu s r).2.2.2;omega,by show (yu s r).2.2.2≤_;omega⟩)) (.c (j:=0) rfl .n)<|e_p (zh rfl)<|zk<|zg<|zj ?_
  have e10:((((Sh.gl ([((yu s r).1),((yu s r).2.1),((yu s r).2.2.1),((yu s r).2.2.2)])):Nat):Int):Int)=(((Sh.g4 (yu s r)):Nat):Int):=by rfl
  rw [e10]
  refine zc<|e_mv rfl<|e_p (zbb rfl rfl)<|zk<|zg<|zT rfl (fun hg0=> ?_) (fun hg0=> ?_)
  ·
   have hg9:Sh.g4 (yu s r)≠0:=by omega
   have hd0:=Sh.tdiv_b (g:=Sh.g4 (yu s r)) hrw.1
   have hd1:=Sh.tdiv_b (g:=Sh.g4 (yu s r)) hrw.2.1
   have hd2:=Sh.tdiv_b (g:=Sh.g4 (yu s r)) hrw.2.2.1
   have hd3:=Sh.tdiv_b (g:=Sh.g4 (yu s r)) hrw.2.2.2
   refine zaa (.c (i:=1) rfl (.c (i:=0) rfl (.c (i:=0) rfl (.c (i:=0) rfl (.c (i:=0) rfl (.c (i:=0) rfl .n))))))<|zP (OW:=[boxA b4 25 [yc yd ((yu s r).1),yc yd ((yu s r).2.1),yc yd ((yu s r).2.2.1),yc yd ((yu s r).2.2.2)]]) (O:=[emA,boxA u7_1 25 [yc yd (s.ra),yc yd (s.rb),yc yd (s.rc),yc yd (s.rd)],boxA u6_1 25 [yc yd (s.qa),yc yd (s.qb),yc yd (s.qc),yc yd (s.qd)],boxA b2 25 [yc yd 0,yc yd 0,yc yd 0,yc yd 0],boxA b1 29 (cS s)]) 17 mixed (.then .ret) kr<|e_pv 0 rfl rfl (zf yp rfl sz3 rfl rfl)<|e_uw 1 rfl rfl (ze 0 ty3 rfl rfl rfl)<|e_dm 2 rfl rfl rfl<|e_pv 3 rfl rfl (zab (z:=((yu s r).1).tdiv (((Sh.g4 (yu s r)):Nat):Int)) rfl rfl om (w64 om))<|e_pv 4 rfl rfl (zf yp rfl sz3 rfl rfl)<|e_uw 5 rfl rfl (ze 0 ty3 rfl rfl rfl)<|e_dm 6 rfl rfl rfl<|e_pv 7 rfl rfl (zab (z:=((yu s r).2.1).tdiv (((Sh.g4 (yu s r)):Nat):Int)) rfl rfl om (w64 om))<|e_pv 8 rfl rfl (zf yp rfl sz3 rfl rfl)<|e_uw 9 rfl rfl (ze 0 ty3 rfl rfl rfl)<|e_dm 10 rfl rfl rfl<|e_pv 11 rfl rfl (zab (z:=((yu s r).2.2.1).tdiv (((Sh.g4 (yu s r)):Nat):Int)) rfl rfl om (w64 om))<|e_pv 12 rfl rfl (zf yp rfl sz3 rfl rfl)<|e_uw 13 rfl rfl (ze 0 ty3 rfl rfl rfl)<|e_dm 14 rfl rfl rfl<|e_pv 15 rfl rfl (zab (z:=((yu s r).2.2.2).tdiv (((Sh.g4 (yu s r)):Nat):Int)) rfl rfl om (w64 om))<|e_pv 16 rfl rfl (zx zr25 rfl yp (.c sz3 (.c sz3 (.c sz3 (.c sz3 .n)))) (.c rfl (.c rfl (.c rfl (.c rfl .n)))) (.c rfl rfl rfl (.take .nil) (.c rfl rfl rfl (.skip (.take .nil)) (.c rfl rfl rfl (.s2 (.take .nil)) (.c rfl rfl rfl (.s2 (.skip (.take .nil))) .n)))))<|e_one 17 (zp kr rfl rfl rfl rfl rfl sz25 rfl (.t4 .nil) ?_)
   refine zN kr<|zg<|zj<|zc<|e_ru (zd 0 ty25 rfl rfl (.t4 .nil))<|zl 4 rfl rfl rfl rfl rfl sz25 rfl (.t4 .nil) (.s (.s (.s (.s .z))))<|zk<|zg<|zS ?_
   exact zM Tryz.results33 () trivial (zr 4 ty25 rfl rfl (.t4 .nil)) rfl (ho:=(.n:PickO _ _ _)) (.n:SelR _ _ _)
  ·
   refine zw<|zg<|zj<|zc<|e_ru (zd 1 ty25 rfl rfl (.t4 .nil))<|zl 4 rfl rfl rfl rfl rfl sz25 rfl (.t4 .nil) (.s (.s (.s (.s .z))))<|zk<|zg<|zS ?_
   exact zM Tryz.results33 () trivial (zr 4 ty25 rfl rfl (.t4 .nil)) (by rw [show Sh.rot s r=yu s r from Sh.red_raw om]) (ho:=(.n:PickO _ _ _)) (.n:SelR _ _ _)
 refine zga (X:=Nat×Nat) (k':=1) (L':=(lb 10 511)) (fun (u6_1,u7_1)=>([(9,ye (some ⟨u7_1,0,none⟩)),(8,ye (some ⟨u6_1,0,none⟩)),(34,.agg #[yc yd (s.ra),yc yd (s.rb),yc yd (s.rc),yc yd (s.rd)]),(7,yc yd ((yC s r) - s.ta)),(6,yc yd (s.tb - (yC s r))),(4,ye (some ⟨b2,0,none⟩))],[boxA u6_1 25 [yc yd (s.qa),yc yd (s.qb),yc yd (s.qc),yc yd (s.qd)],boxA u7_1 25 [yc yd 0,yc yd 0,yc yd 0,yc yd 0]],[boxA b2 25 [yc yd 0,yc yd 0,yc yd 0,yc yd 0],boxA b1 29 (cS s)],[])) ?_ (fun hD1=> ?_)
 ·
  rintro ⟨u6_1,u7_1⟩
  dsimp only [cw,cS]
  refine zFa 9 kr ?_
  ·
   refine zHc (zoa (i:=1) rfl)<|zp kr rfl rfl rfl rfl rfl sz25 rfl (.t4 .nil) ?_
   exact zJ (hD0 (u6_1,u7_1)) kr ((.of rfl):SubM _ _) .rfl .rfl (.n:SelR _ _ _)
 refine zga (X:=Nat×Nat) (k':=2) (L':=(lb 10 255)) (fun (u6_1,u7_1)=>([(9,ye (some ⟨u7_1,0,none⟩)),(8,ye (some ⟨u6_1,0,none⟩)),(34,.agg #[yc yd (s.ra),yc yd (s.rb),yc yd (s.rc),yc yd (s.rd)]),(31,.agg #[yc yd (s.qa),yc yd (s.qb),yc yd (s.qc),yc yd (s.qd)]),(7,yc yd ((yC s r) - s.ta)),(6,yc yd (s.tb - (yC s r))),(4,ye (some ⟨b2,0,none⟩))],[boxA u7_1 25 [yc yd 0,yc yd 0,yc yd 0,yc yd 0],boxA u6_1 25 [yc yd 0,yc yd 0,yc yd 0,yc yd 0]],[boxA b2 25 [yc yd 0,yc yd 0,yc yd 0,yc yd 0],boxA b1 29 (cS s)],[])) ?_ (fun hD2=> ?_)
 ·
  rintro ⟨u6_1,u7_1⟩
  dsimp only [cw,cS]
  refine zFa 8 kr ?_
  ·
   refine zHc (zoa (i:=1) rfl)<|zp kr rfl rfl rfl rfl rfl sz25 rfl (.t4 .nil) ?_
   exact zJ (hD1 (u6_1,u7_1)) kr ((.of rfl):SubM _ _) .rfl .rfl (.n:SelR _ _ _)
 refine zga (X:=Nat) (k':=3) (L':=(lb 10 127)) (fun u6_1=>([(8,ye (some ⟨u6_1,0,none⟩)),(34,.agg #[yc yd (s.ra),yc yd (s.rb),yc yd (s.rc),yc yd (s.rd)]),(31,.agg #[yc yd (s.qa),yc yd (s.qb),yc yd (s.qc),yc yd (s.qd)]),(7,yc yd ((yC s r) - s.ta)),(6,yc yd (s.tb - (yC s r))),(4,ye (some ⟨b2,0,none⟩))],[boxA u6_1 25 [yc yd 0,yc yd 0,yc yd 0,yc yd 0]],[boxA b2 25 [yc yd 0,yc yd 0,yc yd 0,yc yd 0],boxA b1 29 (cS s)],[])) ?_ (fun hD3=> ?_)
 ·
  rintro u6_1
  dsimp only [cw,cS]
  refine zFa 7 kr ?_
  ·
   refine zua rfl rfl rfl rfl (zo zr25 rfl) (fun u7_1 _=> ?_)
   exact zJ (hD2 (u6_1,u7_1)) kr ((.of rfl):SubM _ _) .rfl .rfl (.n:SelR _ _ _)
 refine zga (X:=Nat) (k':=3) (L':=(lb 10 191)) (fun u7_1=>([(9,ye (some ⟨u7_1,0,none⟩)),(34,.agg #[yc yd (s.ra),yc yd (s.rb),yc yd (s.rc),yc yd (s.rd)]),(31,.agg #[yc yd (s.qa),yc yd (s.qb),yc yd (s.qc),yc yd (s.qd)]),(7,yc yd ((yC s r) - s.ta)),(6,yc yd (s.tb - (yC s r))),(4,ye (some ⟨b2,0,none⟩))],[boxA u7_1 25 [yc yd 0,yc yd 0,yc yd 0,yc yd 0]],[boxA b2 25 [yc yd 0,yc yd 0,yc yd 0,yc yd 0],boxA b1 29 (cS s)],[])) ?_ (fun hD4=> ?_)
 ·
  rintro u7_1
  dsimp only [cw,cS]
  refine zFa 6 kr ?_
  ·
   refine zua rfl rfl rfl rfl (zo zr25 rfl) (fun u6_1 _=> ?_)
   exact zJ (hD2 (u6_1,u7_1)) kr ((.of rfl):SubM _ _) (zjc 1 rfl (zjc 0 rfl .nil)) .rfl (.n:SelR _ _ _)
 refine zib 6 7 kr ?_ ?_
 ·
  refine zua rfl rfl rfl rfl (zo zr25 rfl) (fun u6_1 _=> ?_)
  exact zJ (hD3 u6_1) kr ((.of rfl):SubM _ _) .rfl .rfl (.n:SelR _ _ _)
 ·
  refine zua rfl rfl rfl rfl (zo zr25 rfl) (fun u7_1 _=> ?_)
  exact zJ (hD4 u7_1) kr ((.of rfl):SubM _ _) .rfl .rfl (.n:SelR _ _ _)
end Go.Proofs.YtjeahiahjgifgaaGreatDoor.Sp
