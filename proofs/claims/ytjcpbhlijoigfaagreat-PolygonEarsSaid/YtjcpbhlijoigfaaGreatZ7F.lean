/- Lemmas on the walk and plain lemmas that the claim of this folder uses; each states its own conditions. Lines were printed by a program of ours. -/
import Derived.Test.YtjcpbhlijoigfaaGreatZ7E
set_option linter.unusedVariables false
set_option linter.unusedSimpArgs false
set_option linter.unusedSectionVars false
open Go.Value renaming int → ya, pointer → yc
open Go.IntKind renaming i64 → yb
open Go.Proofs.YtjcpbhlijoigfaaGreat.Big renaming digs → yd, raw → ye, valL → yi, ln → ym, digs_ok → yo, okL_getD → yq, zU → yr, raw_big → yy, okL → yz, sg → yA, ln_mono' → yB, fq → yC, valL_digs → yD, valL_nonneg → yG, zVa → yI, hq_num → yJ, hq_den → yK, trimL → yM, len_digs_nil → yN, nn → yP, pw → yQ, hq → yR, cmp_ge → yS, zNa → yT, sg_abs → yU, fr → yV
open Go.Proofs.Tryz renaming underlying39 → yf, underlying41 → yg, prog → yh, underlying120 → yj, underlying121 → yk, underlying43 → yl, underlying50 → yn, underlying30 → yp, underlying54 → yt, underlying22 → yu, underlying103 → yv, underlying102 → yw, results31 → yx, underlying34 → yE, underlying3 → yF, results129 → yH, underlying69 → yL, underlying4 → yO
namespace Go.Proofs.YtjcpbhlijoigfaaGreat.Sp
open Go
set_option linter.unusedVariables false
set_option maxRecDepth 100000
set_option maxHeartbeats 8000000
theorem zPa {s:Bool} {p:Option Addr} {n:Nat} {cap:Nat} {l:List Int} (hn:l.length=n) (ho:yz l) (hln:n≤4398046511104):Con yh 112 [.bool s,.slice p n cap] [] [slF (rI .u32) p cap l] (Y:=(Option Addr)×Nat) (fun y=>True) (fun y=> .agg #[.bool (decide ((yA s (yi l))<0)),.slice (y.1) ((yd ((yA s (yi l)).natAbs)).length) (y.2)]) (fun y=>[]) (fun y=>[slF (rI .u32) (y.1) (y.2) (yd ((yA s (yi l)).natAbs))]):=by
 refine zn Tryz.func112 rfl rfl rfl (fun c=> ?_)
 show RunC _ _ _ _ _ [(0,.bool s),(1,.slice p n cap)] [] [slF (rI .u32) p cap l]
 refine zia 0 rfl (fun hL0=> ?_)
 refine zg<|za<|zO rfl rfl (zp zr41 rfl) (fun b1=> ?_)
 refine zh<|zd<|zg<|za<|e_mv rfl<|e_p (zQ yf rfl)<|e_p (zb rfl)<|zh<|zd<|zg<|zv<|zqa (X:=Nat) (fun x:Nat=>x≤n∧yM (l.take x)=yM l) (fun x=>[(5,ya yb ((x:Nat):Int)),(4,yc (some ⟨b1,0,none⟩)),(0,.bool s),(1,.slice p n cap)]) (fun x=>[boxA b1 41 [wz.b,wz.l]]) (fun x=>[slF (rI .u32) p cap l]) (fun x:Nat=>x) n (show n≤n∧yM (l.take n)=yM l from by exact ⟨by omega,by rw [List.take_of_length_le om]⟩) ((.of rfl):SubM _ _) (ho:=((.c (i:=0) rfl .n):PickO _ _ _)) ((.c (j:=0) rfl .n):SelR _ _ _) ?_
 rintro k hI
 replace hI:k≤n∧yM (l.take k)=yM l:=hI
 try dsimp only
 obtain ⟨hk,hT⟩:=hI
 refine zg<|zFa (X:=Unit) (fun x=>True) (fun x=>[(17,.bool (decide (0<k∧l.getD (k - 1) 0=0))),(5,ya yb ((k:Nat):Int)),(4,yc (some ⟨b1,0,none⟩)),(0,.bool s),(1,.slice p n cap)]) (fun x=>[boxA b1 41 [wz.b,wz.l]]) (fun x=>[slF (rI .u32) p cap l]) ?_ ?_
 ·
  refine za<|e_mv rfl<|e_p (zBa rfl rfl)<|zW rfl rfl (zV rfl) (fun h2=> ?_) (fun h2=> ?_)
  ·
   refine e_mv rfl<|e_mv rfl<|e_p (zoa (z:=(((k:Nat):Int) - 1)) rfl rfl (w64 om))<|zY (x0:=(l.getD ((((k:Nat):Int) - 1).toNat) 0)) 0 ((((k:Nat):Int) - 1).toNat) rfl yf sz121 rfl rfl rfl cbs rfl om (gD (d:=0) om) (fun b3 o4 hok5=> ?_)
   replace hok5:=zH.1 hok5
   refine e_ru (zB (j:=0) 0 ty121 rfl rfl rfl rfl)<|e_p (zCa rfl rfl)<|e_p (zl rfl rfl)<|zh ?_
   exact zea () (show True from by first|trivial|omega|simp_all) ((.e rfl (congrArg Value.bool (by have h1:0<k:=om;have h2:((k:Int) - 1).toNat=k - 1:=om;simp [h1,h2])) (.of rfl)):SubM _ _) (ho:=((.c (i:=0) rfl .n):PickO _ _ _)) ((.c (j:=1) rfl .n):SelR _ _ _)
  ·
   refine e_no<|e_no<|e_no<|e_no<|e_no<|e_no<|e_p (zl rfl rfl)<|zh ?_
   exact zea () (show True from by first|trivial|omega|simp_all) ((.e rfl (congrArg Value.bool (by have h1:¬0<k:=om;simp [h1])) (.of rfl)):SubM _ _) (ho:=((.c (i:=0) rfl .n):PickO _ _ _)) ((.c (j:=0) rfl .n):SelR _ _ _)
 ·
  rintro ⟨⟩ -
  try dsimp only
  refine zG rfl (fun hc=> ?_) (fun hc=> ?_)
  ·
   refine zt<|zd<|zv<|za<|e_mv rfl<|e_p (zoa (z:=(((k - 1):Nat):Int)) rfl rfl (w64 om))<|e_p (zb rfl)<|zh<|zP<|zha (k - 1) (show (k - 1)≤n∧yM (l.take (k - 1))=yM l from by exact ⟨by omega,by rw [← hT,Big.trim_go l hc.1 om hc.2]⟩) (by show k - 1<k;omega) ((.e rfl (by first|rfl|(congr 1;omega)|simp_all) (.of rfl)):SubM _ _) (ho:=((.c (i:=0) rfl .n):PickO _ _ _)) ((.c (j:=0) rfl .n):SelR _ _ _)
  ·
   have htr:l.take k=yd (yA s (yi l)).natAbs:=by rw [yU (yG ho),←Big.digs_valL ho,←hT];exact (Big.trim_stop l om hc).symm
   have hlt:(l.take k).length=k:=by rw [List.length_take];omega
   have hsg:=Big.made_sign (s:=s) ho htr hlt
   refine zla<|zj<|zj<|zr<|zd<|zg<|za<|e_mv rfl<|zre rfl rfl (zV rfl) (fun hs=> ?_) (fun hs=> ?_)
   ·
    refine e_mv rfl<|e_p (zBa rfl rfl)<|e_p (zl rfl rfl)<|zIa rfl rfl (zta (rI .u32) yf inf121) (fun b6 _=> ?_)
    refine e_mv rfl<|e_mv rfl<|e_p (zyb (hi:=k) yf sz121 rfl (.s rfl) (.inr ⟨_,rfl⟩) om)<|zyc (zfc 0 rfl k om) (fun _ _=> ?_)
    refine zLa 0 rfl rfl rfl (zra 0 rfl yf inf121 dd rfl rfl cbs rfl cbs om om) (fun _=> .z) ?_
    rintro ⟨p7,c8⟩ -
    dsimp only [aq,nq,cq]
    refine e_p (zM zr41 rfl yg (.c sz4 (.c sz39 .n)) (.c rfl (.c rfl .n)) (.c rfl rfl rfl (.take .nil) (.c rfl rfl rfl (.skip (.take .nil)) .n)))<|zo 1 rfl rfl rfl rfl rfl sz41 rfl (.t2 .nil) (.s .z)<|zh<|zd<|zK ?_
    subst hs
    refine zUb 0 rfl .z ?_
    exact zx Tryz.results112 (p7,c8) trivial (zD 1 ty41 rfl rfl (.t2 .nil)) (by rw [hsg,←htr,hlt,Nat.zero_add] <;> simp) (ho:=(.n:PickO _ _ _)) ((.e (j:=0) rfl (by rw [htr] <;> rfl) .n):SelR _ _ _)
   ·
    refine e_no<|e_no<|e_p (zl rfl rfl)<|zIa rfl rfl (zta (rI .u32) yf inf121) (fun b9 _=> ?_)
    refine e_mv rfl<|e_mv rfl<|e_p (zyb (hi:=k) yf sz121 rfl (.s rfl) (.inr ⟨_,rfl⟩) om)<|zyc (zfc 0 rfl k om) (fun _ _=> ?_)
    refine zLa 0 rfl rfl rfl (zra 0 rfl yf inf121 dd rfl rfl cbs rfl cbs om om) (fun _=> .z) ?_
    rintro ⟨p10,c11⟩ -
    dsimp only [aq,nq,cq]
    refine e_p (zM zr41 rfl yg (.c sz4 (.c sz39 .n)) (.c rfl (.c rfl .n)) (.c rfl rfl rfl (.take .nil) (.c rfl rfl rfl (.skip (.take .nil)) .n)))<|zo 1 rfl rfl rfl rfl rfl sz41 rfl (.t2 .nil) (.s .z)<|zh<|zd<|zK ?_
    subst hs
    refine zUb 0 rfl .z ?_
    exact zx Tryz.results112 (p10,c11) trivial (zD 1 ty41 rfl rfl (.t2 .nil)) (by rw [hsg,←htr,hlt,Nat.zero_add] <;> simp) (ho:=(.n:PickO _ _ _)) ((.e (j:=0) rfl (by rw [htr] <;> rfl) .n):SelR _ _ _)
theorem zsb {s:Bool} {a:Nat} {p:Option Addr} {cap:Nat} (hln:(yd (a)).length≤4398046511104):Con yh 112 [.bool (s),.slice (p) ((yd (a)).length) (cap)] [] [slF (rI .u32) (p) (cap) (yd (a))] (Y:=(Option Addr)×(Nat)) (fun y=>True) (fun y=> .agg #[.bool (decide ((yA s (a:Int))<0)),.slice (y.1) ((yd ((yA s (a:Int)).natAbs)).length) (y.2)]) (fun y=>[]) (fun y=>[slF (rI .u32) (y.1) (y.2) (yd ((yA s (a:Int)).natAbs))]):=by
  have h:= @zPa s p (yd a).length cap (yd a) rfl (yo a) hln
  rw [yD] at h
  exact h
theorem zdb {p:Option Addr} {n:Nat} {cap:Nat} {l:List Int} {i:Nat} (hn:l.length=n) (hi:i≤4611686018427387904):Con yh 143 [.slice p n cap,ya yb ((i:Nat):Int)] [] [slF (rI .u32) p cap l] (Y:=Unit) (fun y=>True) (fun y=> .int .u64 (l.getD i 0)) (fun y=>[]) (fun y=>[]):=by
 refine zn Tryz.func143 rfl rfl rfl (fun c=> ?_)
 show RunC _ _ _ _ _ [(0,.slice p n cap),(1,ya yb ((i:Nat):Int))] [] [slF (rI .u32) p cap l]
 refine zia 0 rfl (fun hL0=> ?_)
 refine zg<|za<|e_p (zb rfl)<|zh<|zd<|zg<|zg<|za<|e_mv rfl<|e_mv rfl<|e_p (zQ yf rfl)<|e_p (zaa rfl rfl)<|zh<|zd<|zG rfl (fun h1=> ?_) (fun h1=> ?_)
 ·
  refine zg<|za<|e_mv rfl<|e_mv rfl<|zY (x0:=(l.getD i 0)) 0 i rfl yf sz121 rfl rfl rfl cbs rfl rfl (gD (d:=0) om) (fun b2 o3 hok4=> ?_)
  replace hok4:=zH.1 hok4
  refine e_ru (zB (j:=0) 0 ty121 rfl rfl rfl rfl)<|e_p (zL (z:=(l.getD i 0)) rfl (by rw [yk];rfl) yj (wu64 om))<|e_p (zb rfl)<|zh<|zd<|zK<|zi ?_
  exact zx Tryz.results143 () trivial (zk rfl) rfl (ho:=(.n:PickO _ _ _)) (.n:SelR _ _ _)
 ·
  refine zt<|zd<|zg<|za<|e_p (zb rfl)<|zh<|zd<|zK ?_
  exact zx Tryz.results143 () trivial (zk rfl) (by rw [show l.getD i 0=0 by simp [List.getD,List.getElem?_eq_none (show l.length≤i by omega)]]) (ho:=(.n:PickO _ _ _)) (.n:SelR _ _ _)
theorem zwc {s:Bool} {p:Option Addr} {n:Nat} {cap:Nat} {l:List Int} (hn:l.length=n):Con yh 122 [.agg #[.bool s,.slice p n cap]] [] [slF (rI .u32) p cap l] (Y:=Unit) (fun y=>True) (fun y=> .bool (decide (Big.canon s l))) (fun y=>[]) (fun y=>[]):=by
 refine zn Tryz.func122 rfl rfl rfl (fun c=> ?_)
 show RunC _ _ _ _ _ [(0,.agg #[.bool s,.slice p n cap])] [] [slF (rI .u32) p cap l]
 refine zia 0 rfl (fun hL0=> ?_)
 refine zg<|za<|zO rfl rfl (zS rfl rfl) (fun b1=> ?_)
 refine e_p (zb rfl)<|zh<|zd<|zg<|za<|e_p (zf yg rfl sz39 rfl rfl)<|e_ru (ze 0 ty39 rfl rfl rfl)<|e_p (zQ yf rfl)<|e_p (zb rfl)<|zh<|zd<|zg<|zg<|za<|e_p (zb rfl)<|zh<|zd<|zv<|zqa (X:=Nat) (fun x:Nat=>x≤n∧∀j,j<x→l.getD j 0<1000000000) (fun x=>[(4,ya yb ((x:Nat):Int)),(3,ya yb ((n:Nat):Int)),(1,yc (some ⟨b1,0,none⟩))]) (fun x=>[boxA b1 41 [.bool s,.slice p n cap]]) (fun x=>[slF (rI .u32) p cap l]) (fun x:Nat=>n - x) 0 (show 0≤n∧∀j,j<0→l.getD j 0<1000000000 from by exact ⟨by omega,fun j h=>by omega⟩) ((.e rfl (by first|rfl|(congr 1;omega)|simp_all) (.c rfl (.c rfl .n))):SubM _ _) (ho:=((.c (i:=0) rfl .n):PickO _ _ _)) ((.c (j:=0) rfl .n):SelR _ _ _) ?_
 rintro i hI
 replace hI:i≤n∧∀j,j<i→l.getD j 0<1000000000:=hI
 try dsimp only
 obtain ⟨hi,hall⟩:=hI
 refine zg<|zg<|za<|e_mv rfl<|e_mv rfl<|e_p (zaa rfl rfl)<|zh<|zd<|zG rfl (fun h2=> ?_) (fun h2=> ?_)
 ·
  refine zt<|zd<|zg<|zv<|zg<|za<|e_p (zf yg rfl sz39 rfl rfl)<|e_ru (ze 0 ty39 rfl rfl rfl)<|e_mv rfl<|zY (x0:=(l.getD i 0)) 0 i rfl yf sz121 rfl rfl rfl cbs rfl rfl (gD (d:=0) om) (fun b3 o4 hok5=> ?_)
  replace hok5:=zH.1 hok5
  refine e_ru (zB (j:=0) 0 ty121 rfl rfl rfl rfl)<|e_p (zGa rfl rfl)<|zh<|zd<|zG rfl (fun hb=> ?_) (fun hb=> ?_)
  ·
   refine zg<|za<|e_p (zb rfl)<|zh<|zd<|zK<|zm<|zi<|zi<|zm<|zi ?_
   exact zx Tryz.results122 () trivial (zk rfl) (congrArg Value.bool (decide_eq_false (fun h=>((Big.canon_more om).1 h).2 ⟨_,Big.getD_mem om,hb⟩))) (ho:=(.n:PickO _ _ _)) (.n:SelR _ _ _)
  ·
   refine zt<|zP<|zd<|za<|e_mv rfl<|e_p (zI (z:=(((i+1):Nat):Int)) rfl rfl (w64 om))<|e_p (zb rfl)<|zh<|zha (i+1) (show (i+1)≤n∧∀j,j<(i+1)→l.getD j 0<1000000000 from by refine ⟨by omega,fun j hj=> ?_⟩;by_cases e:j=i;subst e;omega;exact hall j om) (by show n - (i+1)<n - i;omega) ((.of rfl):SubM _ _) (ho:=((.c (i:=0) rfl .n):PickO _ _ _)) ((.c (j:=1) rfl .n):SelR _ _ _)
 ·
  refine zla<|zj<|zj<|zr<|zd<|zg<|zg<|za<|e_mv rfl<|e_p (zCa rfl rfl)<|zh<|zd<|zG rfl (fun h0=> ?_) (fun h0=> ?_)
  ·
   refine zg<|za<|e_p (zf yg rfl sz4 rfl rfl)<|e_ru (ze 0 ty4 rfl rfl rfl)<|e_p (zJb rfl)<|e_p (zb rfl)<|zh<|zd<|zK<|zi ?_
   exact zx Tryz.results122 () trivial (zk rfl) (congrArg Value.bool (by have:l.length=0:=om;cases s <;> simp [Big.canon,this])) (ho:=(.n:PickO _ _ _)) (.n:SelR _ _ _)
  ·
   refine zt<|zd<|zg<|za<|e_p (zf yg rfl sz39 rfl rfl)<|e_ru (ze 0 ty39 rfl rfl rfl)<|e_mv rfl<|e_p (zoa (z:=(((n:Nat):Int) - 1)) rfl rfl (w64 om))<|zY (x0:=(l.getD ((((n:Nat):Int) - 1).toNat) 0)) 0 ((((n:Nat):Int) - 1).toNat) rfl yf sz121 rfl rfl rfl cbs rfl om (gD (d:=0) om) (fun b6 o7 hok8=> ?_)
   replace hok8:=zH.1 hok8
   refine e_ru (zB (j:=0) 0 ty121 rfl rfl rfl rfl)<|e_p (zQa rfl rfl)<|e_p (zb rfl)<|zh<|zd<|zK ?_
   exact zx Tryz.results122 () trivial (zk rfl) (congrArg Value.bool (decide_eq_decide.2 (by rw [Big.canon_more om,hn];have e:((n:Int) - 1).toNat=n - 1:=om;rw [e];exact ⟨fun h=>h.1,fun h=>⟨h,fun ⟨g,hg,hb⟩=>by obtain ⟨j,hj,e⟩:=Big.mem_getD hg;have:=hall j om;omega⟩⟩))) (ho:=(.n:PickO _ _ _)) (.n:SelR _ _ _)
theorem zTa {s:Bool} {p:Option Addr} {n:Nat} {cap:Nat} {l:List Int} (hn:l.length=n) (hln:n≤1099511627776):Con yh 111 [.agg #[.bool s,.slice p n cap]] [] [slF (rI .u32) p cap l] (Y:=(Option Addr)×Nat) (fun y=>True) (fun y=> .agg #[.bool (decide ((ye s l)<0)),.slice (y.1) ((yd ((ye s l).natAbs)).length) (y.2)]) (fun y=>[]) (fun y=>[slF (rI .u32) (y.1) (y.2) (yd ((ye s l).natAbs))]):=by
 refine zn Tryz.func111 rfl rfl rfl (fun c=> ?_)
 show RunC _ _ _ _ _ [(0,.agg #[.bool s,.slice p n cap])] [] [slF (rI .u32) p cap l]
 refine zia 0 rfl (fun hL0=> ?_)
 refine zUa 0 rfl (fun hE0=> ?_)
 have hnn:yP l:=fun g hg=>(zH.1 (hE0 g hg)).1
 refine zg<|za<|zO rfl rfl (zS rfl rfl) (fun b1=> ?_)
 refine zO rfl rfl (zp zr41 rfl) (fun b2=> ?_)
 refine zh<|zd<|zg<|zg<|za<|e_ru (zc 1 ty41 rfl rfl (.t2 .nil))<|zN rfl rfl (.c rfl .n) ce122 (zwc (s:=s) (p:=p) (n:=n) (cap:=cap) (l:=l) (hn:=ass)) (.c (j:=0) rfl .n)<|e_p (ztb rfl)<|zh<|zd<|zG rfl (fun hc=> ?_) (fun hc=> ?_)
 ·
  refine zg<|za<|e_p (zM zr41 rfl yg (.c sz4 (.c sz39 .n)) .n .n)<|zo 0 rfl rfl rfl rfl rfl sz41 rfl (.t2 .nil) .z<|zh<|zd<|zK<|zi ?_
  have hz:ye s l=0:=by unfold ye;rw [if_neg hc]
  refine zzd (rI .u32) ?_
  exact zx Tryz.results111 (none,0) trivial (zD 0 ty41 rfl rfl (.t2 .nil)) (by rw [hz];rfl) (ho:=(.n:PickO _ _ _)) ((.e (j:=0) rfl (by rw [hz];rfl) .n):SelR _ _ _)
 ·
  refine zt<|zd<|zg<|zba (OW:=[boxA b2 41 [wz.b,wz.l]]) (O:=[boxA b1 41 [.bool s,.slice p n cap]]) 5 mixed (.then .ret) kr<|e_pv 0 rfl rfl (zf yg rfl sz4 rfl rfl)<|e_u 1 rfl rfl (ze 0 ty4 rfl rfl rfl)<|e_pv 3 rfl rfl (zf yg rfl sz39 rfl rfl)<|e_uw 4 rfl rfl (ze 1 ty39 rfl rfl rfl)<|e_one 2 (zua rfl rfl rfl rfl (zta (rI .u32) yf inf121) (fun b3 _=> ?_))
  refine e_one 5 (znd (A':=fun v:Option Addr×Nat=>rowA 121 (rI .u32) v.1 v.2 (([])++l)) kr rfl rfl rfl (zra 0 rfl yf inf121 dd rfl rfl cbs rfl cbs om om) ?_)
  rintro ⟨p4,c5⟩ -
  dsimp only [aq,nq,cq]
  refine e_pv 6 rfl rfl (zM zr41 rfl yg (.c sz4 (.c sz39 .n)) (.c rfl (.c rfl .n)) (.c rfl rfl rfl (.take .nil) (.c rfl rfl rfl (.skip (.take .nil)) .n)))<|zbb (zga (i:=1) rfl)<|e_one 7 (zy kr rfl rfl rfl rfl rfl sz41 rfl (.t2 .nil) ?_)
  refine zX kr<|zd<|zK ?_
  have hcc:Big.canon s l:=Decidable.not_not.1 hc
  have hd:yd (ye s l).natAbs=l:=by rw [Big.raw_digs hnn,if_pos hcc]
  have hs:=Big.raw_sign hnn hcc
  refine zUb 1 rfl (.s .z) ?_
  exact zx Tryz.results111 (p4,c5) trivial (zD 0 ty41 rfl rfl (.t2 .nil)) (by rw [hs,hd,hn,Nat.zero_add]) (ho:=(.n:PickO _ _ _)) ((.e (j:=0) rfl (by rw [hd] <;> rfl) .n):SelR _ _ _)
theorem zVc {z:Int} {p:Option Addr} {cap:Nat} (hln:ym z≤1099511627776):Con yh 111 [.agg #[.bool (decide ((z)<0)),.slice (p) ((yd ((z).natAbs)).length) (cap)]] [] [slF (rI .u32) (p) (cap) (yd ((z).natAbs))] (Y:=(Option Addr)×(Nat)) (fun y=>True) (fun y=> .agg #[.bool (decide ((z)<0)),.slice (y.1) ((yd ((z).natAbs)).length) (y.2)]) (fun y=>[]) (fun y=>[slF (rI .u32) (y.1) (y.2) (yd ((z).natAbs))]):=by
  have h:= @zTa (decide ((z)<0)) p (yd (z).natAbs).length cap (yd (z).natAbs) rfl hln
  rw [yy] at h
  exact h
theorem zDf {z:Int} (hz: -9223372036854775808≤z∧z≤9223372036854775807):Con yh 113 [ya yb z] [] [] (Y:=(Option Addr)×Nat) (fun y=>True) (fun y=> .agg #[.bool (decide (z<0)),.slice (y.1) ((yd ((z).natAbs)).length) (y.2)]) (fun y=>[]) (fun y=>[slF (rI .u32) (y.1) (y.2) (yd ((z).natAbs))]):=by
 refine zn Tryz.func113 rfl rfl rfl (fun c=> ?_)
 show RunC _ _ _ _ _ [(0,ya yb z)] [] []
 refine zg<|za<|zO rfl rfl (zp zr41 rfl) (fun b1=> ?_)
 refine zh<|zd<|zg<|za<|e_mv rfl<|e_p (zL (z:=(z%18446744073709551616)) rfl (by rw [yF];rfl) yj (wu64m om))<|e_p (zb rfl)<|zh<|zd<|zFa (X:=Unit) (fun x=>True) (fun x=>[(3,.int .u64 ((z.natAbs:Nat):Int)),(2,yc (some ⟨b1,0,none⟩)),(0,ya yb z)]) (fun x=>[boxA b1 41 [wz.b,wz.l]]) (fun x=>[]) ?_ ?_
 ·
  refine zg<|za<|e_mv rfl<|e_p (zaa rfl rfl)<|zh<|zd<|zG rfl (fun hs=> ?_) (fun hs=> ?_)
  ·
   refine za<|e_mv rfl<|e_p (zI (z:=(z+1)) rfl rfl (w64 om))<|e_p (zwd (z:=(-(z+1))) rfl (w64 om))<|e_p (zL (z:=(-(z+1))) rfl (by rw [yF];rfl) yj (wu64 om))<|e_p (zI (z:=((z.natAbs:Nat):Int)) rfl rfl (wu64 om))<|e_p (zb rfl)<|zh ?_
   exact zea () (show True from by first|trivial|omega|simp_all) ((.of rfl):SubM _ _) (ho:=((.c (i:=0) rfl .n):PickO _ _ _)) (.n:SelR _ _ _)
  ·
   have e2:((z%18446744073709551616):Int)=((z.natAbs:Nat):Int):=by omega
   rw [e2]
   refine zt ?_
   exact zea () (show True from by first|trivial|omega|simp_all) ((.of rfl):SubM _ _) (ho:=((.c (i:=0) rfl .n):PickO _ _ _)) (.n:SelR _ _ _)
 ·
  rintro ⟨⟩ -
  try dsimp only
  refine zg<|za<|zIa rfl rfl (zta (rI .u32) yf inf121) (fun b3 _=> ?_)
  refine e_p (zb rfl)<|zh<|zd<|zg<|zv<|zqa (X:=Nat×(Option Addr)×Nat×(List Int)) (fun x:Nat×(Option Addr)×Nat×(List Int)=>x.1≤z.natAbs∧x.2.2.2++yd x.1=yd z.natAbs) (fun x=>[(4,.slice (x.2.1) (x.2.2.2.length) (x.2.2.1)),(3,.int .u64 ((x.1:Nat):Int)),(2,yc (some ⟨b1,0,none⟩)),(0,ya yb z)]) (fun x=>[rowA 121 (rI .u32) (x.2.1) (x.2.2.1) (x.2.2.2),boxA b1 41 [wz.b,wz.l]]) (fun x=>[]) (fun x:Nat×(Option Addr)×Nat×(List Int)=>x.1) (z.natAbs,some ⟨b3,0,none⟩,0,[]) (show z.natAbs≤z.natAbs∧([])++yd z.natAbs=yd z.natAbs from by exact ⟨Nat.le_refl _,rfl⟩) ((.e rfl (by first|rfl|(congr 1;omega)|simp_all) (.of rfl)):SubM _ _) (ho:=((.of [0,0] rfl):PickO _ _ _)) (.n:SelR _ _ _) ?_
  rintro ⟨m,p,c,os⟩ hI
  replace hI:m≤z.natAbs∧os++yd m=yd z.natAbs:=hI
  try dsimp only
  obtain ⟨hnn,hos⟩:=hI
  have hlen0:os.length+(yd m).length≤3:=by have:=congrArg List.length hos;rw [List.length_append] at this;have:=Big.zlf (show z.natAbs<18446744073709551616 by omega);omega
  refine zg<|zg<|za<|e_mv rfl<|e_p (zBa rfl rfl)<|zh<|zd<|zG rfl (fun h4=> ?_) (fun h4=> ?_)
  ·
   refine zt<|zd<|zv<|zg<|za<|e_mv rfl<|e_mv rfl<|e_p (zya (z:=(((m%1000000000):Nat):Int)) rfl rfl om (remN om om))<|e_p (zL (z:=(((m%1000000000):Nat):Int)) rfl (by rw [yj];rfl) yk (wu32 om))<|zIa rfl rfl (zT (enc:=fun z:Int=>[.int .u32 z]) (ok:=InK .u32) (h1:=fun _=>rfl) (h2:=fun _=>rfl) (k:=1) yf inf121 rfl dd dd dd (.c (x:=(((m%1000000000):Nat):Int)) rfl rfl (fun _ _=>by exact zH.2 om) .n)) (fun b5 _=> ?_)
   refine zma 0 rfl .z<|zLa 1 rfl rfl rfl (zra 0 rfl yf inf121 dd rfl rfl cbs rfl cbs om om) (fun _=>(.s .z)) ?_
   rintro ⟨p6,c7⟩ -
   dsimp only [aq,nq,cq]
   refine e_p (zb rfl)<|zh<|zd<|za<|e_mv rfl<|e_p (zob (z:=(((m / 1000000000):Nat):Int)) rfl rfl om (by rw [quoN (z:=(((m / 1000000000):Nat):Int)) om om];exact wu64 om))<|e_p (zb rfl)<|zh<|zP<|zha ((m / 1000000000),p6,c7,os++[((m%1000000000:Nat):Int)]) (show (m / 1000000000)≤z.natAbs∧(os++[((m%1000000000:Nat):Int)])++yd (m / 1000000000)=yd z.natAbs from by exact ⟨by omega,Big.split_step om hos⟩) (by show m / 1000000000<m;omega) ((.e rfl (by simp) (.of rfl)):SubM _ _) (ho:=((.e (i:=1) rfl (by first|rfl|(congr 1;omega)|simp_all) (.c (i:=1) rfl .n)):PickO _ _ _)) (.n:SelR _ _ _)
  ·
   have hm0:m=0:=by omega
   subst hm0
   have hd:os=yd z.natAbs:=by simpa [Big.digs_zero] using hos
   have hok:yz os:=by rw [hd];exact yo _
   have hlen:os.length≤3:=by rw [hd];exact Big.zlf om
   have hsg:yA (decide (z<0)) (yi os)=z:=by rw [hd,yD];exact Big.sg_big z
   refine zla<|zj<|zj<|zr<|zd<|zg<|za<|e_mv rfl<|e_p (zaa rfl rfl)<|e_mv rfl<|zma 0 rfl .z<|zJ rfl rfl (.c rfl (.c rfl .n)) ce112 (zPa (s:=decide (z<0)) (p:=p) (n:=os.length) (cap:=c) (l:=os) (hn:=by first|rfl|omega) (ho:=by exact hok) (hln:=by first|rfl|omega)) (.c (j:=0) rfl .n) ?_
   rintro ⟨p28,c29⟩ -
   dsimp only [aq,nq,cq]
   refine zo 1 rfl rfl rfl rfl rfl sz41 rfl (.t2 .nil) (.s .z)<|zh<|zd<|zK ?_
   exact zx Tryz.results113 (p28,c29) trivial (zD 1 ty41 rfl rfl (.t2 .nil)) (by rw [hsg]) (ho:=(.n:PickO _ _ _)) ((.e (j:=0) rfl (by rw [hsg]) .n):SelR _ _ _)
theorem zEf {a:Nat} {b:Nat} {p1:Option Addr} {c1:Nat} {p2:Option Addr} {c2:Nat} (hb1:(yd a).length≤1099511627776) (hb2:(yd b).length≤1099511627776):Con yh 128 [.slice p1 ((yd a).length) c1,.slice p2 ((yd b).length) c2] [] [slF (rI .u32) p1 c1 (yd a),slF (rI .u32) p2 c2 (yd b)] (Y:=(Option Addr)×Nat) (fun y=>True) (fun y=> .slice (y.1) ((yd (a+b)).length) (y.2)) (fun y=>[]) (fun y=>[slF (rI .u32) (y.1) (y.2) (yd (a+b))]):=by
 refine zn Tryz.func128 rfl rfl rfl (fun c=> ?_)
 show RunC _ _ _ _ _ [(0,.slice p1 ((yd a).length) c1),(1,.slice p2 ((yd b).length) c2)] [] [slF (rI .u32) p1 c1 (yd a),slF (rI .u32) p2 c2 (yd b)]
 refine zia 0 rfl (fun hL0=> ?_)
 refine zia 1 rfl (fun hL1=> ?_)
 refine zg<|za<|e_p (zb rfl)<|zh<|zd<|zg<|za<|zIa rfl rfl (zta (rI .u32) yf inf121) (fun b1 _=> ?_)
 refine e_p (zb rfl)<|zh<|zd<|zg<|za<|e_p (zb rfl)<|zh<|zd<|zg<|zg<|za<|e_p (zb rfl)<|zh<|zd<|zv<|zqa (X:=Nat×(Option Addr)×Nat×(List Int)×Int) (fun x:Nat×(Option Addr)×Nat×(List Int)×Int=>x.1≤max (yd a).length (yd b).length∧x.2.2.2.1.length=x.1∧0≤x.2.2.2.2∧x.2.2.2.2≤1∧yz x.2.2.2.1∧yi x.2.2.2.1+yQ x.1*x.2.2.2.2=yi ((yd a).take x.1)+yi ((yd b).take x.1)) (fun x=>[(6,.int .u64 (x.2.2.2.2)),(5,.slice (x.2.1) (x.2.2.2.1.length) (x.2.2.1)),(7,ya yb ((x.1:Nat):Int)),(4,.slice none 0 0),(0,.slice p1 ((yd a).length) c1),(1,.slice p2 ((yd b).length) c2)]) (fun x=>[rowA 121 (rI .u32) (x.2.1) (x.2.2.1) (x.2.2.2.1)]) (fun x=>[slF (rI .u32) p1 c1 (yd a),slF (rI .u32) p2 c2 (yd b)]) (fun x:Nat×(Option Addr)×Nat×(List Int)×Int=>max (yd a).length (yd b).length - x.1) (0,some ⟨b1,0,none⟩,0,[],0) (show 0≤max (yd a).length (yd b).length∧([]).length=0∧0≤0∧0≤1∧yz ([])∧yi ([])+yQ 0*0=yi ((yd a).take 0)+yi ((yd b).take 0) from by exact ⟨by omega,rfl,by decide,by decide,Big.okL_nil,by simp [yi]⟩) ((.c rfl (.e rfl (by first|rfl|(congr 1;omega)|simp_all) (.e rfl (by first|rfl|(congr 1;omega)|simp_all) (.of rfl)))):SubM _ _) (ho:=((.c (i:=0) rfl .n):PickO _ _ _)) ((.of [0,1] rfl):SelR _ _ _) ?_
 rintro ⟨i,p,c,os,cy⟩ hI
 replace hI:i≤max (yd a).length (yd b).length∧os.length=i∧0≤cy∧cy≤1∧yz os∧yi os+yQ i*cy=yi ((yd a).take i)+yi ((yd b).take i):=hI
 try dsimp only
 obtain ⟨hi,hol,hc0,hc1,hok,hv⟩:=hI
 have hg1:=yq (yo a) i
 have hg2:=yq (yo b) i
 refine zg<|zFa (X:=Unit) (fun x=>True) (fun x=>[(19,.bool (decide (i<(yd a).length∨i<(yd b).length))),(6,.int .u64 cy),(5,.slice p (os.length) c),(7,ya yb ((i:Nat):Int)),(4,.slice none 0 0),(0,.slice p1 ((yd a).length) c1),(1,.slice p2 ((yd b).length) c2)]) (fun x=>[rowA 121 (rI .u32) p c os]) (fun x=>[slF (rI .u32) p1 c1 (yd a),slF (rI .u32) p2 c2 (yd b)]) ?_ ?_
 ·
  refine za<|e_mv rfl<|e_mv rfl<|e_p (zQ yf rfl)<|e_p (zaa rfl rfl)<|zW rfl rfl (zV rfl) (fun h2=> ?_) (fun h2=> ?_)
  ·
   refine e_no<|e_no<|e_no<|e_no<|e_p (zl rfl rfl)<|zh ?_
   exact zea () (show True from by first|trivial|omega|simp_all) ((.e rfl (congrArg Value.bool (by simp;omega)) (.of rfl)):SubM _ _) (ho:=((.c (i:=0) rfl .n):PickO _ _ _)) ((.of [0,1] rfl):SelR _ _ _)
  ·
   refine e_mv rfl<|e_mv rfl<|e_p (zQ yf rfl)<|e_p (zaa rfl rfl)<|e_p (zl rfl rfl)<|zh ?_
   exact zea () (show True from by first|trivial|omega|simp_all) ((.e rfl (congrArg Value.bool (by simp;omega)) (.of rfl)):SubM _ _) (ho:=((.c (i:=0) rfl .n):PickO _ _ _)) ((.of [0,1] rfl):SelR _ _ _)
 ·
  rintro ⟨⟩ -
  try dsimp only
  refine zG rfl (fun hc=> ?_) (fun hc=> ?_)
  ·
   refine zt<|zd<|zg<|zv<|zg<|za<|e_mv rfl<|e_mv rfl<|zN rfl rfl (.c rfl (.c rfl .n)) ce143 (zdb (p:=p1) (n:=(yd a).length) (cap:=c1) (l:=yd a) (i:=i) (hn:=cbb) (hi:=cbb)) (.c (j:=0) rfl .n)<|e_mv rfl<|e_mv rfl<|zN rfl rfl (.c rfl (.c rfl .n)) ce143 (zdb (p:=p2) (n:=(yd b).length) (cap:=c2) (l:=yd b) (i:=i) (hn:=cbb) (hi:=cbb)) (.c (j:=1) rfl .n)<|e_p (zI (z:=((yd a).getD i 0+(yd b).getD i 0)) rfl rfl (wu64 om))<|e_mv rfl<|e_p (zI (z:=(((yd a).getD i 0+(yd b).getD i 0)+cy)) rfl rfl (wu64 om))<|e_p (zb rfl)<|zh<|zd<|zg<|za<|e_mv rfl<|e_mv rfl<|e_p (zya (z:=((((yd a).getD i 0+(yd b).getD i 0)+cy)%1000000000)) rfl rfl om (remN om om))<|e_p (zL (z:=((((yd a).getD i 0+(yd b).getD i 0)+cy)%1000000000)) rfl (by rw [yj];rfl) yk (wu32 om))<|zIa rfl rfl (zT (enc:=fun z:Int=>[.int .u32 z]) (ok:=InK .u32) (h1:=fun _=>rfl) (h2:=fun _=>rfl) (k:=1) yf inf121 rfl dd dd dd (.c (x:=((((yd a).getD i 0+(yd b).getD i 0)+cy)%1000000000)) rfl rfl (fun _ _=>by exact zH.2 om) .n)) (fun b3 _=> ?_)
   refine zma 0 rfl .z<|zLa 1 rfl rfl rfl (zra 0 rfl yf inf121 dd rfl rfl cbs rfl cbs om om) (fun _=>(.s .z)) ?_
   rintro ⟨p4,c5⟩ -
   dsimp only [aq,nq,cq]
   refine e_p (zb rfl)<|zh<|zd<|za<|e_mv rfl<|e_p (zob (z:=((((yd a).getD i 0+(yd b).getD i 0)+cy) / 1000000000)) rfl rfl om (by rw [quoN (z:=((((yd a).getD i 0+(yd b).getD i 0)+cy) / 1000000000)) om om];exact wu64 om))<|e_p (zb rfl)<|zh<|zP<|zd<|za<|e_mv rfl<|e_p (zI (z:=(((i+1):Nat):Int)) rfl rfl (w64 om))<|e_p (zb rfl)<|zh<|zha ((i+1),p4,c5,os++[((yd a).getD i 0+(yd b).getD i 0+cy)%1000000000],((yd a).getD i 0+(yd b).getD i 0+cy) / 1000000000) (show (i+1)≤max (yd a).length (yd b).length∧(os++[((yd a).getD i 0+(yd b).getD i 0+cy)%1000000000]).length=(i+1)∧0≤(((yd a).getD i 0+(yd b).getD i 0+cy) / 1000000000)∧(((yd a).getD i 0+(yd b).getD i 0+cy) / 1000000000)≤1∧yz (os++[((yd a).getD i 0+(yd b).getD i 0+cy)%1000000000])∧yi (os++[((yd a).getD i 0+(yd b).getD i 0+cy)%1000000000])+yQ (i+1)*(((yd a).getD i 0+(yd b).getD i 0+cy) / 1000000000)=yi ((yd a).take (i+1))+yi ((yd b).take (i+1)) from by exact ⟨by omega,by simp [hol],by omega,by omega,Big.okL_snoc hok om om,Big.plus_step hol hv om⟩) (by show max (yd a).length (yd b).length - (i+1)<max (yd a).length (yd b).length - i;omega) ((.e rfl (by first|rfl|(congr 1;omega)|simp_all) (.e rfl (by simp) (.of rfl))):SubM _ _) (ho:=((.e (i:=1) rfl (by first|rfl|(congr 1;omega)|simp_all) .n):PickO _ _ _)) ((.of [1,2] rfl):SelR _ _ _)
  ·
   have hok2:=Big.okL_snoc hok hc0 (show cy<1000000000 by omega)
   have hfin:=Big.plus_end (a:=a) (b:=b) hol om om hv
   refine zla<|zj<|zj<|zr<|zd<|zg<|za<|e_mv rfl<|e_mv rfl<|e_p (zL (z:=cy) rfl (by rw [yj];rfl) yk (wu32 om))<|zIa rfl rfl (zT (enc:=fun z:Int=>[.int .u32 z]) (ok:=InK .u32) (h1:=fun _=>rfl) (h2:=fun _=>rfl) (k:=1) yf inf121 rfl dd dd dd (.c (x:=cy) rfl rfl (fun _ _=>by exact zH.2 om) .n)) (fun b6 _=> ?_)
   refine zma 0 rfl .z<|zLa 1 rfl rfl rfl (zra 0 rfl yf inf121 dd rfl rfl cbs rfl cbs om om) (fun _=>(.s .z)) ?_
   rintro ⟨p7,c8⟩ -
   dsimp only [aq,nq,cq]
   refine zma 1 rfl (.s .z)<|zJ rfl rfl (.c rfl (.c rfl .n)) ce112 (zPa (s:=false) (p:=p7) (n:=os.length+1) (cap:=c8) (l:=(os++([cy]))) (hn:=by first|rfl|omega|(simp;done)|(simp;omega)) (ho:=by exact hok2) (hln:=by first|rfl|omega|(simp;done)|(simp;omega))) (.c (j:=0) rfl .n) ?_
   rintro ⟨p29,c210⟩ -
   dsimp only [aq,nq,cq]
   refine e_p (zEa yg rfl ty39 rfl rfl)<|e_p (zb rfl)<|zh<|zd<|zK ?_
   exact zx Tryz.results128 (p29,c210) trivial (zk rfl) (by rw [hfin]) (ho:=(.n:PickO _ _ _)) ((.e (j:=0) rfl (by rw [hfin]) .n):SelR _ _ _)
theorem zWb {a:Nat} {b:Nat} {p1:Option Addr} {c1:Nat} {p2:Option Addr} {c2:Nat} (hb1:(yd a).length≤1099511627776) (hb2:(yd b).length≤1099511627776) (hab:b≤a):Con yh 130 [.slice p1 ((yd a).length) c1,.slice p2 ((yd b).length) c2] [] [slF (rI .u32) p1 c1 (yd a),slF (rI .u32) p2 c2 (yd b)] (Y:=(Option Addr)×Nat) (fun y=>True) (fun y=> .slice (y.1) ((yd (a - b)).length) (y.2)) (fun y=>[]) (fun y=>[slF (rI .u32) (y.1) (y.2) (yd (a - b))]):=by
 refine zn Tryz.func130 rfl rfl rfl (fun c=> ?_)
 show RunC _ _ _ _ _ [(0,.slice p1 ((yd a).length) c1),(1,.slice p2 ((yd b).length) c2)] [] [slF (rI .u32) p1 c1 (yd a),slF (rI .u32) p2 c2 (yd b)]
 refine zia 0 rfl (fun hL0=> ?_)
 refine zia 1 rfl (fun hL1=> ?_)
 refine zg<|za<|e_p (zb rfl)<|zh<|zd<|zg<|za<|zIa rfl rfl (zta (rI .u32) yf inf121) (fun b1 _=> ?_)
 refine e_p (zb rfl)<|zh<|zd<|zg<|za<|e_p (zb rfl)<|zh<|zd<|zg<|zg<|za<|e_p (zb rfl)<|zh<|zd<|zv<|zqa (X:=Nat×(Option Addr)×Nat×(List Int)×Int) (fun x:Nat×(Option Addr)×Nat×(List Int)×Int=>x.1≤(yd a).length∧x.2.2.2.1.length=x.1∧0≤x.2.2.2.2∧x.2.2.2.2≤1∧yz x.2.2.2.1∧yi x.2.2.2.1+yi ((yd b).take x.1)=yi ((yd a).take x.1)+yQ x.1*x.2.2.2.2) (fun x=>[(6,.int .u64 (x.2.2.2.2)),(5,.slice (x.2.1) (x.2.2.2.1.length) (x.2.2.1)),(7,ya yb ((x.1:Nat):Int)),(4,.slice none 0 0),(0,.slice p1 ((yd a).length) c1),(1,.slice p2 ((yd b).length) c2)]) (fun x=>[rowA 121 (rI .u32) (x.2.1) (x.2.2.1) (x.2.2.2.1)]) (fun x=>[slF (rI .u32) p1 c1 (yd a),slF (rI .u32) p2 c2 (yd b)]) (fun x:Nat×(Option Addr)×Nat×(List Int)×Int=>(yd a).length - x.1) (0,some ⟨b1,0,none⟩,0,[],0) (show 0≤(yd a).length∧([]).length=0∧0≤0∧0≤1∧yz ([])∧yi ([])+yi ((yd b).take 0)=yi ((yd a).take 0)+yQ 0*0 from by exact ⟨by omega,rfl,by decide,by decide,Big.okL_nil,by simp [yi]⟩) ((.c rfl (.e rfl (by first|rfl|(congr 1;omega)|simp_all) (.e rfl (by first|rfl|(congr 1;omega)|simp_all) (.of rfl)))):SubM _ _) (ho:=((.c (i:=0) rfl .n):PickO _ _ _)) ((.of [0,1] rfl):SelR _ _ _) ?_
 rintro ⟨i,p,c,os,bo⟩ hI
 replace hI:i≤(yd a).length∧os.length=i∧0≤bo∧bo≤1∧yz os∧yi os+yi ((yd b).take i)=yi ((yd a).take i)+yQ i*bo:=hI
 try dsimp only
 obtain ⟨hi,hol,hc0,hc1,hok,hv⟩:=hI
 have hg1:=yq (yo a) i
 have hg2:=yq (yo b) i
 refine zg<|zg<|za<|e_mv rfl<|e_mv rfl<|e_p (zQ yf rfl)<|e_p (zaa rfl rfl)<|zh<|zd<|zG rfl (fun h2=> ?_) (fun h2=> ?_)
 ·
  refine zt<|zd<|zg<|zv<|zg<|za<|e_mv rfl<|e_mv rfl<|zN rfl rfl (.c rfl (.c rfl .n)) ce143 (zdb (p:=p1) (n:=(yd a).length) (cap:=c1) (l:=yd a) (i:=i) (hn:=cbb) (hi:=cbb)) (.c (j:=0) rfl .n)<|e_p (zI (z:=(1000000000+(yd a).getD i 0)) rfl rfl (wu64 om))<|e_mv rfl<|e_mv rfl<|zN rfl rfl (.c rfl (.c rfl .n)) ce143 (zdb (p:=p2) (n:=(yd b).length) (cap:=c2) (l:=yd b) (i:=i) (hn:=cbb) (hi:=cbb)) (.c (j:=1) rfl .n)<|e_p (zoa (z:=((1000000000+(yd a).getD i 0) - (yd b).getD i 0)) rfl rfl (wu64 om))<|e_mv rfl<|e_p (zoa (z:=(((1000000000+(yd a).getD i 0) - (yd b).getD i 0) - bo)) rfl rfl (wu64 om))<|e_p (zb rfl)<|zh<|zd<|zg<|za<|e_mv rfl<|e_mv rfl<|e_p (zya (z:=((((1000000000+(yd a).getD i 0) - (yd b).getD i 0) - bo)%1000000000)) rfl rfl om (remN om om))<|e_p (zL (z:=((((1000000000+(yd a).getD i 0) - (yd b).getD i 0) - bo)%1000000000)) rfl (by rw [yj];rfl) yk (wu32 om))<|zIa rfl rfl (zT (enc:=fun z:Int=>[.int .u32 z]) (ok:=InK .u32) (h1:=fun _=>rfl) (h2:=fun _=>rfl) (k:=1) yf inf121 rfl dd dd dd (.c (x:=((((1000000000+(yd a).getD i 0) - (yd b).getD i 0) - bo)%1000000000)) rfl rfl (fun _ _=>by exact zH.2 om) .n)) (fun b3 _=> ?_)
  refine zma 0 rfl .z<|zLa 1 rfl rfl rfl (zra 0 rfl yf inf121 dd rfl rfl cbs rfl cbs om om) (fun _=>(.s .z)) ?_
  rintro ⟨p4,c5⟩ -
  dsimp only [aq,nq,cq]
  refine e_p (zb rfl)<|zh<|zd<|za<|e_mv rfl<|e_p (zob (z:=((((1000000000+(yd a).getD i 0) - (yd b).getD i 0) - bo) / 1000000000)) rfl rfl om (by rw [quoN (z:=((((1000000000+(yd a).getD i 0) - (yd b).getD i 0) - bo) / 1000000000)) om om];exact wu64 om))<|e_p (zoa (z:=(1 - ((((1000000000+(yd a).getD i 0) - (yd b).getD i 0) - bo) / 1000000000))) rfl rfl (wu64 om))<|e_p (zb rfl)<|zh<|zP<|zd<|za<|e_mv rfl<|e_p (zI (z:=(((i+1):Nat):Int)) rfl rfl (w64 om))<|e_p (zb rfl)<|zh<|zha ((i+1),p4,c5,os++[(1000000000+(yd a).getD i 0 - (yd b).getD i 0 - bo)%1000000000],1 - (1000000000+(yd a).getD i 0 - (yd b).getD i 0 - bo) / 1000000000) (show (i+1)≤(yd a).length∧(os++[(1000000000+(yd a).getD i 0 - (yd b).getD i 0 - bo)%1000000000]).length=(i+1)∧0≤(1 - (1000000000+(yd a).getD i 0 - (yd b).getD i 0 - bo) / 1000000000)∧(1 - (1000000000+(yd a).getD i 0 - (yd b).getD i 0 - bo) / 1000000000)≤1∧yz (os++[(1000000000+(yd a).getD i 0 - (yd b).getD i 0 - bo)%1000000000])∧yi (os++[(1000000000+(yd a).getD i 0 - (yd b).getD i 0 - bo)%1000000000])+yi ((yd b).take (i+1))=yi ((yd a).take (i+1))+yQ (i+1)*(1 - (1000000000+(yd a).getD i 0 - (yd b).getD i 0 - bo) / 1000000000) from by exact ⟨by omega,by simp [hol],by omega,by omega,Big.okL_snoc hok om om,Big.minus_step hol hv om⟩) (by show (yd a).length - (i+1)<(yd a).length - i;omega) ((.e rfl (by first|rfl|(congr 1;omega)|simp_all) (.e rfl (by simp) (.of rfl))):SubM _ _) (ho:=((.e (i:=1) rfl (by first|rfl|(congr 1;omega)|simp_all) .n):PickO _ _ _)) ((.of [1,2] rfl):SelR _ _ _)
 ·
  have htr:yM os=yd (a - b):=Big.minus_fin hab hok hc0 hol om hv
  have hfin:(yA false (yi os)).natAbs=a - b:=by rw [yU (yG hok)];have:=congrArg yi htr;rw [Big.valL_trim,yD] at this;omega
  refine zla<|zj<|zj<|zr<|zd<|zg<|za<|e_mv rfl<|zma 0 rfl .z<|zJ rfl rfl (.c rfl (.c rfl .n)) ce112 (zPa (s:=false) (p:=p) (n:=os.length) (cap:=c) (l:=os) (hn:=by first|rfl|omega|(simp;done)|(simp;omega)) (ho:=by exact hok) (hln:=by first|rfl|omega|(simp;done)|(simp;omega))) (.c (j:=0) rfl .n) ?_
  rintro ⟨p26,c27⟩ -
  dsimp only [aq,nq,cq]
  refine e_p (zEa yg rfl ty39 rfl rfl)<|e_p (zb rfl)<|zh<|zd<|zK ?_
  exact zx Tryz.results130 (p26,c27) trivial (zk rfl) (by rw [hfin]) (ho:=(.n:PickO _ _ _)) ((.e (j:=0) rfl (by rw [hfin]) .n):SelR _ _ _)
theorem zWc {a:Nat} {b:Nat} {p1:Option Addr} {c1:Nat} {p2:Option Addr} {c2:Nat}:Con yh 129 [.slice p1 ((yd a).length) c1,.slice p2 ((yd b).length) c2] [] [slF (rI .u32) p1 c1 (yd a),slF (rI .u32) p2 c2 (yd b)] (Y:=Unit) (fun y=>True) (fun y=> ya yb (Big.cmp (a:Int) (b:Int))) (fun y=>[]) (fun y=>[]):=by
 refine zn Tryz.func129 rfl rfl rfl (fun c=> ?_)
 show RunC _ _ _ _ _ [(0,.slice p1 ((yd a).length) c1),(1,.slice p2 ((yd b).length) c2)] [] [slF (rI .u32) p1 c1 (yd a),slF (rI .u32) p2 c2 (yd b)]
 refine zia 0 rfl (fun hL0=> ?_)
 refine zia 1 rfl (fun hL1=> ?_)
 refine zg<|za<|e_p (zb rfl)<|zh<|zd<|zg<|zg<|za<|e_mv rfl<|e_p (zQ yf rfl)<|e_mv rfl<|e_p (zQ yf rfl)<|e_p (zQa rfl rfl)<|zh<|zd<|zG rfl (fun hlen=> ?_) (fun hlen=> ?_)
 ·
  refine zg<|zg<|za<|e_mv rfl<|e_p (zQ yf rfl)<|e_mv rfl<|e_p (zQ yf rfl)<|e_p (zaa rfl rfl)<|zh<|zd<|zG rfl (fun hll=> ?_) (fun hll=> ?_)
  ·
   refine zg<|za<|e_p (zb rfl)<|zh<|zd<|zK<|zi<|zi ?_
   exact zx yH () trivial (zk rfl) (by rw [← Big.cmp_len om,Big.cmp_lt om]) (ho:=(.n:PickO _ _ _)) (.n:SelR _ _ _)
  ·
   refine zt<|zd<|zg<|za<|e_p (zb rfl)<|zh<|zd<|zK<|zi ?_
   exact zx yH () trivial (zk rfl) (by rw [← Big.cmp_len om,Big.cmp_gt om]) (ho:=(.n:PickO _ _ _)) (.n:SelR _ _ _)
 ·
  replace hlen:(yd a).length=(yd b).length:=by omega
  refine zt<|zd<|zg<|zg<|za<|e_mv rfl<|e_p (zQ yf rfl)<|e_p (zoa (z:=((((yd a).length:Nat):Int) - 1)) rfl rfl (w64 om))<|e_p (zb rfl)<|zh<|zd<|zv<|zqa (X:=Nat) (fun x:Nat=>x≤(yd a).length∧(yd a).drop x=(yd b).drop x) (fun x=>[(5,ya yb (((x:Nat):Int) - 1)),(0,.slice p1 ((yd a).length) c1),(1,.slice p2 ((yd b).length) c2)]) (fun x=>[]) (fun x=>[slF (rI .u32) p1 c1 (yd a),slF (rI .u32) p2 c2 (yd b)]) (fun x:Nat=>x) ((yd a).length) (show ((yd a).length)≤(yd a).length∧(yd a).drop ((yd a).length)=(yd b).drop ((yd a).length) from by exact ⟨Nat.le_refl _,by rw [List.drop_length,hlen,List.drop_length]⟩) ((.e rfl (by first|rfl|(congr 1;omega)|simp_all) (.c rfl (.c rfl .n))):SubM _ _) (ho:=(.n:PickO _ _ _)) ((.of [0,1] rfl):SelR _ _ _) ?_
  rintro j hI
  replace hI:j≤(yd a).length∧(yd a).drop j=(yd b).drop j:=hI
  try dsimp only
  obtain ⟨hj,hd⟩:=hI
  refine zg<|zg<|za<|e_mv rfl<|e_p (zGa rfl rfl)<|zh<|zd<|zG rfl (fun h1=> ?_) (fun h1=> ?_)
  ·
   obtain ⟨k,rfl⟩:∃k,j=k+1:=⟨j - 1,by omega⟩
   have e2:(((((k+1):Nat):Int) - 1):Int)=((k:Nat):Int):=by omega
   rw [e2]
   refine zt<|zd<|zg<|zv<|zg<|zg<|zba (OW:=[]) (O:=[]) 100000 mixed (.then (.then (.block (.then (.then (.block (.then .ret))))))) kr<|e_dm 0 rfl rfl rfl<|e_dm 1 rfl rfl rfl<|zca (x0:=((yd a).getD k 0)) 2 rfl rfl kr kr 0 k rfl yf sz121 rfl rfl rfl cbs rfl rfl (gD (d:=0) om) (fun b3 o4 hok5=> ?_)
   replace hok5:=zH.1 hok5
   refine e_u 3 rfl rfl (zB (j:=0) 0 ty121 rfl rfl rfl rfl)<|e_dm 4 rfl rfl rfl<|e_dm 5 rfl rfl rfl<|zca (x0:=((yd b).getD k 0)) 6 rfl rfl kr kr 2 k rfl yf sz121 rfl rfl rfl cbs rfl rfl (gD (d:=0) om) (fun b6 o7 hok8=> ?_)
   replace hok8:=zH.1 hok8
   refine e_u 7 rfl rfl (zB (j:=0) 0 ty121 rfl rfl rfl rfl)<|e_pv 8 rfl rfl (zaa rfl rfl)<|zX kr<|zd<|zG rfl (fun hlt=> ?_) (fun hlt=> ?_)
   ·
    refine zg<|za<|e_p (zb rfl)<|zh<|zd<|zK<|zi<|zm<|zi<|zi<|zm<|zi ?_
    exact zx yH () trivial (zk rfl) (by rw [← Big.cmp_at hlen om hd om,Big.cmp_lt om]) (ho:=(.n:PickO _ _ _)) (.n:SelR _ _ _)
   ·
    refine zt<|zd<|zg<|zba (OW:=[]) (O:=[]) 100000 mixed (.then (.block (.then (.then (.block (.then .ret)))))) kr<|e_dm 0 rfl rfl rfl<|e_dm 1 rfl rfl rfl<|zca (x0:=((yd a).getD k 0)) 2 rfl rfl kr kr 2 k rfl yf sz121 rfl rfl rfl cbs rfl rfl (gD (d:=0) om) (fun b9 o10 hok11=> ?_)
    replace hok11:=zH.1 hok11
    refine e_u 3 rfl rfl (zB (j:=0) 0 ty121 rfl rfl rfl rfl)<|e_dm 4 rfl rfl rfl<|e_dm 5 rfl rfl rfl<|zca (x0:=((yd b).getD k 0)) 6 rfl rfl kr kr 4 k rfl yf sz121 rfl rfl rfl cbs rfl rfl (gD (d:=0) om) (fun b12 o13 hok14=> ?_)
    replace hok14:=zH.1 hok14
    refine e_u 7 rfl rfl (zB (j:=0) 0 ty121 rfl rfl rfl rfl)<|e_pv 8 rfl rfl (zBa rfl rfl)<|zX kr<|zd<|zG rfl (fun hgt=> ?_) (fun hgt=> ?_)
    ·
     refine zg<|za<|e_p (zb rfl)<|zh<|zd<|zK<|zm<|zi<|zi<|zm<|zi ?_
     exact zx yH () trivial (zk rfl) (by rw [← Big.cmp_at hlen om hd om,Big.cmp_gt om]) (ho:=(.n:PickO _ _ _)) (.n:SelR _ _ _)
    ·
     refine zt<|zP<|zd<|za<|e_mv rfl<|e_p (zoa (z:=(((k:Nat):Int) - 1)) rfl rfl (w64 om))<|e_p (zb rfl)<|zh<|zha k (show k≤(yd a).length∧(yd a).drop k=(yd b).drop k from by exact ⟨by omega,Big.drop_more om om hd om⟩) (by show k<k+1;omega) ((.of rfl):SubM _ _) (ho:=(.n:PickO _ _ _)) ((.of [4,5] rfl):SelR _ _ _)
  ·
   refine zla<|zj<|zj<|zr<|zd<|zg<|za<|e_p (zb rfl)<|zh<|zd<|zK ?_
   have hj0:j=0:=by omega
   subst hj0
   have heq:=Big.cmp_eq (show yd a=yd b by simpa using hd)
   exact zx yH () trivial (zk rfl) (by rw [heq] <;> simp [Big.cmp]) (ho:=(.n:PickO _ _ _)) (.n:SelR _ _ _)
theorem zAe {s:Bool} {p:Option Addr} {n:Nat} {cap:Nat} {l:List Int} (hn:l.length=n) (hln:n≤1099511627776):Con yh 106 [.agg #[.bool s,.slice p n cap]] [] [slF (rI .u32) p cap l] (Y:=(Option Addr)×Nat) (fun y=>True) (fun y=> .agg #[.bool (decide ((- ye s l)<0)),.slice (y.1) ((yd ((- ye s l).natAbs)).length) (y.2)]) (fun y=>[]) (fun y=>[slF (rI .u32) (y.1) (y.2) (yd ((- ye s l).natAbs))]):=by
 refine zn Tryz.func106 rfl rfl rfl (fun c=> ?_)
 show RunC _ _ _ _ _ [(0,.agg #[.bool s,.slice p n cap])] [] [slF (rI .u32) p cap l]
 refine zia 0 rfl (fun hL0=> ?_)
 refine zUa 0 rfl (fun hE0=> ?_)
 have hnn:yP l:=fun g hg=>(zH.1 (hE0 g hg)).1
 have hb:ym (ye s l)≤n:=by have:=yI (s:=s) hnn;omega
 unfold ym at hb
 refine zg<|za<|zO rfl rfl (zS rfl rfl) (fun b1=> ?_)
 refine zO rfl rfl (zp zr41 rfl) (fun b2=> ?_)
 refine zh<|zd<|zg<|za<|e_ru (zc 1 ty41 rfl rfl (.t2 .nil))<|zJ rfl rfl (.c rfl .n) ce111 (zTa (s:=s) (p:=p) (n:=n) (cap:=cap) (l:=l) (hn:=ass) (hln:=ass)) (.c (j:=0) rfl .n) ?_
 rintro ⟨p23,c24⟩ -
 dsimp only [aq,nq,cq]
 refine zo 1 rfl rfl rfl rfl rfl sz41 rfl (.t2 .nil) (.s .z)<|zh<|zd<|zg<|za<|e_p (zf yg rfl sz4 rfl rfl)<|e_ru (ze 1 ty4 rfl rfl rfl)<|e_p (zJb rfl)<|e_p (zf yg rfl sz39 rfl rfl)<|e_ru (ze 1 ty39 rfl rfl rfl)<|zJ rfl rfl (.c rfl (.c rfl .n)) ce112 (zsb (s:= !(decide ((ye s l)<0))) (a:=(ye s l).natAbs) (p:=p23) (cap:=c24) (hln:=cbb)) (.c (j:=0) rfl .n) ?_
 rintro ⟨p25,c26⟩ -
 dsimp only [aq,nq,cq]
 refine zo 0 rfl rfl rfl rfl rfl sz41 rfl (.t2 .nil) .z<|zh<|zd<|zK ?_
 have hz:yA (!decide (ye s l<0)) ((ye s l).natAbs:Int)= - ye s l:=by rw [Big.sg_not,Big.sg_big]
 exact zx Tryz.results106 (p25,c26) trivial (zD 0 ty41 rfl rfl (.t2 .nil)) (by rw [hz]) (ho:=(.n:PickO _ _ _)) ((.e (j:=0) rfl (by rw [hz]) .n):SelR _ _ _)
theorem zFf {z:Int} {p:Option Addr} {cap:Nat} (hln:ym z≤1099511627776):Con yh 106 [.agg #[.bool (decide ((z)<0)),.slice (p) ((yd ((z).natAbs)).length) (cap)]] [] [slF (rI .u32) (p) (cap) (yd ((z).natAbs))] (Y:=(Option Addr)×(Nat)) (fun y=>True) (fun y=> .agg #[.bool (decide ((- z)<0)),.slice (y.1) ((yd ((- z).natAbs)).length) (y.2)]) (fun y=>[]) (fun y=>[slF (rI .u32) (y.1) (y.2) (yd ((- z).natAbs))]):=by
  have h:= @zAe (decide ((z)<0)) p (yd (z).natAbs).length cap (yd (z).natAbs) rfl hln
  rw [yy] at h
  exact h
theorem zKd {w1:Wd} {x1:Int} (hln:ym x1≤1099511627776):Con yh 106 [.agg #[w1.b,w1.l]] [] [zF w1 (x1)] (Y:=(Wd)) (fun y=>True) (fun y=> .agg #[y.b,y.l]) (fun y=>[]) (fun y=>[zF y (- x1)]):=by
  exact zYb (zte (fun p c=>zFf hln))
theorem zLd {s:Bool} {p:Option Addr} {n:Nat} {cap:Nat} {l:List Int} (hn:l.length=n) (hln:n≤1099511627776):Con yh 105 [.agg #[.bool s,.slice p n cap]] [] [slF (rI .u32) p cap l] (Y:=Unit) (fun y=>True) (fun y=> ya yb ((ye s l).sign)) (fun y=>[]) (fun y=>[]):=by
 refine zn Tryz.func105 rfl rfl rfl (fun c=> ?_)
 show RunC _ _ _ _ _ [(0,.agg #[.bool s,.slice p n cap])] [] [slF (rI .u32) p cap l]
 refine zia 0 rfl (fun hL0=> ?_)
 refine zUa 0 rfl (fun hE0=> ?_)
 have hnn:yP l:=fun g hg=>(zH.1 (hE0 g hg)).1
 refine zg<|za<|zO rfl rfl (zS rfl rfl) (fun b1=> ?_)
 refine e_p (zb rfl)<|zh<|zd<|zg<|za<|e_ru (zc 0 ty41 rfl rfl (.t2 .nil))<|zJ rfl rfl (.c rfl .n) ce111 (zTa (s:=s) (p:=p) (n:=n) (cap:=cap) (l:=l) (hn:=ass) (hln:=ass)) (.c (j:=0) rfl .n) ?_
 rintro ⟨p22,c23⟩ -
 dsimp only [aq,nq,cq]
 refine zo 0 rfl rfl rfl rfl rfl sz41 rfl (.t2 .nil) .z<|zh<|zd<|zg<|zg<|za<|e_p (zf yg rfl sz39 rfl rfl)<|e_ru (ze 0 ty39 rfl rfl rfl)<|e_p (zQ yf rfl)<|e_p (zCa rfl rfl)<|zh<|zd<|zG rfl (fun h0=> ?_) (fun h0=> ?_)
 ·
  refine zg<|za<|e_p (zb rfl)<|zh<|zd<|zK<|zi ?_
  exact zx Tryz.results105 () trivial (zk rfl) (by rw [show ye s l=0 by have:=yN.1 (show (yd (ye s l).natAbs).length=0 by omega);omega];rfl) (ho:=(.n:PickO _ _ _)) (.n:SelR _ _ _)
 ·
  refine zt<|zd<|zg<|zg<|za<|e_p (zf yg rfl sz4 rfl rfl)<|e_ru (ze 0 ty4 rfl rfl rfl)<|zh<|zd<|zZa rfl (fun hs=> ?_) (fun hs=> ?_)
  ·
   refine zg<|za<|e_p (zb rfl)<|zh<|zd<|zK<|zi ?_
   exact zx Tryz.results105 () trivial (zk rfl) (by rw [Int.sign_eq_neg_one_of_neg (by simpa using hs)]) (ho:=(.n:PickO _ _ _)) (.n:SelR _ _ _)
  ·
   refine zt<|zd<|zg<|za<|e_p (zb rfl)<|zh<|zd<|zK ?_
   exact zx Tryz.results105 () trivial (zk rfl) (by rw [Int.sign_eq_one_of_pos (by have h2:¬ye s l<0:=(by simpa using hs);have:(ye s l).natAbs≠0:=(fun e=>h0 (by rw [e];rfl));omega)]) (ho:=(.n:PickO _ _ _)) (.n:SelR _ _ _)
theorem zfd {z:Int} {p:Option Addr} {cap:Nat} (hln:ym z≤1099511627776):Con yh 105 [.agg #[.bool (decide ((z)<0)),.slice (p) ((yd ((z).natAbs)).length) (cap)]] [] [slF (rI .u32) (p) (cap) (yd ((z).natAbs))] (Y:=Unit) (fun y=>True) (fun y=> ya yb ((z).sign)) (fun y=>[]) (fun y=>[]):=by
  have h:= @zLd (decide ((z)<0)) p (yd (z).natAbs).length cap (yd (z).natAbs) rfl hln
  rw [yy] at h
  exact h
theorem zxc {w1:Wd} {x1:Int} (hln:ym x1≤1099511627776):Con yh 105 [.agg #[w1.b,w1.l]] [] [zF w1 (x1)] (Y:=Unit) (fun y=>True) (fun y=> ya yb ((x1).sign)) (fun y=>[]) (fun y=>[]):=by
  exact zte (fun p c=>zfd hln)
theorem zBe {s:Bool} {p1:Option Addr} {n1:Nat} {c1:Nat} {l1:List Int} {t:Bool} {p2:Option Addr} {n2:Nat} {c2:Nat} {l2:List Int} (hn1:l1.length=n1) (hn2:l2.length=n2) (hm1:n1≤1099511627776) (hm2:n2≤1099511627776):Con yh 108 [.agg #[.bool s,.slice p1 n1 c1],.agg #[.bool t,.slice p2 n2 c2]] [] [slF (rI .u32) p1 c1 l1,slF (rI .u32) p2 c2 l2] (Y:=(Option Addr)×Nat) (fun y=>True) (fun y=> .agg #[.bool (decide ((ye s l1+ye t l2)<0)),.slice (y.1) ((yd ((ye s l1+ye t l2).natAbs)).length) (y.2)]) (fun y=>[]) (fun y=>[slF (rI .u32) (y.1) (y.2) (yd ((ye s l1+ye t l2).natAbs))]):=by
 refine zn Tryz.func108 rfl rfl rfl (fun c=> ?_)
 show RunC _ _ _ _ _ [(0,.agg #[.bool s,.slice p1 n1 c1]),(1,.agg #[.bool t,.slice p2 n2 c2])] [] [slF (rI .u32) p1 c1 l1,slF (rI .u32) p2 c2 l2]
 refine zia 0 rfl (fun hL0=> ?_)
 refine zUa 0 rfl (fun hE0=> ?_)
 refine zia 1 rfl (fun hL1=> ?_)
 refine zUa 1 rfl (fun hE1=> ?_)
 have hnn1:yP l1:=fun g hg=>(zH.1 (hE0 g hg)).1
 have hnn2:yP l2:=fun g hg=>(zH.1 (hE1 g hg)).1
 have hb1:ym (ye s l1)≤n1:=by have:=yI (s:=s) hnn1;omega
 have hb2:ym (ye t l2)≤n2:=by have:=yI (s:=t) hnn2;omega
 unfold ym at hb1 hb2
 refine zg<|za<|zO rfl rfl (zS rfl rfl) (fun b1=> ?_)
 refine zO rfl rfl (zS rfl rfl) (fun b2=> ?_)
 refine zO rfl rfl (zp zr41 rfl) (fun b3=> ?_)
 refine zh<|zd<|zg<|zxa (.c (i:=2) rfl (.c (i:=1) rfl (.c (i:=0) rfl .n)))<|zba (OW:=[boxA b1 41 [.bool s,.slice p1 n1 c1],boxA b2 41 [.bool t,.slice p2 n2 c2]]) (O:=[boxA b3 41 [wz.b,wz.l]]) 4 mixed (.then .ret) kr<|e_uw 0 rfl rfl (zc 0 ty41 rfl rfl (.t2 .nil))<|e_uw 2 rfl rfl (zc 1 ty41 rfl rfl (.t2 .nil))<|e_one 1 (zE rfl rfl rfl rfl (.c rfl .n) ce111 (zTa (s:=s) (p:=p1) (n:=n1) (cap:=c1) (l:=l1) (hn:=ass) (hln:=ass)) (.c (j:=0) rfl .n) ?_)
 rintro ⟨p24,c25⟩ -
 dsimp only [aq,nq,cq]
 refine e_one 3 (zE rfl rfl rfl rfl (.c rfl .n) ce111 (zTa (s:=t) (p:=p2) (n:=n2) (cap:=c2) (l:=l2) (hn:=ass) (hln:=ass)) (.c (j:=2) rfl .n) ?_)
 rintro ⟨p26,c27⟩ -
 dsimp only [aq,nq,cq]
 refine e_one 4 (zy kr rfl rfl rfl rfl rfl sz41 rfl (.t2 .nil) ?_)
 refine zbb (zga (i:=1) rfl)<|e_one 5 (zy kr rfl rfl rfl rfl rfl sz41 rfl (.t2 .nil) ?_)
 refine zX kr<|zd<|zg<|zg<|za<|e_p (zf yg rfl sz4 rfl rfl)<|e_ru (ze 1 ty4 rfl rfl rfl)<|e_p (zf yg rfl sz4 rfl rfl)<|e_ru (ze 0 ty4 rfl rfl rfl)<|e_p (zHc yO rfl rfl)<|zh<|zd<|zG rfl (fun hst=> ?_) (fun hst=> ?_)
 ·
  refine zg<|zxa (.c (i:=2) rfl (.c (i:=0) rfl (.c (i:=0) rfl .n)))<|zba (OW:=[boxA b3 41 [wz.b,wz.l]]) (O:=[boxA b2 41 [.bool (decide ((ye t l2)<0)),.slice p26 ((yd ((ye t l2).natAbs)).length) c27],boxA b1 41 [.bool (decide ((ye s l1)<0)),.slice p24 ((yd ((ye s l1).natAbs)).length) c25]]) 8 mixed (.then (.then .ret)) kr<|e_pv 0 rfl rfl (zf yg rfl sz4 rfl rfl)<|e_uw 1 rfl rfl (ze 2 ty4 rfl rfl rfl)<|e_pv 2 rfl rfl (zf yg rfl sz39 rfl rfl)<|e_uw 3 rfl rfl (ze 2 ty39 rfl rfl rfl)<|e_pv 4 rfl rfl (zf yg rfl sz39 rfl rfl)<|e_uw 5 rfl rfl (ze 1 ty39 rfl rfl rfl)<|e_one 6 (zE rfl rfl rfl rfl (.c rfl (.c rfl .n)) ce128 (zEf (a:=(ye s l1).natAbs) (b:=(ye t l2).natAbs) (p1:=p24) (c1:=c25) (p2:=p26) (c2:=c27) (hb1:=by first|rfl|assumption|omega|(unfold ym;omega)|(simp;done)|(simp;omega)|(simp_all;done)) (hb2:=by first|rfl|assumption|omega|(unfold ym;omega)|(simp;done)|(simp;omega)|(simp_all;done))) (.c (j:=1) rfl (.c (j:=0) rfl .n)) ?_)
  rintro ⟨p38,c39⟩ -
  dsimp only [aq,nq,cq]
  refine e_one 7 (zE rfl rfl rfl rfl (.c rfl (.c rfl .n)) ce112 (zsb (s:=decide ((ye s l1)<0)) (a:=((ye s l1).natAbs)+((ye t l2).natAbs)) (p:=p38) (cap:=c39) (hln:=by have:=Big.len_add (ye s l1).natAbs (ye t l2).natAbs;omega)) (.c (j:=0) rfl .n) ?_)
  rintro ⟨p210,c211⟩ -
  dsimp only [aq,nq,cq]
  refine e_one 8 (zy kr rfl rfl rfl rfl rfl sz41 rfl (.t2 .nil) ?_)
  refine zX kr<|zd<|zK<|zi ?_
  have hz:=Big.add_same hst
  exact zx Tryz.results108 (p210,c211) trivial (zD 0 ty41 rfl rfl (.t2 .nil)) (by rw [hz]) (ho:=(.n:PickO _ _ _)) ((.e (j:=0) rfl (by rw [hz]) .n):SelR _ _ _)
 ·
  refine zt<|zd<|zg<|zg<|za<|e_p (zf yg rfl sz39 rfl rfl)<|e_ru (ze 1 ty39 rfl rfl rfl)<|e_p (zf yg rfl sz39 rfl rfl)<|e_ru (ze 0 ty39 rfl rfl rfl)<|zN rfl rfl (.c rfl (.c rfl .n)) ce129 (zWc (a:=(ye s l1).natAbs) (b:=(ye t l2).natAbs) (p1:=p24) (c1:=c25) (p2:=p26) (c2:=c27)) (.c (j:=1) rfl (.c (j:=0) rfl .n))<|e_p (zGa rfl rfl)<|zh<|zd<|zG rfl (fun hcmp=> ?_) (fun hcmp=> ?_)
  ·
   have hab:(ye t l2).natAbs≤(ye s l1).natAbs:=by have:=yS.1 hcmp;omega
   refine zg<|zxa (.c (i:=2) rfl (.c (i:=0) rfl (.c (i:=0) rfl .n)))<|zba (OW:=[boxA b3 41 [wz.b,wz.l]]) (O:=[boxA b2 41 [.bool (decide ((ye t l2)<0)),.slice p26 ((yd ((ye t l2).natAbs)).length) c27],boxA b1 41 [.bool (decide ((ye s l1)<0)),.slice p24 ((yd ((ye s l1).natAbs)).length) c25]]) 8 mixed (.then (.then .ret)) kr<|e_pv 0 rfl rfl (zf yg rfl sz4 rfl rfl)<|e_uw 1 rfl rfl (ze 2 ty4 rfl rfl rfl)<|e_pv 2 rfl rfl (zf yg rfl sz39 rfl rfl)<|e_uw 3 rfl rfl (ze 2 ty39 rfl rfl rfl)<|e_pv 4 rfl rfl (zf yg rfl sz39 rfl rfl)<|e_uw 5 rfl rfl (ze 1 ty39 rfl rfl rfl)<|e_one 6 (zE rfl rfl rfl rfl (.c rfl (.c rfl .n)) ce130 (zWb (a:=(ye s l1).natAbs) (b:=(ye t l2).natAbs) (p1:=p24) (c1:=c25) (p2:=p26) (c2:=c27) (hb1:=by first|rfl|assumption|omega|(unfold ym;omega)|(simp;done)|(simp;omega)|(simp_all;done)) (hb2:=by first|rfl|assumption|omega|(unfold ym;omega)|(simp;done)|(simp;omega)|(simp_all;done)) (hab:=by first|rfl|assumption|omega|(unfold ym;omega)|(simp;done)|(simp;omega)|(simp_all;done))) (.c (j:=1) rfl (.c (j:=0) rfl .n)) ?_)
   rintro ⟨p312,c313⟩ -
   dsimp only [aq,nq,cq]
   refine e_one 7 (zE rfl rfl rfl rfl (.c rfl (.c rfl .n)) ce112 (zsb (s:=decide ((ye s l1)<0)) (a:=((ye s l1).natAbs) - ((ye t l2).natAbs)) (p:=p312) (cap:=c313) (hln:=by have:=Big.len_sub (ye s l1).natAbs (ye t l2).natAbs;omega)) (.c (j:=0) rfl .n) ?_)
   rintro ⟨p214,c215⟩ -
   dsimp only [aq,nq,cq]
   refine e_one 8 (zy kr rfl rfl rfl rfl rfl sz41 rfl (.t2 .nil) ?_)
   refine zX kr<|zd<|zK<|zi ?_
   have hz:=Big.add_ge hst hab
   exact zx Tryz.results108 (p214,c215) trivial (zD 0 ty41 rfl rfl (.t2 .nil)) (by rw [hz]) (ho:=(.n:PickO _ _ _)) ((.e (j:=0) rfl (by rw [hz]) .n):SelR _ _ _)
  ·
   have hab:(ye s l1).natAbs≤(ye t l2).natAbs:=by have:¬((ye t l2).natAbs:Int)≤(ye s l1).natAbs:=fun h=>hcmp (yS.2 h);omega
   refine zt<|zd<|zg<|zxa (.c (i:=2) rfl (.c (i:=0) rfl (.c (i:=0) rfl .n)))<|zba (OW:=[boxA b3 41 [wz.b,wz.l]]) (O:=[boxA b2 41 [.bool (decide ((ye t l2)<0)),.slice p26 ((yd ((ye t l2).natAbs)).length) c27],boxA b1 41 [.bool (decide ((ye s l1)<0)),.slice p24 ((yd ((ye s l1).natAbs)).length) c25]]) 8 mixed (.then .ret) kr<|e_pv 0 rfl rfl (zf yg rfl sz4 rfl rfl)<|e_uw 1 rfl rfl (ze 1 ty4 rfl rfl rfl)<|e_pv 2 rfl rfl (zf yg rfl sz39 rfl rfl)<|e_uw 3 rfl rfl (ze 1 ty39 rfl rfl rfl)<|e_pv 4 rfl rfl (zf yg rfl sz39 rfl rfl)<|e_uw 5 rfl rfl (ze 2 ty39 rfl rfl rfl)<|e_one 6 (zE rfl rfl rfl rfl (.c rfl (.c rfl .n)) ce130 (zWb (a:=(ye t l2).natAbs) (b:=(ye s l1).natAbs) (p1:=p26) (c1:=c27) (p2:=p24) (c2:=c25) (hb1:=by first|rfl|assumption|omega|(unfold ym;omega)|(simp;done)|(simp;omega)|(simp_all;done)) (hb2:=by first|rfl|assumption|omega|(unfold ym;omega)|(simp;done)|(simp;omega)|(simp_all;done)) (hab:=by first|rfl|assumption|omega|(unfold ym;omega)|(simp;done)|(simp;omega)|(simp_all;done))) (.c (j:=0) rfl (.c (j:=1) rfl .n)) ?_)
   rintro ⟨p316,c317⟩ -
   dsimp only [aq,nq,cq]
   refine e_one 7 (zE rfl rfl rfl rfl (.c rfl (.c rfl .n)) ce112 (zsb (s:=decide ((ye t l2)<0)) (a:=((ye t l2).natAbs) - ((ye s l1).natAbs)) (p:=p316) (cap:=c317) (hln:=by have:=Big.len_sub (ye t l2).natAbs (ye s l1).natAbs;omega)) (.c (j:=0) rfl .n) ?_)
   rintro ⟨p218,c219⟩ -
   dsimp only [aq,nq,cq]
   refine e_one 8 (zy kr rfl rfl rfl rfl rfl sz41 rfl (.t2 .nil) ?_)
   refine zX kr<|zd<|zK ?_
   have hz:=Big.add_lt hst hab
   exact zx Tryz.results108 (p218,c219) trivial (zD 0 ty41 rfl rfl (.t2 .nil)) (by rw [hz]) (ho:=(.n:PickO _ _ _)) ((.e (j:=0) rfl (by rw [hz]) .n):SelR _ _ _)
theorem zGf {x1:Int} {x2:Int} {p1:Option Addr} {c1:Nat} {p2:Option Addr} {c2:Nat} (hb1:ym x1≤1099511627776) (hb2:ym x2≤1099511627776):Con yh 108 [.agg #[.bool (decide ((x1)<0)),.slice (p1) ((yd ((x1).natAbs)).length) (c1)],.agg #[.bool (decide ((x2)<0)),.slice (p2) ((yd ((x2).natAbs)).length) (c2)]] [] [slF (rI .u32) (p1) (c1) (yd ((x1).natAbs)),slF (rI .u32) (p2) (c2) (yd ((x2).natAbs))] (Y:=(Option Addr)×(Nat)) (fun y=>True) (fun y=> .agg #[.bool (decide ((x1+x2)<0)),.slice (y.1) ((yd ((x1+x2).natAbs)).length) (y.2)]) (fun y=>[]) (fun y=>[slF (rI .u32) (y.1) (y.2) (yd ((x1+x2).natAbs))]):=by
  have h:= @zBe (decide ((x1)<0)) p1 (yd (x1).natAbs).length c1 (yd (x1).natAbs) (decide ((x2)<0)) p2 (yd (x2).natAbs).length c2 (yd (x2).natAbs) rfl rfl hb1 hb2
  rw [yy,yy] at h
  exact h
theorem zHf {w1:Wd} {w2:Wd} {x1:Int} {x2:Int} (hb1:ym x1≤1099511627776) (hb2:ym x2≤1099511627776):Con yh 108 [.agg #[w1.b,w1.l],.agg #[w2.b,w2.l]] [] [zF w1 (x1),zF w2 (x2)] (Y:=(Wd)) (fun y=>True) (fun y=> .agg #[y.b,y.l]) (fun y=>[]) (fun y=>[zF y (x1+x2)]):=by
  exact zYb (zCc (fun p1 c1 p2 c2=>zGf hb1 hb2))
theorem zCe {s:Bool} {p1:Option Addr} {n1:Nat} {c1:Nat} {l1:List Int} {t:Bool} {p2:Option Addr} {n2:Nat} {c2:Nat} {l2:List Int} (hn1:l1.length=n1) (hn2:l2.length=n2) (hm1:n1≤1099511627776) (hm2:n2≤1099511627776):Con yh 133 [.agg #[.bool s,.slice p1 n1 c1],.agg #[.bool t,.slice p2 n2 c2]] [] [slF (rI .u32) p1 c1 l1,slF (rI .u32) p2 c2 l2] (Y:=(Option Addr)×Nat) (fun y=>True) (fun y=> .agg #[.bool (decide ((ye s l1 - ye t l2)<0)),.slice (y.1) ((yd ((ye s l1 - ye t l2).natAbs)).length) (y.2)]) (fun y=>[]) (fun y=>[slF (rI .u32) (y.1) (y.2) (yd ((ye s l1 - ye t l2).natAbs))]):=by
 refine zn Tryz.func133 rfl rfl rfl (fun c=> ?_)
 show RunC _ _ _ _ _ [(0,.agg #[.bool s,.slice p1 n1 c1]),(1,.agg #[.bool t,.slice p2 n2 c2])] [] [slF (rI .u32) p1 c1 l1,slF (rI .u32) p2 c2 l2]
 refine zia 0 rfl (fun hL0=> ?_)
 refine zUa 0 rfl (fun hE0=> ?_)
 refine zia 1 rfl (fun hL1=> ?_)
 refine zUa 1 rfl (fun hE1=> ?_)
 have hnn1:yP l1:=fun g hg=>(zH.1 (hE0 g hg)).1
 have hnn2:yP l2:=fun g hg=>(zH.1 (hE1 g hg)).1
 have hb1:ym (ye s l1)≤n1:=by have:=yI (s:=s) hnn1;omega
 have hb2:ym (ye t l2)≤n2:=by have:=yI (s:=t) hnn2;omega
 unfold ym at hb1 hb2
 refine zg<|za<|zO rfl rfl (zS rfl rfl) (fun b1=> ?_)
 refine zO rfl rfl (zS rfl rfl) (fun b2=> ?_)
 refine zO rfl rfl (zp zr41 rfl) (fun b3=> ?_)
 refine zh<|zd<|zg<|zba (OW:=[boxA b3 41 [wz.b,wz.l]]) (O:=[boxA b2 41 [.bool t,.slice p2 n2 c2],boxA b1 41 [.bool s,.slice p1 n1 c1]]) 4 mixed (.then .ret) kr<|e_uw 0 rfl rfl (zc 2 ty41 rfl rfl (.t2 .nil))<|e_uw 1 rfl rfl (zc 1 ty41 rfl rfl (.t2 .nil))<|e_one 2 (zE rfl rfl rfl rfl (.c rfl .n) ce106 (zAe (s:=t) (p:=p2) (n:=n2) (cap:=c2) (l:=l2) (hn:=ass) (hln:=ass)) (.c (j:=1) rfl .n) ?_)
 rintro ⟨p24,c25⟩ -
 dsimp only [aq,nq,cq]
 refine e_one 3 (zE rfl rfl rfl rfl (.c rfl (.c rfl .n)) ce108 (zBe (s:=s) (p1:=p1) (n1:=n1) (c1:=c1) (l1:=l1) (t:=decide ((- ye t l2)<0)) (p2:=p24) (n2:=(yd ((- ye t l2).natAbs)).length) (c2:=c25) (l2:=yd ((- ye t l2).natAbs)) (hn1:=ass) (hn2:=by first|rfl|assumption|omega|(rw [Int.natAbs_neg];omega)) (hm1:=ass) (hm2:=by first|rfl|assumption|omega|(rw [Int.natAbs_neg];omega))) (.c (j:=1) rfl (.c (j:=0) rfl .n)) ?_)
 rintro ⟨p36,c37⟩ -
 dsimp only [aq,nq,cq]
 refine e_one 4 (zy kr rfl rfl rfl rfl rfl sz41 rfl (.t2 .nil) ?_)
 refine zX kr<|zd<|zK ?_
 have hz:ye s l1+ye (decide ((- ye t l2)<0)) (yd (- ye t l2).natAbs)=ye s l1 - ye t l2:=by rw [yy];omega
 exact zx Tryz.results133 (p36,c37) trivial (zD 0 ty41 rfl rfl (.t2 .nil)) (by rw [hz]) (ho:=(.n:PickO _ _ _)) ((.e (j:=0) rfl (by rw [hz]) .n):SelR _ _ _)
theorem zpc {x1:Int} {x2:Int} {p1:Option Addr} {c1:Nat} {p2:Option Addr} {c2:Nat} (hb1:ym x1≤1099511627776) (hb2:ym x2≤1099511627776):Con yh 133 [.agg #[.bool (decide ((x1)<0)),.slice (p1) ((yd ((x1).natAbs)).length) (c1)],.agg #[.bool (decide ((x2)<0)),.slice (p2) ((yd ((x2).natAbs)).length) (c2)]] [] [slF (rI .u32) (p1) (c1) (yd ((x1).natAbs)),slF (rI .u32) (p2) (c2) (yd ((x2).natAbs))] (Y:=(Option Addr)×(Nat)) (fun y=>True) (fun y=> .agg #[.bool (decide ((x1 - x2)<0)),.slice (y.1) ((yd ((x1 - x2).natAbs)).length) (y.2)]) (fun y=>[]) (fun y=>[slF (rI .u32) (y.1) (y.2) (yd ((x1 - x2).natAbs))]):=by
  have h:= @zCe (decide ((x1)<0)) p1 (yd (x1).natAbs).length c1 (yd (x1).natAbs) (decide ((x2)<0)) p2 (yd (x2).natAbs).length c2 (yd (x2).natAbs) rfl rfl hb1 hb2
  rw [yy,yy] at h
  exact h
theorem zgg {s:Bool} {p1:Option Addr} {n1:Nat} {c1:Nat} {l1:List Int} {t:Bool} {p2:Option Addr} {n2:Nat} {c2:Nat} {l2:List Int} (hn1:l1.length=n1) (hn2:l2.length=n2) (hm1:n1≤1099511627776) (hm2:n2≤1099511627776):Con yh 73 [.agg #[.bool s,.slice p1 n1 c1],.agg #[.bool t,.slice p2 n2 c2]] [] [slF (rI .u32) p1 c1 l1,slF (rI .u32) p2 c2 l2] (Y:=(Option Addr)×Nat) (fun y=>True) (fun y=> .agg #[.bool (decide ((ye s l1*ye t l2)<0)),.slice (y.1) ((yd ((ye s l1*ye t l2).natAbs)).length) (y.2)]) (fun y=>[]) (fun y=>[slF (rI .u32) (y.1) (y.2) (yd ((ye s l1*ye t l2).natAbs))]):=by
 refine zn Tryz.func73 rfl rfl rfl (fun c=> ?_)
 show RunC _ _ _ _ _ [(0,.agg #[.bool s,.slice p1 n1 c1]),(1,.agg #[.bool t,.slice p2 n2 c2])] [] [slF (rI .u32) p1 c1 l1,slF (rI .u32) p2 c2 l2]
 refine zia 0 rfl (fun hL0=> ?_)
 refine zUa 0 rfl (fun hE0=> ?_)
 refine zia 1 rfl (fun hL1=> ?_)
 refine zUa 1 rfl (fun hE1=> ?_)
 have hnn1:yP l1:=fun g hg=>(zH.1 (hE0 g hg)).1
 have hnn2:yP l2:=fun g hg=>(zH.1 (hE1 g hg)).1
 have hb1:ym (ye s l1)≤n1:=by have:=yI (s:=s) hnn1;omega
 have hb2:ym (ye t l2)≤n2:=by have:=yI (s:=t) hnn2;omega
 unfold ym at hb1 hb2
 have hoa:=yo (ye s l1).natAbs
 have hob:=yo (ye t l2).natAbs
 refine zg<|za<|zO rfl rfl (zS rfl rfl) (fun b1=> ?_)
 refine zO rfl rfl (zS rfl rfl) (fun b2=> ?_)
 refine zO rfl rfl (zp zr41 rfl) (fun b3=> ?_)
 refine zh<|zd<|zg<|zxa (.c (i:=2) rfl (.c (i:=1) rfl (.c (i:=0) rfl .n)))<|zba (OW:=[boxA b1 41 [.bool s,.slice p1 n1 c1],boxA b2 41 [.bool t,.slice p2 n2 c2]]) (O:=[boxA b3 41 [wz.b,wz.l]]) 4 mixed (.then .ret) kr<|e_uw 0 rfl rfl (zc 0 ty41 rfl rfl (.t2 .nil))<|e_uw 2 rfl rfl (zc 1 ty41 rfl rfl (.t2 .nil))<|e_one 1 (zE rfl rfl rfl rfl (.c rfl .n) ce111 (zTa (s:=s) (p:=p1) (n:=n1) (cap:=c1) (l:=l1) (hn:=ass) (hln:=ass)) (.c (j:=0) rfl .n) ?_)
 rintro ⟨p24,c25⟩ -
 dsimp only [aq,nq,cq]
 refine e_one 3 (zE rfl rfl rfl rfl (.c rfl .n) ce111 (zTa (s:=t) (p:=p2) (n:=n2) (cap:=c2) (l:=l2) (hn:=ass) (hln:=ass)) (.c (j:=2) rfl .n) ?_)
 rintro ⟨p26,c27⟩ -
 dsimp only [aq,nq,cq]
 refine e_one 4 (zy kr rfl rfl rfl rfl rfl sz41 rfl (.t2 .nil) ?_)
 refine zbb (zga (i:=1) rfl)<|e_one 5 (zy kr rfl rfl rfl rfl rfl sz41 rfl (.t2 .nil) ?_)
 refine zX kr<|zd<|zg<|za<|e_p (zf yg rfl sz39 rfl rfl)<|e_ru (ze 1 ty39 rfl rfl rfl)<|e_p (zQ yf rfl)<|e_p (zf yg rfl sz39 rfl rfl)<|e_ru (ze 0 ty39 rfl rfl rfl)<|e_p (zQ yf rfl)<|e_p (zI (z:=(((((yd ((ye s l1).natAbs)).length)+((yd ((ye t l2).natAbs)).length)):Nat):Int)) rfl rfl (w64 om))<|zIa rfl rfl (zwb (r:=rI .u32) (k:=(((yd ((ye s l1).natAbs)).length)+((yd ((ye t l2).natAbs)).length))) (x0:=0) (γ0:=()) yf inf121 rfl rfl rfl rfl om om rfl (fun g _=>by exact zH.2 dd) dd) (fun b8 _=> ?_)
 refine e_p (zb rfl)<|zh<|zd<|zg<|zg<|za<|e_p (zb rfl)<|zh<|zd<|zv<|zqa (X:=Nat×(List Int)) (fun x:Nat×(List Int)=>x.1≤(yd (ye s l1).natAbs).length∧x.2.length=(yd (ye s l1).natAbs).length+(yd (ye t l2).natAbs).length∧yz x.2∧(∀k,x.1+(yd (ye t l2).natAbs).length≤k→x.2.getD k 0=0)∧yi x.2=yi ((yd (ye s l1).natAbs).take x.1)*yi (yd (ye t l2).natAbs)) (fun x=>[(6,ya yb ((x.1:Nat):Int)),(5,.slice (some ⟨b8,0,none⟩) (((yd ((ye s l1).natAbs)).length)+((yd ((ye t l2).natAbs)).length)) (((yd ((ye s l1).natAbs)).length)+((yd ((ye t l2).natAbs)).length))),(4,yc (some ⟨b3,0,none⟩)),(3,yc (some ⟨b2,0,none⟩)),(2,yc (some ⟨b1,0,none⟩))]) (fun x=>[rowA 121 (rI .u32) (some ⟨b8,0,none⟩) (((yd ((ye s l1).natAbs)).length)+((yd ((ye t l2).natAbs)).length)) (x.2),boxA b2 41 [.bool (decide ((ye t l2)<0)),.slice p26 ((yd ((ye t l2).natAbs)).length) c27],boxA b1 41 [.bool (decide ((ye s l1)<0)),.slice p24 ((yd ((ye s l1).natAbs)).length) c25],boxA b3 41 [wz.b,wz.l]]) (fun x=>[slF (rI .u32) p26 c27 (yd ((ye t l2).natAbs)),slF (rI .u32) p24 c25 (yd ((ye s l1).natAbs)),slF (rI .u32) p1 c1 l1,slF (rI .u32) p2 c2 l2]) (fun x:Nat×(List Int)=>(yd (ye s l1).natAbs).length - x.1) (0,List.replicate ((yd (ye s l1).natAbs).length+(yd (ye t l2).natAbs).length) 0) (show 0≤(yd (ye s l1).natAbs).length∧(List.replicate ((yd (ye s l1).natAbs).length+(yd (ye t l2).natAbs).length) 0).length=(yd (ye s l1).natAbs).length+(yd (ye t l2).natAbs).length∧yz (List.replicate ((yd (ye s l1).natAbs).length+(yd (ye t l2).natAbs).length) 0)∧(∀k,0+(yd (ye t l2).natAbs).length≤k→(List.replicate ((yd (ye s l1).natAbs).length+(yd (ye t l2).natAbs).length) 0).getD k 0=0)∧yi (List.replicate ((yd (ye s l1).natAbs).length+(yd (ye t l2).natAbs).length) 0)=yi ((yd (ye s l1).natAbs).take 0)*yi (yd (ye t l2).natAbs) from by exact ⟨by omega,by simp,Big.okL_zeros _,fun k _=>Big.getD_zeros _ k,by simp [Big.valL_zeros,yi]⟩) ((.e rfl (by first|rfl|(congr 1;omega)|simp_all) (.of rfl)):SubM _ _) (ho:=((.e (i:=0) rfl (by first|rfl|(congr 1;omega)|simp_all) (.of [0,0,0] rfl)):PickO _ _ _)) ((.of [0,1,2,3] rfl):SelR _ _ _) ?_
 rintro ⟨i,os⟩ hI
 replace hI:i≤(yd (ye s l1).natAbs).length∧os.length=(yd (ye s l1).natAbs).length+(yd (ye t l2).natAbs).length∧yz os∧(∀k,i+(yd (ye t l2).natAbs).length≤k→os.getD k 0=0)∧yi os=yi ((yd (ye s l1).natAbs).take i)*yi (yd (ye t l2).natAbs):=hI
 try dsimp only
 obtain ⟨hi,hol,hok,hz,hv⟩:=hI
 have hg1:=yq hoa i
 refine zg<|zg<|za<|e_mv rfl<|e_p (zf yg rfl sz39 rfl rfl)<|e_ru (ze 2 ty39 rfl rfl rfl)<|e_p (zQ yf rfl)<|e_p (zaa rfl rfl)<|zh<|zd<|zG rfl (fun h9=> ?_) (fun h9=> ?_)
 ·
  refine zt<|zd<|zg<|zv<|zg<|za<|e_p (zb rfl)<|zh<|zd<|zg<|zg<|za<|e_p (zb rfl)<|zh<|zd<|zv<|zqa (X:=Nat×(List Int)×Int) (fun x:Nat×(List Int)×Int=>x.1≤(yd (ye t l2).natAbs).length∧x.2.1.length=(yd (ye s l1).natAbs).length+(yd (ye t l2).natAbs).length∧yz x.2.1∧0≤x.2.2∧x.2.2<1000000000∧(∀k,i+(yd (ye t l2).natAbs).length≤k→x.2.1.getD k 0=0)∧yi x.2.1+yQ (i+x.1)*x.2.2=yi ((yd (ye s l1).natAbs).take i)*yi (yd (ye t l2).natAbs)+yQ i*(yd (ye s l1).natAbs).getD i 0*yi ((yd (ye t l2).natAbs).take x.1)) (fun x=>[(7,.int .u64 (x.2.2)),(8,ya yb ((x.1:Nat):Int)),(6,ya yb ((i:Nat):Int)),(5,.slice (some ⟨b8,0,none⟩) (((yd ((ye s l1).natAbs)).length)+((yd ((ye t l2).natAbs)).length)) (((yd ((ye s l1).natAbs)).length)+((yd ((ye t l2).natAbs)).length))),(4,yc (some ⟨b3,0,none⟩)),(3,yc (some ⟨b2,0,none⟩)),(2,yc (some ⟨b1,0,none⟩))]) (fun x=>[rowA 121 (rI .u32) (some ⟨b8,0,none⟩) (((yd ((ye s l1).natAbs)).length)+((yd ((ye t l2).natAbs)).length)) (x.2.1),boxA b2 41 [.bool (decide ((ye t l2)<0)),.slice p26 ((yd ((ye t l2).natAbs)).length) c27],boxA b1 41 [.bool (decide ((ye s l1)<0)),.slice p24 ((yd ((ye s l1).natAbs)).length) c25],boxA b3 41 [wz.b,wz.l]]) (fun x=>[slF (rI .u32) p26 c27 (yd ((ye t l2).natAbs)),slF (rI .u32) p24 c25 (yd ((ye s l1).natAbs)),slF (rI .u32) p1 c1 l1,slF (rI .u32) p2 c2 l2]) (fun x:Nat×(List Int)×Int=>(yd (ye t l2).natAbs).length - x.1) (0,os,0) (show 0≤(yd (ye t l2).natAbs).length∧os.length=(yd (ye s l1).natAbs).length+(yd (ye t l2).natAbs).length∧yz os∧0≤0∧0<1000000000∧(∀k,i+(yd (ye t l2).natAbs).length≤k→os.getD k 0=0)∧yi os+yQ (i+0)*0=yi ((yd (ye s l1).natAbs).take i)*yi (yd (ye t l2).natAbs)+yQ i*(yd (ye s l1).natAbs).getD i 0*yi ((yd (ye t l2).natAbs).take 0) from by exact ⟨by omega,hol,hok,by decide,by decide,hz,by rw [hv];simp [yi]⟩) ((.c rfl (.e rfl (by first|rfl|(congr 1;omega)|simp_all) (.of rfl))):SubM _ _) (ho:=((.of [0,0,0,0] rfl):PickO _ _ _)) ((.of [0,1,2,3] rfl):SelR _ _ _) ?_
  rintro ⟨j,os2,cy⟩ hJ
  replace hJ:j≤(yd (ye t l2).natAbs).length∧os2.length=(yd (ye s l1).natAbs).length+(yd (ye t l2).natAbs).length∧yz os2∧0≤cy∧cy<1000000000∧(∀k,i+(yd (ye t l2).natAbs).length≤k→os2.getD k 0=0)∧yi os2+yQ (i+j)*cy=yi ((yd (ye s l1).natAbs).take i)*yi (yd (ye t l2).natAbs)+yQ i*(yd (ye s l1).natAbs).getD i 0*yi ((yd (ye t l2).natAbs).take j):=hJ
  try dsimp only
  obtain ⟨hj,hol2,hok2,hcy0,hcy1,hz2,hv2⟩:=hJ
  have hg2:=yq hob j
  have hg3:=yq hok2 (i+j)
  have hpq:=Big.mul_lim hg1 hg2
  refine zg<|zg<|za<|e_mv rfl<|e_p (zf yg rfl sz39 rfl rfl)<|e_ru (ze 1 ty39 rfl rfl rfl)<|e_p (zQ yf rfl)<|e_p (zaa rfl rfl)<|zh<|zd<|zG rfl (fun h10=> ?_) (fun h10=> ?_)
  ·
   refine zt<|zd<|zg<|zv<|zg<|zba (OW:=[]) (O:=[rowA 121 (rI .u32) (some ⟨b8,0,none⟩) (((yd ((ye s l1).natAbs)).length)+((yd ((ye t l2).natAbs)).length)) os2,boxA b2 41 [.bool (decide ((ye t l2)<0)),.slice p26 ((yd ((ye t l2).natAbs)).length) c27],boxA b1 41 [.bool (decide ((ye s l1)<0)),.slice p24 ((yd ((ye s l1).natAbs)).length) c25],boxA b3 41 [wz.b,wz.l]]) 100000 mixed (.then (.block (.then (.then (.block (.then (.block (.then (.then (.block (.then .ret))))))))))) kr<|e_dm 0 rfl rfl rfl<|e_dm 1 rfl rfl rfl<|e_dm 2 rfl rfl rfl<|e_pv 3 rfl rfl (zI (z:=(((i+j):Nat):Int)) rfl rfl (w64 om))<|e_pv 4 rfl rfl (zpa (j:=(i+j)) yf sz121 rfl rfl rfl om)<|d_vl 5 rfl rfl kr kr rfl rfl (zZ 0 (i+j) rfl ty121 rfl rfl (gD (d:=0) om) rfl) (fun _ hok11=> ?_)
   replace hok11:=zH.1 hok11
   refine e_pv 6 rfl rfl (zL (z:=(os2.getD (i+j) 0)) rfl (by rw [yk];rfl) yj (wu64 om))<|e_pv 7 rfl rfl (zf yg rfl sz39 rfl rfl)<|e_u 8 rfl rfl (ze 2 ty39 rfl rfl rfl)<|e_dm 9 rfl rfl rfl<|zca (x0:=((yd ((ye s l1).natAbs)).getD i 0)) 10 rfl rfl kr kr 1 i rfl yf sz121 rfl rfl rfl (by first|rfl|assumption|(simp;omega)|omega) rfl rfl (gD (d:=0) om) (fun b12 o13 hok14=> ?_)
   replace hok14:=zH.1 hok14
   refine e_u 11 rfl rfl (zB (j:=0) 0 ty121 rfl rfl rfl rfl)<|e_pv 12 rfl rfl (zL (z:=((yd ((ye s l1).natAbs)).getD i 0)) rfl (by rw [yk];rfl) yj (wu64 om))<|e_pv 13 rfl rfl (zf yg rfl sz39 rfl rfl)<|e_u 14 rfl rfl (ze 1 ty39 rfl rfl rfl)<|e_dm 15 rfl rfl rfl<|zca (x0:=((yd ((ye t l2).natAbs)).getD j 0)) 16 rfl rfl kr kr 1 j rfl yf sz121 rfl rfl rfl (by first|rfl|assumption|(simp;omega)|omega) rfl rfl (gD (d:=0) om) (fun b15 o16 hok17=> ?_)
   replace hok17:=zH.1 hok17
   refine e_u 17 rfl rfl (zB (j:=0) 0 ty121 rfl rfl rfl rfl)<|e_pv 18 rfl rfl (zL (z:=((yd ((ye t l2).natAbs)).getD j 0)) rfl (by rw [yk];rfl) yj (wu64 om))<|e_pv 19 rfl rfl (zDa (z:=(((yd ((ye s l1).natAbs)).getD i 0)*((yd ((ye t l2).natAbs)).getD j 0))) rfl rfl (wu64 om))<|e_pv 20 rfl rfl (zI (z:=((os2.getD (i+j) 0)+(((yd ((ye s l1).natAbs)).getD i 0)*((yd ((ye t l2).natAbs)).getD j 0)))) rfl rfl (wu64 om))<|e_dm 21 rfl rfl rfl<|e_pv 22 rfl rfl (zI (z:=(((os2.getD (i+j) 0)+(((yd ((ye s l1).natAbs)).getD i 0)*((yd ((ye t l2).natAbs)).getD j 0)))+cy)) rfl rfl (wu64 om))<|e_pv 23 rfl rfl (zb rfl)<|zX kr<|zd<|zg<|za<|e_mv rfl<|e_mv rfl<|e_mv rfl<|e_p (zI (z:=(((i+j):Nat):Int)) rfl rfl (w64 om))<|e_mv rfl<|e_p (zya (z:=((((os2.getD (i+j) 0)+(((yd ((ye s l1).natAbs)).getD i 0)*((yd ((ye t l2).natAbs)).getD j 0)))+cy)%1000000000)) rfl rfl om (remN om om))<|e_p (zL (z:=((((os2.getD (i+j) 0)+(((yd ((ye s l1).natAbs)).getD i 0)*((yd ((ye t l2).natAbs)).getD j 0)))+cy)%1000000000)) rfl (by rw [yj];rfl) yk (wu32 om))<|e_p (zpa (j:=(i+j)) yf sz121 rfl rfl rfl om)<|zLa 0 rfl rfl rfl (zja (j:=(i+j)) (x0:=((((os2.getD (i+j) 0)+(((yd ((ye s l1).natAbs)).getD i 0)*((yd ((ye t l2).natAbs)).getD j 0)))+cy)%1000000000)) (γ0:=()) rfl rfl (by first|omega|(rw [List.length_map];omega)|(simp only [List.length_set];omega)|(simp;done)|(simp;omega)) rfl rfl sz121 (fun _ _=>by exact zH.2 om)) (fun _=> .z) (fun _ _=> ?_)
   refine zh<|zd<|za<|e_mv rfl<|e_p (zob (z:=((((os2.getD (i+j) 0)+(((yd ((ye s l1).natAbs)).getD i 0)*((yd ((ye t l2).natAbs)).getD j 0)))+cy) / 1000000000)) rfl rfl om (by rw [quoN (z:=((((os2.getD (i+j) 0)+(((yd ((ye s l1).natAbs)).getD i 0)*((yd ((ye t l2).natAbs)).getD j 0)))+cy) / 1000000000)) om om];exact wu64 om))<|e_p (zb rfl)<|zh<|zP<|zd<|za<|e_mv rfl<|e_p (zI (z:=(((j+1):Nat):Int)) rfl rfl (w64 om))<|e_p (zb rfl)<|zh<|zha ((j+1),os2.set (i+j) ((os2.getD (i+j) 0+(yd (ye s l1).natAbs).getD i 0*(yd (ye t l2).natAbs).getD j 0+cy)%1000000000),(os2.getD (i+j) 0+(yd (ye s l1).natAbs).getD i 0*(yd (ye t l2).natAbs).getD j 0+cy) / 1000000000) (show (j+1)≤(yd (ye t l2).natAbs).length∧(os2.set (i+j) ((os2.getD (i+j) 0+(yd (ye s l1).natAbs).getD i 0*(yd (ye t l2).natAbs).getD j 0+cy)%1000000000)).length=(yd (ye s l1).natAbs).length+(yd (ye t l2).natAbs).length∧yz (os2.set (i+j) ((os2.getD (i+j) 0+(yd (ye s l1).natAbs).getD i 0*(yd (ye t l2).natAbs).getD j 0+cy)%1000000000))∧0≤((os2.getD (i+j) 0+(yd (ye s l1).natAbs).getD i 0*(yd (ye t l2).natAbs).getD j 0+cy) / 1000000000)∧((os2.getD (i+j) 0+(yd (ye s l1).natAbs).getD i 0*(yd (ye t l2).natAbs).getD j 0+cy) / 1000000000)<1000000000∧(∀k,i+(yd (ye t l2).natAbs).length≤k→(os2.set (i+j) ((os2.getD (i+j) 0+(yd (ye s l1).natAbs).getD i 0*(yd (ye t l2).natAbs).getD j 0+cy)%1000000000)).getD k 0=0)∧yi (os2.set (i+j) ((os2.getD (i+j) 0+(yd (ye s l1).natAbs).getD i 0*(yd (ye t l2).natAbs).getD j 0+cy)%1000000000))+yQ (i+(j+1))*((os2.getD (i+j) 0+(yd (ye s l1).natAbs).getD i 0*(yd (ye t l2).natAbs).getD j 0+cy) / 1000000000)=yi ((yd (ye s l1).natAbs).take i)*yi (yd (ye t l2).natAbs)+yQ i*(yd (ye s l1).natAbs).getD i 0*yi ((yd (ye t l2).natAbs).take (j+1)) from by exact ⟨by omega,by simpa using hol2,Big.okL_set hok2 om om,by omega,by omega,fun k hk=>by rw [Big.getD_set_ne om];exact hz2 k om,Big.mul_step hv2 om om⟩) (by show (yd (ye t l2).natAbs).length - (j+1)<(yd (ye t l2).natAbs).length - j;omega) ((.e rfl (by first|rfl|(congr 1;omega)|simp_all) (.of rfl)):SubM _ _) (ho:=((.e (i:=0) rfl (by first|rfl|(congr 1;omega)|simp_all) (.of [0,0,0] rfl)):PickO _ _ _)) ((.of [2,3,4,5] rfl):SelR _ _ _)
  ·
   have hjb:j=(yd (ye t l2).natAbs).length:=by omega
   subst hjb
   have hv3:=hv2
   refine zla<|zj<|zj<|zr<|zd<|za<|e_mv rfl<|e_mv rfl<|e_p (zf yg rfl sz39 rfl rfl)<|e_ru (ze 1 ty39 rfl rfl rfl)<|e_p (zQ yf rfl)<|e_p (zI (z:=(((i+((yd ((ye t l2).natAbs)).length)):Nat):Int)) rfl rfl (w64 om))<|e_mv rfl<|e_p (zL (z:=cy) rfl (by rw [yj];rfl) yk (wu32 om))<|e_p (zpa (j:=(i+((yd ((ye t l2).natAbs)).length))) yf sz121 rfl rfl rfl om)<|zLa 0 rfl rfl rfl (zja (j:=(i+((yd ((ye t l2).natAbs)).length))) (x0:=cy) (γ0:=()) rfl rfl (by first|omega|(rw [List.length_map];omega)|(simp only [List.length_set];omega)|(simp;done)|(simp;omega)) rfl rfl sz121 (fun _ _=>by exact zH.2 om)) (fun _=> .z) (fun _ _=> ?_)
   refine zh<|zP<|zd<|za<|e_mv rfl<|e_p (zI (z:=(((i+1):Nat):Int)) rfl rfl (w64 om))<|e_p (zb rfl)<|zh<|zha ((i+1),os2.set (i+(yd (ye t l2).natAbs).length) cy) (show (i+1)≤(yd (ye s l1).natAbs).length∧(os2.set (i+(yd (ye t l2).natAbs).length) cy).length=(yd (ye s l1).natAbs).length+(yd (ye t l2).natAbs).length∧yz (os2.set (i+(yd (ye t l2).natAbs).length) cy)∧(∀k,(i+1)+(yd (ye t l2).natAbs).length≤k→(os2.set (i+(yd (ye t l2).natAbs).length) cy).getD k 0=0)∧yi (os2.set (i+(yd (ye t l2).natAbs).length) cy)=yi ((yd (ye s l1).natAbs).take (i+1))*yi (yd (ye t l2).natAbs) from by exact ⟨by omega,by simpa using hol2,Big.okL_set hok2 om om,fun k hk=>by rw [Big.getD_set_ne om];exact hz2 k om,Big.mul_round hv3 om (hz2 _ (Nat.le_refl _))⟩) (by show (yd (ye s l1).natAbs).length - (i+1)<(yd (ye s l1).natAbs).length - i;omega) ((.of rfl):SubM _ _) (ho:=((.e (i:=0) rfl (by first|rfl|(congr 1;omega)|simp_all) (.of [0,0,0] rfl)):PickO _ _ _)) ((.of [0,1,2,3] rfl):SelR _ _ _)
 ·
  have hia:i=(yd (ye s l1).natAbs).length:=by omega
  have hfin:yA (decide (decide (ye s l1<0)≠decide (ye t l2<0))) (yi os)=ye s l1*ye t l2:=by rw [hv,hia,List.take_length,yD,yD,←Int.natCast_mul,Big.sg_mul,Big.sg_big,Big.sg_big]
  refine zla<|zj<|zj<|zr<|zd<|zg<|za<|e_p (zf yg rfl sz4 rfl rfl)<|e_ru (ze 2 ty4 rfl rfl rfl)<|e_p (zf yg rfl sz4 rfl rfl)<|e_ru (ze 1 ty4 rfl rfl rfl)<|e_p (zRa yO rfl rfl)<|e_mv rfl<|zma 0 rfl .z<|zJ rfl rfl (.c rfl (.c rfl .n)) ce112 (zPa (s:=decide (decide ((ye s l1)<0)≠decide ((ye t l2)<0))) (p:=some ⟨b8,0,none⟩) (n:=(((yd ((ye s l1).natAbs)).length)+((yd ((ye t l2).natAbs)).length))) (cap:=(((yd ((ye s l1).natAbs)).length)+((yd ((ye t l2).natAbs)).length))) (l:=os) (hn:=by first|rfl|assumption|omega|(unfold ym;omega)|(simp;done)|(simp;omega)|(simp_all;done)) (ho:=by exact hok) (hln:=by first|rfl|assumption|omega|(unfold ym;omega)|(simp;done)|(simp;omega)|(simp_all;done))) (.c (j:=0) rfl .n) ?_
  rintro ⟨p218,c219⟩ -
  dsimp only [aq,nq,cq]
  refine zo 3 rfl rfl rfl rfl rfl sz41 rfl (.t2 .nil) (.s (.s (.s .z)))<|zh<|zd<|zK ?_
  exact zx Tryz.results73 (p218,c219) trivial (zD 3 ty41 rfl rfl (.t2 .nil)) (by rw [hfin]) (ho:=(.n:PickO _ _ _)) ((.e (j:=0) rfl (by rw [hfin]) .n):SelR _ _ _)
theorem zqc {x1:Int} {x2:Int} {p1:Option Addr} {c1:Nat} {p2:Option Addr} {c2:Nat} (hb1:ym x1≤1099511627776) (hb2:ym x2≤1099511627776):Con yh 73 [.agg #[.bool (decide ((x1)<0)),.slice (p1) ((yd ((x1).natAbs)).length) (c1)],.agg #[.bool (decide ((x2)<0)),.slice (p2) ((yd ((x2).natAbs)).length) (c2)]] [] [slF (rI .u32) (p1) (c1) (yd ((x1).natAbs)),slF (rI .u32) (p2) (c2) (yd ((x2).natAbs))] (Y:=(Option Addr)×(Nat)) (fun y=>True) (fun y=> .agg #[.bool (decide ((x1*x2)<0)),.slice (y.1) ((yd ((x1*x2).natAbs)).length) (y.2)]) (fun y=>[]) (fun y=>[slF (rI .u32) (y.1) (y.2) (yd ((x1*x2).natAbs))]):=by
  have h:= @zgg (decide ((x1)<0)) p1 (yd (x1).natAbs).length c1 (yd (x1).natAbs) (decide ((x2)<0)) p2 (yd (x2).natAbs).length c2 (yd (x2).natAbs) rfl rfl hb1 hb2
  rw [yy,yy] at h
  exact h
theorem zSb {w1:Wd} {w2:Wd} {x1:Int} {x2:Int} (hb1:ym x1≤1099511627776) (hb2:ym x2≤1099511627776):Con yh 73 [.agg #[w1.b,w1.l],.agg #[w2.b,w2.l]] [] [zF w1 (x1),zF w2 (x2)] (Y:=(Wd)) (fun y=>True) (fun y=> .agg #[y.b,y.l]) (fun y=>[]) (fun y=>[zF y (x1*x2)]):=by
  exact zYb (zCc (fun p1 c1 p2 c2=>zqc hb1 hb2))
end Go.Proofs.YtjcpbhlijoigfaaGreat.Sp
namespace Go.Proofs.YtjcpbhlijoigfaaGreat.Sp
open Go
set_option linter.unusedVariables false
set_option maxRecDepth 100000
set_option maxHeartbeats 8000000
theorem zdc {a:Nat} {d:Nat} {p0:Option Addr} {cap:Nat} (hb:(yd a).length≤1099511627776) (hd:d<1000000000):Con yh 145 [.slice p0 ((yd a).length) cap,.int .u64 ((d:Nat):Int)] [] [slF (rI .u32) p0 cap (yd a)] (Y:=(Option Addr)×Nat) (fun y=>True) (fun y=> .slice (y.1) ((yd (a*d)).length) (y.2)) (fun y=>[]) (fun y=>[slF (rI .u32) (y.1) (y.2) (yd (a*d))]):=by
 refine zn Tryz.func145 rfl rfl rfl (fun c=> ?_)
 show RunC _ _ _ _ _ [(0,.slice p0 ((yd a).length) cap),(1,.int .u64 ((d:Nat):Int))] [] [slF (rI .u32) p0 cap (yd a)]
 refine zia 0 rfl (fun hL0=> ?_)
 refine zg<|za<|e_p (zb rfl)<|zh<|zd<|zg<|za<|zIa rfl rfl (zta (rI .u32) yf inf121) (fun b1 _=> ?_)
 refine e_p (zb rfl)<|zh<|zd<|zg<|za<|e_p (zb rfl)<|zh<|zd<|zg<|zg<|za<|e_p (zb rfl)<|zh<|zd<|zv<|zqa (X:=Nat×(Option Addr)×Nat×(List Int)×Int) (fun x:Nat×(Option Addr)×Nat×(List Int)×Int=>Big.ScI (yd a) (d:Int) x.1 x.2.2.2.1 x.2.2.2.2) (fun x=>[(6,.int .u64 (x.2.2.2.2)),(5,.slice (x.2.1) (x.2.2.2.1.length) (x.2.2.1)),(7,ya yb ((x.1:Nat):Int)),(4,.slice none 0 0),(0,.slice p0 ((yd a).length) cap),(1,.int .u64 ((d:Nat):Int))]) (fun x=>[rowA 121 (rI .u32) (x.2.1) (x.2.2.1) (x.2.2.2.1)]) (fun x=>[slF (rI .u32) p0 cap (yd a)]) (fun x:Nat×(Option Addr)×Nat×(List Int)×Int=>(yd a).length - x.1) (0,some ⟨b1,0,none⟩,0,[],0) (show Big.ScI (yd a) (d:Int) 0 ([]) 0 from by exact Big.ScI.start _ _) ((.c rfl (.e rfl (by first|rfl|(congr 1;omega)|simp_all) (.e rfl (by first|rfl|(congr 1;omega)|simp_all) (.of rfl)))):SubM _ _) (ho:=((.c (i:=0) rfl .n):PickO _ _ _)) ((.c (j:=0) rfl .n):SelR _ _ _) ?_
 rintro ⟨i,p,c,os,cy⟩ hI
 replace hI:Big.ScI (yd a) (d:Int) i os cy:=hI
 try dsimp only
 have hi:=hI.le
 have hol:=hI.len
 have hc0:=hI.c0
 have hc1:=hI.c1
 have hg:=yq (yo a) i
 have hsl:=Big.sc_lim hg (show 0≤(d:Int)∧(d:Int)<1000000000 by omega) ⟨hc0,hc1⟩
 refine zg<|zg<|za<|e_mv rfl<|e_mv rfl<|e_p (zQ yf rfl)<|e_p (zaa rfl rfl)<|zh<|zd<|zG rfl (fun h2=> ?_) (fun h2=> ?_)
 ·
  refine zt<|zd<|zg<|zv<|zg<|za<|e_mv rfl<|e_mv rfl<|zY (x0:=((yd a).getD i 0)) 0 i rfl yf sz121 rfl rfl rfl (by first|rfl|assumption|(simp;done)|(simp;omega)|omega) rfl rfl (gD (d:=0) om) (fun b3 o4 hok5=> ?_)
  replace hok5:=zH.1 hok5
  refine e_ru (zB (j:=0) 0 ty121 rfl rfl rfl rfl)<|e_p (zL (z:=((yd a).getD i 0)) rfl (by rw [yk];rfl) yj (wu64 om))<|e_mv rfl<|e_p (zDa (z:=(((yd a).getD i 0)*((d:Nat):Int))) rfl rfl (wu64 om))<|e_mv rfl<|e_p (zI (z:=((((yd a).getD i 0)*((d:Nat):Int))+cy)) rfl rfl (wu64 om))<|e_p (zb rfl)<|zh<|zd<|zg<|za<|e_mv rfl<|e_mv rfl<|e_p (zya (z:=(((((yd a).getD i 0)*((d:Nat):Int))+cy)%1000000000)) rfl rfl om (remN om om))<|e_p (zL (z:=(((((yd a).getD i 0)*((d:Nat):Int))+cy)%1000000000)) rfl (by rw [yj];rfl) yk (wu32 om))<|zIa rfl rfl (zT (enc:=fun z:Int=>[.int .u32 z]) (ok:=InK .u32) (h1:=fun _=>rfl) (h2:=fun _=>rfl) (k:=1) yf inf121 rfl dd dd dd (.c (x:=(((((yd a).getD i 0)*((d:Nat):Int))+cy)%1000000000)) rfl rfl (fun _ _=>by exact zH.2 om) .n)) (fun b6 _=> ?_)
  refine zma 0 rfl .z<|zLa 1 rfl rfl rfl (zra 0 rfl yf inf121 dd rfl rfl (by first|rfl|assumption|(simp;done)|(simp;omega)|omega) rfl (by first|rfl|assumption|(simp;done)|(simp;omega)|omega) om om) (fun _=>(.s .z)) ?_
  rintro ⟨p7,c8⟩ -
  dsimp only [aq,nq,cq]
  refine e_p (zb rfl)<|zh<|zd<|za<|e_mv rfl<|e_p (zob (z:=(((((yd a).getD i 0)*((d:Nat):Int))+cy) / 1000000000)) rfl rfl om (by rw [quoN (z:=(((((yd a).getD i 0)*((d:Nat):Int))+cy) / 1000000000)) om om];exact wu64 om))<|e_p (zb rfl)<|zh<|zP<|zd<|za<|e_mv rfl<|e_p (zI (z:=(((i+1):Nat):Int)) rfl rfl (w64 om))<|e_p (zb rfl)<|zh<|zha ((i+1),p7,c8,os++[((yd a).getD i 0*(d:Int)+cy)%1000000000],((yd a).getD i 0*(d:Int)+cy) / 1000000000) (show Big.ScI (yd a) (d:Int) (i+1) (os++[((yd a).getD i 0*(d:Int)+cy)%1000000000]) (((yd a).getD i 0*(d:Int)+cy) / 1000000000) from by exact hI.step (yo a) om om) (by show (yd a).length - (i+1)<(yd a).length - i;omega) ((.e rfl (by first|rfl|(congr 1;omega)|simp_all) (.e rfl (by simp) (.of rfl))):SubM _ _) (ho:=((.e (i:=1) rfl (by first|rfl|(congr 1;omega)|simp_all) .n):PickO _ _ _)) ((.c (j:=2) rfl .n):SelR _ _ _)
 ·
  obtain ⟨hok2,hfin⟩:=hI.fin om
  refine zla<|zj<|zj<|zr<|zd<|zg<|za<|e_mv rfl<|e_mv rfl<|e_p (zL (z:=cy) rfl (by rw [yj];rfl) yk (wu32 om))<|zIa rfl rfl (zT (enc:=fun z:Int=>[.int .u32 z]) (ok:=InK .u32) (h1:=fun _=>rfl) (h2:=fun _=>rfl) (k:=1) yf inf121 rfl dd dd dd (.c (x:=cy) rfl rfl (fun _ _=>by exact zH.2 om) .n)) (fun b9 _=> ?_)
  refine zma 0 rfl .z<|zLa 1 rfl rfl rfl (zra 0 rfl yf inf121 dd rfl rfl (by first|rfl|assumption|(simp;done)|(simp;omega)|omega) rfl (by first|rfl|assumption|(simp;done)|(simp;omega)|omega) om om) (fun _=>(.s .z)) ?_
  rintro ⟨p10,c11⟩ -
  dsimp only [aq,nq,cq]
  refine zma 1 rfl (.s .z)<|zJ rfl rfl (.c rfl (.c rfl .n)) ce112 (zPa (s:=false) (p:=p10) (n:=os.length+1) (cap:=c11) (l:=(os++([cy]))) (hn:=by first|rfl|omega|(simp;done)|(simp;omega)) (ho:=by exact hok2) (hln:=by first|rfl|omega|(simp;done)|(simp;omega))) (.c (j:=0) rfl .n) ?_
  rintro ⟨p212,c213⟩ -
  dsimp only [aq,nq,cq]
  refine e_p (zEa yg rfl ty39 rfl rfl)<|e_p (zb rfl)<|zh<|zd<|zK ?_
  have hz:(yA false (yi (os++[cy]))).natAbs=a*d:=by rw [hfin];exact Int.natAbs_natCast _
  exact zx Tryz.results145 (p212,c213) trivial (zk rfl) (by rw [hz]) (ho:=(.n:PickO _ _ _)) ((.e (j:=0) rfl (by rw [hz]) .n):SelR _ _ _)
theorem zMd {a:Nat} {d:Nat} {p0:Option Addr} {cap:Nat} (hb:(yd a).length≤1099511627776) (hd:d<1000000000):Con yh 146 [.slice p0 ((yd a).length) cap,.int .u32 ((d:Nat):Int)] [] [slF (rI .u32) p0 cap (yd a)] (Y:=(Option Addr)×Nat) (fun y=>True) (fun y=> .slice (y.1) ((yd (a*1000000000+d)).length) (y.2)) (fun y=>[]) (fun y=>[slF (rI .u32) (y.1) (y.2) (yd (a*1000000000+d))]):=by
 refine zn Tryz.func146 rfl rfl rfl (fun c=> ?_)
 show RunC _ _ _ _ _ [(0,.slice p0 ((yd a).length) cap),(1,.int .u32 ((d:Nat):Int))] [] [slF (rI .u32) p0 cap (yd a)]
 refine zia 0 rfl (fun hL0=> ?_)
 have hok2:yz ([((d:Nat):Int)]++yd a):=Big.okL_cons.2 ⟨by omega,yo a⟩
 have hz:(yA false (yi (((d:Nat):Int) :: yd a))).natAbs=a*1000000000+d:=by rw [yU (yG (l:=((d:Nat):Int) :: yd a) hok2)];simp only [yi,yD];omega
 refine zg<|za<|e_p (zb rfl)<|zh<|zd<|zg<|za<|e_mv rfl<|zIa rfl rfl (zT (enc:=fun z:Int=>[.int .u32 z]) (ok:=InK .u32) (h1:=fun _=>rfl) (h2:=fun _=>rfl) (k:=1) yf inf121 rfl dd dd dd (.c (x:=((d:Nat):Int)) rfl rfl (fun _ _=>by exact zH.2 om) .n)) (fun b1 _=> ?_)
 refine e_mv rfl<|zLa 0 rfl rfl rfl (zra 0 rfl yf inf121 dd rfl rfl (by first|rfl|assumption|(simp;done)|(simp;omega)|omega) rfl (by first|rfl|assumption|(simp;done)|(simp;omega)|omega) om om) (fun _=> .z) ?_
 rintro ⟨p2,c3⟩ -
 dsimp only [aq,nq,cq]
 refine zma 0 rfl .z<|zJ rfl rfl (.c rfl (.c rfl .n)) ce112 (zPa (s:=false) (p:=p2) (n:=1+((yd a).length)) (cap:=c3) (l:=(([((d:Nat):Int)])++(yd a))) (hn:=by first|rfl|omega|(simp;done)|(simp;omega)) (ho:=by exact hok2) (hln:=by first|rfl|omega|(simp;done)|(simp;omega))) (.c (j:=0) rfl .n) ?_
 rintro ⟨p24,c25⟩ -
 dsimp only [aq,nq,cq]
 refine e_p (zEa yg rfl ty39 rfl rfl)<|e_p (zb rfl)<|zh<|zd<|zK ?_
 exact zx Tryz.results146 (p24,c25) trivial (zk rfl) (by rw [hz]) (ho:=(.n:PickO _ _ _)) ((.e (j:=0) rfl (by rw [hz]) .n):SelR _ _ _)
theorem zgd {a:Nat} {mm:Nat} {p:Option Addr} {cap:Nat} (hb:(yd a).length≤1099511627776) (hm0:0<mm) (hm1:mm≤1000000000):Con yh 144 [.slice p ((yd a).length) cap,.int .u64 ((mm:Nat):Int)] [] [slF (rI .u32) p cap (yd a)] (Y:=(Option Addr)×Nat) (fun y=>True) (fun y=> .tuple #[.slice (y.1) ((yd (a / mm)).length) (y.2),.int .u64 (((a%mm):Nat):Int)]) (fun y=>[]) (fun y=>[slF (rI .u32) (y.1) (y.2) (yd (a / mm))]):=by
 refine zn Tryz.func144 rfl rfl rfl (fun c=> ?_)
 show RunC _ _ _ _ _ [(0,.slice p ((yd a).length) cap),(1,.int .u64 ((mm:Nat):Int))] [] [slF (rI .u32) p cap (yd a)]
 refine zia 0 rfl (fun hL0=> ?_)
 refine zg<|za<|e_p (zb rfl)<|e_p (zb rfl)<|zh<|zd<|zg<|za<|e_mv rfl<|e_p (zQ yf rfl)<|zIa rfl rfl (zwb (r:=rI .u32) (k:=(yd a).length) (x0:=0) (γ0:=()) yf inf121 rfl rfl rfl rfl om om rfl (fun g _=>by exact zH.2 dd) dd) (fun b1 _=> ?_)
 refine e_p (zb rfl)<|zh<|zd<|zg<|za<|e_p (zb rfl)<|zh<|zd<|zg<|zg<|za<|e_mv rfl<|e_p (zQ yf rfl)<|e_p (zoa (z:=((((yd a).length:Nat):Int) - 1)) rfl rfl (w64 om))<|e_p (zb rfl)<|zh<|zd<|zv<|zqa (X:=Nat×(List Int)×(List Int)×Int) (fun x:Nat×(List Int)×(List Int)×Int=>x.2.1=List.replicate x.1 0++x.2.2.1∧Big.ShI (yd a) (mm:Int) x.1 x.2.2.1 x.2.2.2) (fun x=>[(7,.int .u64 (x.2.2.2)),(8,ya yb (((x.1:Nat):Int) - 1)),(6,.slice (some ⟨b1,0,none⟩) ((yd a).length) ((yd a).length)),(5,.int .u64 0),(4,.slice none 0 0),(0,.slice p ((yd a).length) cap),(1,.int .u64 ((mm:Nat):Int))]) (fun x=>[rowA 121 (rI .u32) (some ⟨b1,0,none⟩) ((yd a).length) (x.2.1)]) (fun x=>[slF (rI .u32) p cap (yd a)]) (fun x:Nat×(List Int)×(List Int)×Int=>x.1) ((yd a).length,(List.replicate (yd a).length 0),([]:List Int),(0:Int)) (show (List.replicate (yd a).length 0)=List.replicate ((yd a).length) 0++([]:List Int)∧Big.ShI (yd a) (mm:Int) ((yd a).length) ([]:List Int) (0:Int) from by exact ⟨by simp,Big.ShI.start om⟩) ((.e rfl (by first|rfl|(congr 1;omega)|simp_all) (.e rfl (by first|rfl|(congr 1;omega)|simp_all) (.of rfl))):SubM _ _) (ho:=((.e (i:=0) rfl (by first|rfl|(congr 1;omega)|simp_all) .n):PickO _ _ _)) ((.c (j:=0) rfl .n):SelR _ _ _) ?_
 rintro ⟨jj,os,qs,z⟩ hI
 replace hI:os=List.replicate jj 0++qs∧Big.ShI (yd a) (mm:Int) jj qs z:=hI
 try dsimp only
 obtain ⟨hos,hS⟩:=hI
 have hz0:=hS.r0
 have hz1:=hS.r1
 have hkle:=hS.le
 refine zg<|zg<|za<|e_mv rfl<|e_p (zGa rfl rfl)<|zh<|zd<|zG rfl (fun h2=> ?_) (fun h2=> ?_)
 ·
  obtain ⟨k,rfl⟩:∃k,jj=k+1:=⟨jj - 1,by omega⟩
  have e3:(((((k+1):Nat):Int) - 1):Int)=((k:Nat):Int):=by omega
  rw [e3]
  have hosl:os.length=(yd a).length:=by rw [hos,List.length_append,List.length_replicate,hS.len];omega
  have hg:=yq (yo a) k
  have hdg:=Big.sh_digit hz0 hz1 hg
  have hrm:=Int.emod_lt_of_pos (z*1000000000+(yd a).getD k 0) (show 0<(mm:Int) by omega)
  have hrm0:=Int.emod_nonneg (z*1000000000+(yd a).getD k 0) (show (mm:Int)≠0 by omega)
  refine zt<|zd<|zg<|zv<|zg<|za<|e_mv rfl<|e_p (zDa (z:=(z*1000000000)) rfl rfl (wu64 om))<|e_mv rfl<|e_mv rfl<|zY (x0:=((yd a).getD k 0)) 0 k rfl yf sz121 rfl rfl rfl (by first|rfl|assumption|(simp;done)|(simp;omega)|omega) rfl rfl (gD (d:=0) om) (fun b4 o5 hok6=> ?_)
  replace hok6:=zH.1 hok6
  refine e_ru (zB (j:=0) 0 ty121 rfl rfl rfl rfl)<|e_p (zL (z:=((yd a).getD k 0)) rfl (by rw [yk];rfl) yj (wu64 om))<|e_p (zI (z:=((z*1000000000)+((yd a).getD k 0))) rfl rfl (wu64 om))<|e_p (zb rfl)<|zh<|zd<|zg<|za<|e_mv rfl<|e_mv rfl<|e_mv rfl<|e_mv rfl<|e_p (zob (z:=(((z*1000000000)+((yd a).getD k 0)) / ((mm:Nat):Int))) rfl rfl om (by rw [quoN (z:=(((z*1000000000)+((yd a).getD k 0)) / ((mm:Nat):Int))) om om];exact wu64 om))<|e_p (zL (z:=(((z*1000000000)+((yd a).getD k 0)) / ((mm:Nat):Int))) rfl (by rw [yj];rfl) yk (wu32 om))<|e_p (zpa (j:=k) yf sz121 rfl rfl rfl om)<|zLa 0 rfl rfl rfl (zja (j:=k) (x0:=(((z*1000000000)+((yd a).getD k 0)) / ((mm:Nat):Int))) (γ0:=()) rfl rfl (by first|omega|(rw [List.length_map];omega)|(simp only [List.length_set];omega)|(simp;done)|(simp;omega)) rfl rfl sz121 (fun _ _=>by exact zH.2 om)) (fun _=> .z) (fun _ _=> ?_)
  refine zh<|zd<|za<|e_mv rfl<|e_mv rfl<|e_p (zya (z:=(((z*1000000000)+((yd a).getD k 0))%((mm:Nat):Int))) rfl rfl om (remN om om))<|e_p (zb rfl)<|zh<|zP<|zd<|za<|e_mv rfl<|e_p (zoa (z:=(((k:Nat):Int) - 1)) rfl rfl (w64 om))<|e_p (zb rfl)<|zh<|zha (k,(os.set k (((z*1000000000)+((yd a).getD k 0)) / ((mm:Nat):Int))),((z*1000000000+(yd a).getD k 0) / (mm:Int) :: qs),((z*1000000000+(yd a).getD k 0)%(mm:Int))) (show (os.set k (((z*1000000000)+((yd a).getD k 0)) / ((mm:Nat):Int)))=List.replicate k 0++((z*1000000000+(yd a).getD k 0) / (mm:Int) :: qs)∧Big.ShI (yd a) (mm:Int) k ((z*1000000000+(yd a).getD k 0) / (mm:Int) :: qs) ((z*1000000000+(yd a).getD k 0)%(mm:Int)) from by exact ⟨by rw [hos];exact Big.pad_set _,hS.step (yo a)⟩) (by show k<k+1;omega) ((.e rfl (by first|rfl|(congr 1;omega)|simp_all) (.of rfl)):SubM _ _) (ho:=((.c (i:=0) rfl .n):PickO _ _ _)) ((.c (j:=1) rfl .n):SelR _ _ _)
 ·
  have hj0:jj=0:=by omega
  have hS0:Big.ShI (yd a) (mm:Int) 0 qs z:=hj0 ▸ hS
  obtain ⟨hf1,hf2⟩:=hS0.fin
  have hoq:os=qs:=by rw [hos,hj0];rfl
  have hok2:yz os:=by rw [hoq];exact hS.ok
  have hosl:os.length=(yd a).length:=by rw [hoq,hS0.len];omega
  have hz9:(yA false (yi os)).natAbs=a / mm:=by rw [hoq,yU (yG hS.ok),←Big.valL_trim,hf1,yD];exact Int.toNat_natCast _
  refine zla<|zj<|zj<|zr<|zd<|zg<|za<|e_mv rfl<|zma 0 rfl .z<|zJ rfl rfl (.c rfl (.c rfl .n)) ce112 (zPa (s:=false) (p:=some ⟨b1,0,none⟩) (n:=(yd a).length) (cap:=(yd a).length) (l:=os) (hn:=by first|rfl|omega|(simp;done)|(simp;omega)) (ho:=by exact hok2) (hln:=by first|rfl|omega|(simp;done)|(simp;omega))) (.c (j:=0) rfl .n) ?_
  rintro ⟨p27,c28⟩ -
  dsimp only [aq,nq,cq]
  refine e_p (zEa yg rfl ty39 rfl rfl)<|e_mv rfl<|e_p (zb rfl)<|e_p (zb rfl)<|zh<|zd<|zK ?_
  exact zAa Tryz.results144 (p27,c28) trivial (zk rfl) (zk rfl) (by rw [hz9,hf2]) (ho:=(.n:PickO _ _ _)) ((.e (j:=0) rfl (by rw [hz9]) .n):SelR _ _ _)
theorem zNd {a:Nat} {p:Option Addr} {cap:Nat} (hb:(yd a).length≤2):Con yh 132 [.slice p ((yd a).length) cap] [] [slF (rI .u32) p cap (yd a)] (Y:=Unit) (fun y=>True) (fun y=> .int .u64 ((a:Nat):Int)) (fun y=>[]) (fun y=>[]):=by
 refine zn Tryz.func132 rfl rfl rfl (fun c=> ?_)
 show RunC _ _ _ _ _ [(0,.slice p ((yd a).length) cap)] [] [slF (rI .u32) p cap (yd a)]
 refine zia 0 rfl (fun hL0=> ?_)
 have hpv:=Big.pair_val hb
 have hg0:=yq (yo a) 0
 have hg1:=yq (yo a) 1
 refine zg<|za<|e_p (zb rfl)<|zh<|zd<|zg<|za<|e_mv rfl<|zN rfl rfl (.c rfl (.c rfl .n)) ce143 (zdb (p:=p) (n:=(yd a).length) (cap:=cap) (l:=yd a) (i:=1) (hn:=cbb) (hi:=cbb)) (.c (j:=0) rfl .n)<|e_p (zDa (z:=((yd a).getD 1 0*1000000000)) rfl rfl (wu64 om))<|e_mv rfl<|zN rfl rfl (.c rfl (.c rfl .n)) ce143 (zdb (p:=p) (n:=(yd a).length) (cap:=cap) (l:=yd a) (i:=0) (hn:=cbb) (hi:=cbb)) (.c (j:=0) rfl .n)<|e_p (zI (z:=(((yd a).getD 1 0*1000000000)+(yd a).getD 0 0)) rfl rfl (wu64 om))<|e_p (zb rfl)<|zh<|zd<|zK ?_
 exact zx Tryz.results132 () trivial (zk rfl) (by rw [hpv]) (ho:=(.n:PickO _ _ _)) (.n:SelR _ _ _)
end Go.Proofs.YtjcpbhlijoigfaaGreat.Sp
namespace Go.Proofs.YtjcpbhlijoigfaaGreat.Sp
open Go
set_option linter.unusedVariables false
set_option maxRecDepth 100000
set_option maxHeartbeats 8000000
theorem zhd {a:Nat} {b:Nat} {p1:Option Addr} {c1:Nat} {p2:Option Addr} {c2:Nat} (hb1:(yd a).length≤549755813888) (hb2:(yd b).length≤549755813888) (hb0:0<b):Con yh 131 [.slice p1 ((yd a).length) c1,.slice p2 ((yd b).length) c2] [] [slF (rI .u32) p1 c1 (yd a),slF (rI .u32) p2 c2 (yd b)] (Y:=(Option Addr)×Nat×(Option Addr)×Nat) (fun y=>True) (fun y=> .tuple #[.slice (y.1) ((yd (a / b)).length) (y.2.1),.slice (y.2.2.1) ((yd (a%b)).length) (y.2.2.2)]) (fun y=>[]) (fun y=>[slF (rI .u32) (y.1) (y.2.1) (yd (a / b)),slF (rI .u32) (y.2.2.1) (y.2.2.2) (yd (a%b))]):=by
 refine zn Tryz.func131 rfl rfl rfl (fun c=> ?_)
 show RunC _ _ _ _ _ [(0,.slice p1 ((yd a).length) c1),(1,.slice p2 ((yd b).length) c2)] [] [slF (rI .u32) p1 c1 (yd a),slF (rI .u32) p2 c2 (yd b)]
 refine zia 0 rfl (fun hL0=> ?_)
 refine zia 1 rfl (fun hL1=> ?_)
 have hln0:=Big.znf hb0
 have hob:=yq (yo b) 0
 have hob1:=yq (yo b) ((yd b).length - 1)
 have hdv:=yB (Nat.div_le_self a b)
 have hdm:=Nat.mod_lt a hb0
 refine zg<|za<|e_p (zb rfl)<|e_p (zb rfl)<|zh<|zd<|zg<|za<|e_mv rfl<|e_p (zQ yf rfl)<|e_p (zb rfl)<|zh<|zd<|zg<|zg<|za<|e_mv rfl<|e_p (zCa rfl rfl)<|zh<|zd<|zG rfl (fun hl1=> ?_) (fun hl1=> ?_)
 ·
  have hbd:=Big.one_digit (by omega:(yd b).length=1)
  have hbl:b<1000000000:=by omega
  have hokt:yz [((a%b:Nat):Int)]:=Big.okL_cons.2 ⟨by omega,Big.okL_nil⟩
  have hz3:=Big.made_nat hokt (show yi [((a%b:Nat):Int)]=((a%b:Nat):Int) by simp only [yi];omega)
  refine zg<|za<|e_mv rfl<|e_mv rfl<|zY (x0:=((yd b).getD 0 0)) 1 0 rfl yf sz121 rfl rfl rfl (by first|rfl|assumption|(simp;done)|(simp;omega)|omega) rfl rfl (gD (d:=0) om) (fun b1 o2 hok3=> ?_)
  replace hok3:=zH.1 hok3
  refine e_ru (zB (j:=0) 0 ty121 rfl rfl rfl rfl)<|e_p (zL (z:=((yd b).getD 0 0)) rfl (by rw [yk];rfl) yj (wu64 om)) ?_
  have e4:(((yd b).getD 0 0):Int)=((b:Nat):Int):=by exact hbd
  rw [e4]
  refine zJ rfl rfl (.c rfl (.c rfl .n)) ce144 (zgd (a:=a) (mm:=b) (p:=p1) (cap:=c1) (hb:=by first|rfl|assumption|omega|(simp;done)) (hm0:=ass) (hm1:=by first|rfl|assumption|omega|(simp;done))) (.c (j:=1) rfl .n) ?_
  rintro ⟨p25,c26⟩ -
  dsimp only [aq,nq,cq]
  refine e_mv rfl<|e_p (zC rfl rfl)<|e_p (zC rfl rfl)<|e_p (zb rfl)<|e_p (zb rfl)<|zh<|zd<|zg<|za<|e_mv rfl<|e_mv rfl<|e_p (zL (z:=(((a%b):Nat):Int)) rfl (by rw [yj];rfl) yk (wu32 om))<|zIa rfl rfl (zT (enc:=fun z:Int=>[.int .u32 z]) (ok:=InK .u32) (h1:=fun _=>rfl) (h2:=fun _=>rfl) (k:=1) yf inf121 rfl dd dd dd (.c (x:=(((a%b):Nat):Int)) rfl rfl (fun _ _=>by exact zH.2 om) .n)) (fun b7 _=> ?_)
  refine zma 0 rfl .z<|zJ rfl rfl (.c rfl (.c rfl .n)) ce112 (zPa (s:=false) (p:=some ⟨b7,0,none⟩) (n:=1) (cap:=1) (l:=[(((a%b):Nat):Int)]) (hn:=by first|rfl|omega|(simp;done)|(simp;omega)) (ho:=by exact hokt) (hln:=by first|rfl|omega|(simp;done)|(simp;omega))) (.c (j:=0) rfl .n) ?_
  rintro ⟨p28,c29⟩ -
  dsimp only [aq,nq,cq]
  refine e_p (zEa yg rfl ty39 rfl rfl)<|e_p (zb rfl)<|e_p (zb rfl)<|zh<|zd<|zK<|zi ?_
  exact zAa Tryz.results131 (p25,c26,p28,c29) trivial (zk rfl) (zk rfl) (by rw [hz3]) (ho:=(.n:PickO _ _ _)) ((.c (j:=2) rfl (.e (j:=0) rfl (by rw [hz3]) .n)):SelR _ _ _)
 ·
  refine zt<|zd<|zg<|zg<|za<|e_mv rfl<|e_mv rfl<|zN rfl rfl (.c rfl (.c rfl .n)) ce129 (zWc (a:=a) (b:=b) (p1:=p1) (c1:=c1) (p2:=p2) (c2:=c2)) (.c (j:=0) rfl (.c (j:=1) rfl .n))<|e_p (zaa rfl rfl)<|zh<|zd<|zG rfl (fun hlt=> ?_) (fun hlt=> ?_)
  ·
   have hab9:¬(b:Int)≤a:=fun h=>by have:=yS.2 h;omega
   have hab:a<b:=by omega
   refine zg<|za<|zIa rfl rfl (zta (rI .u32) yf inf121) (fun b10 _=> ?_)
   refine e_mv rfl<|e_p (zb rfl)<|e_p (zb rfl)<|zh<|zd<|zK<|zi ?_
   have hz1:a / b=0:=Nat.div_eq_of_lt hab
   have hz2:a%b=a:=Nat.mod_eq_of_lt hab
   refine zUb 0 rfl .z ?_
   exact zAa Tryz.results131 (some ⟨b10,0,none⟩,0,p1,c1) trivial (zk rfl) (zk rfl) (by rw [hz1,hz2];rfl) (ho:=(.n:PickO _ _ _)) ((.e (j:=0) rfl (by rw [hz1];rfl) (.e (j:=1) rfl (by rw [hz2]) .n)):SelR _ _ _)
  ·
   have hab:b≤a:=by have h9:=yS.1 (by omega:0≤Big.cmp (a:Int) (b:Int));omega
   have hab2:=yB hab
   have hq1:0≤1000000000 / ((yd b).getD ((yd b).length - 1) 0+1):=Int.ediv_nonneg om om
   have hdt:=Big.digs_top (b:=b) (n:=(yd b).length - 1) om
   have hq2:1000000000 / ((yd b).getD ((yd b).length - 1) 0+1)≤500000000:=Int.ediv_le_of_le_mul om om
   refine zt<|zd<|zg<|za<|e_mv rfl<|e_mv rfl<|e_p (zoa (z:=((((yd b).length - 1):Nat):Int)) rfl rfl (w64 om))<|zY (x0:=((yd b).getD ((yd b).length - 1) 0)) 1 ((yd b).length - 1) rfl yf sz121 rfl rfl rfl (by first|rfl|assumption|(simp;done)|(simp;omega)|omega) rfl rfl (gD (d:=0) om) (fun b11 o12 hok13=> ?_)
   replace hok13:=zH.1 hok13
   refine e_ru (zB (j:=0) 0 ty121 rfl rfl rfl rfl)<|e_p (zL (z:=((yd b).getD ((yd b).length - 1) 0)) rfl (by rw [yk];rfl) yj (wu64 om))<|e_p (zI (z:=(((yd b).getD ((yd b).length - 1) 0)+1)) rfl rfl (wu64 om))<|e_p (zob (z:=(1000000000 / (((yd b).getD ((yd b).length - 1) 0)+1))) rfl rfl om (by rw [quoN (z:=(1000000000 / (((yd b).getD ((yd b).length - 1) 0)+1))) om om];exact wu64 om))<|e_p (zb rfl)<|zh<|zd<|zg ?_
   obtain ⟨s,hs⟩:∃s:Nat,s=(1000000000 / ((yd b).getD ((yd b).length - 1) 0+1)).toNat:=⟨_,rfl⟩
   obtain ⟨hs1,hs2,hs3⟩:=Big.scale_len (n:=(yd b).length - 1) om hs
   have hsd:=Big.digs_one hs1 (by omega:s<1000000000)
   have hsl:(yd s).length=1:=by rw [hsd];rfl
   have e14:((1000000000 / (((yd b).getD ((yd b).length - 1) 0)+1)):Int)=((s:Nat):Int):=by omega
   rw [e14]
   refine za<|e_mv rfl<|e_mv rfl<|zJ rfl rfl (.c rfl (.c rfl .n)) ce145 (zdc (a:=a) (d:=s) (p0:=p1) (cap:=c1) (hb:=by first|rfl|assumption|omega|(simp;done)) (hd:=by first|rfl|assumption|omega|(simp;done))) (.c (j:=1) rfl .n) ?_
   rintro ⟨p315,c316⟩ -
   dsimp only [aq,nq,cq]
   refine e_mv rfl<|e_mv rfl<|zJ rfl rfl (.c rfl (.c rfl .n)) ce145 (zdc (a:=b) (d:=s) (p0:=p2) (cap:=c2) (hb:=by first|rfl|assumption|omega|(simp;done)) (hd:=by first|rfl|assumption|omega|(simp;done))) (.c (j:=3) rfl .n) ?_
   rintro ⟨p317,c318⟩ -
   dsimp only [aq,nq,cq]
   refine e_p (zb rfl)<|e_p (zb rfl)<|zh<|zd<|zg ?_
   obtain ⟨A,hA⟩:∃z,z=a*s:=⟨_,rfl⟩
   rw [← hA]
   obtain ⟨V,hV⟩:∃z,z=b*s:=⟨_,rfl⟩
   rw [← hV]
   refine zia 1 rfl (fun hcA=> ?_)
   have hAl:(yd a).length≤(yd A).length:=by rw [hA];exact Big.len_mul_ge hs1
   have hAl2:(yd A).length≤(yd a).length+1:=by have h8:=Big.len_mul_le a s;rw [hsl] at h8;rw [hA];exact h8
   obtain ⟨m,hm⟩:∃z,(yd V).length=z+1:=⟨(yd b).length - 1,by rw [hV,hs3]⟩
   have hmb:(yd b).length=m+1:=by rw [hV,hs3] at hm;omega
   have e19:((((yd b).length:Nat):Int):Int)=(((m+1):Nat):Int):=by omega
   rw [e19]
   refine za<|e_mv rfl<|e_mv rfl<|e_p (zQ yf rfl)<|e_mv rfl<|e_p (zoa (z:=((((yd A).length - (m+1)):Nat):Int)) rfl rfl (w64 om))<|e_p (zI (z:=((((yd A).length - m):Nat):Int)) rfl rfl (w64 om))<|e_p (zqe (lo:=((yd A).length - m)) (hi:=(yd A).length) yf sz121 rfl (.s rfl) .n (.inr ⟨_,rfl⟩) (.inl ⟨rfl,rfl⟩) om om)<|zyc (zNf 1 rfl ((yd A).length - m) ((yd A).length) om om) (fun _ _=> ?_)
   refine zJ rfl rfl (.c rfl (.c rfl .n)) ce112 (zPa (s:=false) (p:=(newP p315 c316 ((yd A).length - m) 1)) (n:=((yd A).length) - ((yd A).length - m)) (cap:=(c316 - ((yd A).length - m))) (l:=(((yd A).take ((yd A).length)).drop ((yd A).length - m))) (hn:=by first|rfl|omega|(simp;done)|(simp;omega)) (ho:=by exact Big.okL_drop (Big.okL_take (yo _) _) _) (hln:=by first|rfl|omega|(simp;done)|(simp;omega))) (.c (j:=0) rfl .n) ?_
   rintro ⟨p220,c221⟩ -
   dsimp only [aq,nq,cq]
   refine e_p (zEa yg rfl ty39 rfl rfl)<|e_p (zb rfl)<|zh<|zd<|zg ?_
   obtain ⟨R0,hR0⟩:∃z,z=(yA false (yi (((yd A).take ((yd A).length)).drop ((yd A).length - m)))).natAbs:=⟨_,rfl⟩
   rw [← hR0]
   have hpt:Big.PtI A V ((yd A).length - m) [] R0:=Big.PtI.start hm om (by rw [hR0,List.take_length];have:=yG (Big.okL_drop (yo A) ((yd A).length - m));simp only [yA];omega)
   refine za<|e_mv rfl<|e_p (zQ yf rfl)<|e_mv rfl<|e_p (zoa (z:=((((yd A).length - (m+1)):Nat):Int)) rfl rfl (w64 om))<|e_p (zI (z:=((((yd A).length - m):Nat):Int)) rfl rfl (w64 om))<|zIa rfl rfl (zwb (r:=rI .u32) (k:=((yd A).length - m)) (x0:=0) (γ0:=()) yf inf121 rfl rfl rfl rfl om om rfl (fun g _=>by exact zH.2 dd) dd) (fun b22 _=> ?_)
   refine e_p (zb rfl)<|zh<|zd<|zg<|zg<|za<|e_mv rfl<|e_p (zQ yf rfl)<|e_mv rfl<|e_p (zoa (z:=((((yd A).length:Nat):Int) - (((m+1):Nat):Int))) rfl rfl (w64 om))<|e_p (zb rfl)<|zh<|zd<|zv<|zqa (X:=Nat×(List Int)×Nat×(Option Addr)×Nat) (fun x:Nat×(List Int)×Nat×(Option Addr)×Nat=>Big.PtI A V x.1 x.2.1 x.2.2.1∧x.1+x.2.1.length=(yd A).length - m) (fun x=>[(10,.slice (x.2.2.2.1) ((yd (x.2.2.1)).length) (x.2.2.2.2)),(12,ya yb (((x.1:Nat):Int) - 1)),(11,.slice (some ⟨b22,0,none⟩) ((yd A).length - m) ((yd A).length - m)),(1,.slice p317 ((yd V).length) c318),(0,.slice p315 ((yd A).length) c316),(9,.int .u64 ((s:Nat):Int)),(6,ya yb (((m+1):Nat):Int)),(5,.slice none 0 0),(4,.slice none 0 0)]) (fun x=>[rowA 121 (rI .u32) (some ⟨b22,0,none⟩) ((yd A).length - m) (List.replicate x.1 0++x.2.1)]) (fun x=>[slF (rI .u32) (x.2.2.2.1) (x.2.2.2.2) (yd (x.2.2.1)),slF (rI .u32) p220 c221 (yd R0),slF (rI .u32) (newP p315 c316 ((yd A).length - m) 1) (c316 - ((yd A).length - m)) (((yd A).take ((yd A).length)).drop ((yd A).length - m)),slF (rI .u32) p317 c318 (yd V),slF (rI .u32) p315 c316 (yd A),atF b11 o12 [.int .u32 ((yd b).getD ((yd b).length - 1) 0)],slF (rI .u32) p1 c1 (yd a),slF (rI .u32) p2 c2 (yd b)]) (fun x:Nat×(List Int)×Nat×(Option Addr)×Nat=>x.1) (((yd A).length - m),([]:List Int),R0,p220,c221) (show Big.PtI A V ((yd A).length - m) ([]:List Int) R0∧((yd A).length - m)+([]:List Int).length=(yd A).length - m from by exact ⟨hpt,rfl⟩) ((.e rfl (by first|rfl|(congr 1;omega)|simp_all) (.e rfl (congrArg (Value.int .i64) om) (.of rfl))):SubM _ _) (ho:=((.e (i:=0) rfl (by simp) .n):PickO _ _ _)) ((.e (j:=0) rfl (by first|rfl|simp_all) (.of [0,1,2,3,4,5,6] rfl)):SelR _ _ _) ?_
   rintro ⟨jj,qs,R,pr,cr⟩ hI
   replace hI:Big.PtI A V jj qs R∧jj+qs.length=(yd A).length - m:=hI
   try dsimp only
   obtain ⟨hP,hql⟩:=hI
   refine zg<|zg<|za<|e_mv rfl<|e_p (zGa rfl rfl)<|zh<|zd<|zG rfl (fun hj=> ?_) (fun hj=> ?_)
   ·
    obtain ⟨j,rfl⟩:∃j,jj=j+1:=⟨jj - 1,by omega⟩
    have e23:(((((j+1):Nat):Int) - 1):Int)=((j:Nat):Int):=by omega
    rw [e23]
    have hjle:=hP.le
    have hRV:=hP.lt
    have hdn:=yq (yo A) j
    obtain ⟨d,hd⟩:∃d:Nat,(yd A).getD j 0=(d:Int):=⟨_,(Int.toNat_of_nonneg hdn.1).symm⟩
    have hd9:d<1000000000:=by omega
    have hWlt9:=Big.pt_lim hRV hd9
    have hRl:=yB (Nat.le_of_lt hRV)
    refine zt<|zd<|zg<|zv<|zg<|za<|e_mv rfl<|e_mv rfl<|e_mv rfl<|zY (x0:=((yd A).getD j 0)) 4 j rfl yf sz121 rfl rfl rfl (by first|rfl|assumption|(simp;done)|(simp;omega)|omega) rfl rfl (gD (d:=0) om) (fun b24 o25 hok26=> ?_)
    replace hok26:=zH.1 hok26
    refine e_ru (zB (j:=0) 0 ty121 rfl rfl rfl rfl) ?_
    have e27:(((yd A).getD j 0):Int)=((d:Nat):Int):=by exact hd
    rw [e27]
    refine zJ rfl rfl (.c rfl (.c rfl .n)) ce146 (zMd (a:=R) (d:=d) (p0:=pr) (cap:=cr) (hb:=by first|rfl|assumption|omega|(simp;done)) (hd:=by first|rfl|assumption|omega|(simp;done))) (.c (j:=1) rfl .n) ?_
    rintro ⟨p328,c329⟩ -
    dsimp only [aq,nq,cq]
    refine e_p (zb rfl)<|zh<|zd<|zg ?_
    obtain ⟨W,hW⟩:∃z,z=(R*1000000000+d):=⟨_,rfl⟩
    rw [← hW]
    have hWlt:W<V*1000000000:=by rw [hW];exact hWlt9
    have hWl:=Big.pt_wlen hWlt hm
    have hw1:=yq (yo W) (m+1)
    have hw0:=yq (yo W) m
    have hv0:=yq (yo V) m
    have hg0:0≤(((yd W).getD (m+1) 0*1000000000+(yd W).getD m 0) / ((yd V).getD m 0+1)):=Int.ediv_nonneg om om
    have hg1:(((yd W).getD (m+1) 0*1000000000+(yd W).getD m 0) / ((yd V).getD m 0+1))≤1000000000000000000:=Int.le_trans (Int.ediv_le_self _ om) om
    refine zba (OW:=[]) (O:=[rowA 121 (rI .u32) (some ⟨b22,0,none⟩) ((yd A).length - m) (List.replicate (j+1) 0++qs)]) 100000 mixed (.then (.block (.then (.then (.block (.then .ret)))))) kr<|e_dm 0 rfl rfl rfl<|e_dm 1 rfl rfl rfl<|e_dm 4 rfl rfl rfl<|e_dm 5 rfl rfl rfl<|e_pv 6 rfl rfl (zoa (z:=((m:Nat):Int)) rfl rfl (w64 om))<|e_dm 9 rfl rfl rfl<|e_dm 10 rfl rfl rfl<|e_pv 11 rfl rfl (zoa (z:=((m:Nat):Int)) rfl rfl (w64 om))<|zca (x0:=((yd V).getD m 0)) 12 rfl rfl kr kr 5 m rfl yf sz121 rfl rfl rfl (by first|rfl|assumption|(simp;done)|(simp;omega)|omega) rfl rfl (gD (d:=0) om) (fun b30 o31 hok32=> ?_)
    replace hok32:=zH.1 hok32
    refine e_u 13 rfl rfl (zB (j:=0) 0 ty121 rfl rfl rfl rfl)<|e_pv 14 rfl rfl (zL (z:=((yd V).getD m 0)) rfl (by rw [yk];rfl) yj (wu64 om))<|e_pv 15 rfl rfl (zI (z:=(((yd V).getD m 0)+1)) rfl rfl (wu64 om))<|e_one 2 (zwa rfl rfl rfl rfl (.c rfl (.c rfl .n)) ce143 (zdb (p:=p328) (n:=(yd W).length) (cap:=c329) (l:=yd W) (i:=(m+1)) (hn:=by first|rfl|assumption|omega|(simp;done)) (hi:=by first|rfl|assumption|omega|(simp;done))) (.c (j:=1) rfl .n) ?_)
    refine e_pv 3 rfl rfl (zDa (z:=((yd W).getD (m+1) 0*1000000000)) rfl rfl (wu64 om))<|e_one 7 (zwa rfl rfl rfl rfl (.c rfl (.c rfl .n)) ce143 (zdb (p:=p328) (n:=(yd W).length) (cap:=c329) (l:=yd W) (i:=m) (hn:=by first|rfl|assumption|omega|(simp;done)) (hi:=by first|rfl|assumption|omega|(simp;done))) (.c (j:=1) rfl .n) ?_)
    refine e_pv 8 rfl rfl (zI (z:=(((yd W).getD (m+1) 0*1000000000)+(yd W).getD m 0)) rfl rfl (wu64 om))<|e_pv 16 rfl rfl (zob (z:=((((yd W).getD (m+1) 0*1000000000)+(yd W).getD m 0) / (((yd V).getD m 0)+1))) rfl rfl om (by rw [quoN (z:=((((yd W).getD (m+1) 0*1000000000)+(yd W).getD m 0) / (((yd V).getD m 0)+1))) om om];exact wu64 om))<|e_pv 17 rfl rfl (zb rfl)<|zX kr<|zd<|zg ?_
    obtain ⟨g0,hg9⟩:∃g:Nat,(g:Int)=(((yd W).getD (m+1) 0*1000000000+(yd W).getD m 0) / ((yd V).getD m 0+1)):=⟨_,Int.toNat_of_nonneg hg0⟩
    obtain ⟨hgm,hgl⟩:=Big.pt_guess hWlt hm hg9
    have hVg:=yB hgm
    have e33:(((((yd W).getD (m+1) 0*1000000000)+(yd W).getD m 0) / (((yd V).getD m 0)+1)):Int)=((g0:Nat):Int):=by exact hg9.symm
    rw [e33]
    refine za<|e_mv rfl<|e_mv rfl<|e_mv rfl<|zJ rfl rfl (.c rfl (.c rfl .n)) ce145 (zdc (a:=V) (d:=g0) (p0:=p317) (cap:=c318) (hb:=by first|rfl|assumption|omega|(simp;done)) (hd:=by first|rfl|assumption|omega|(simp;done))) (.c (j:=6) rfl .n) ?_
    rintro ⟨p334,c335⟩ -
    dsimp only [aq,nq,cq]
    refine zJ rfl rfl (.c rfl (.c rfl .n)) ce130 (zWb (a:=W) (b:=V*g0) (p1:=p328) (c1:=c329) (p2:=p334) (c2:=c335) (hb1:=by first|rfl|assumption|omega|(simp;done)) (hb2:=by first|rfl|assumption|omega|(simp;done)) (hab:=by first|rfl|assumption|omega|(simp;done))) (.c (j:=2) rfl (.c (j:=0) rfl .n)) ?_
    rintro ⟨p336,c337⟩ -
    dsimp only [aq,nq,cq]
    refine e_p (zb rfl)<|zh<|zd<|zg<|zv<|zqa (X:=Nat×Nat×(Option Addr)×Nat) (fun x:Nat×Nat×(Option Addr)×Nat=>x.2.1+V*x.1=W) (fun x=>[(10,.slice (x.2.2.1) ((yd (x.2.1)).length) (x.2.2.2)),(13,.int .u64 ((x.1:Nat):Int)),(12,ya yb ((j:Nat):Int)),(11,.slice (some ⟨b22,0,none⟩) ((yd A).length - m) ((yd A).length - m)),(1,.slice p317 ((yd V).length) c318),(0,.slice p315 ((yd A).length) c316),(9,.int .u64 ((s:Nat):Int)),(6,ya yb (((m+1):Nat):Int)),(5,.slice none 0 0),(4,.slice none 0 0)]) (fun x=>[rowA 121 (rI .u32) (some ⟨b22,0,none⟩) ((yd A).length - m) (List.replicate (j+1) 0++qs)]) (fun x=>[slF (rI .u32) (x.2.2.1) (x.2.2.2) (yd (x.2.1)),slF (rI .u32) p336 c337 (yd (W - (V*g0))),slF (rI .u32) p334 c335 (yd (V*g0)),atF b30 o31 [.int .u32 ((yd V).getD m 0)],slF (rI .u32) p328 c329 (yd W),atF b24 o25 [.int .u32 ((d:Nat):Int)],slF (rI .u32) pr cr (yd R),slF (rI .u32) p220 c221 (yd R0),slF (rI .u32) (newP p315 c316 ((yd A).length - m) 1) (c316 - ((yd A).length - m)) (((yd A).take ((yd A).length)).drop ((yd A).length - m)),slF (rI .u32) p317 c318 (yd V),slF (rI .u32) p315 c316 (yd A),atF b11 o12 [.int .u32 ((yd b).getD ((yd b).length - 1) 0)],slF (rI .u32) p1 c1 (yd a),slF (rI .u32) p2 c2 (yd b)]) (fun x:Nat×Nat×(Option Addr)×Nat=>x.2.1) (g0,(W - V*g0),p336,c337) (show (W - V*g0)+V*g0=W from by exact Nat.sub_add_cancel hgm) ((.e rfl (by first|rfl|(congr 1;omega)|simp_all) (.of rfl)):SubM _ _) (ho:=((.c (i:=0) rfl .n):PickO _ _ _)) ((.e (j:=0) rfl (by first|rfl|simp_all) (.of [0,1,2,3,4,5,6,7,8,9,10,11,12] rfl)):SelR _ _ _) ?_
    rintro ⟨g,r,p9,c9⟩ hJ
    replace hJ:r+V*g=W:=hJ
    try dsimp only
    have hgb:g<1000000000:=Nat.lt_of_mul_lt_mul_left (a:=V) om
    have hrl:=yB (show r≤W by omega)
    refine zg<|zg<|za<|e_mv rfl<|e_mv rfl<|zN rfl rfl (.c rfl (.c rfl .n)) ce129 (zWc (a:=r) (b:=V) (p1:=p9) (c1:=c9) (p2:=p317) (c2:=c318)) (.c (j:=0) rfl (.c (j:=9) rfl .n))<|e_p (zGa rfl rfl)<|zh<|zd<|zG rfl (fun hge=> ?_) (fun hge=> ?_)
    ·
     have hrV:V≤r:=by have h9:=yS.1 hge;omega
     refine zt<|zd<|zv<|zg<|za<|e_mv rfl<|e_mv rfl<|zJ rfl rfl (.c rfl (.c rfl .n)) ce130 (zWb (a:=r) (b:=V) (p1:=p9) (c1:=c9) (p2:=p317) (c2:=c318) (hb1:=by first|rfl|assumption|omega|(simp;done)) (hb2:=by first|rfl|assumption|omega|(simp;done)) (hab:=by first|rfl|assumption|omega|(simp;done))) (.c (j:=0) rfl (.c (j:=9) rfl .n)) ?_
     rintro ⟨p338,c339⟩ -
     dsimp only [aq,nq,cq]
     refine e_p (zb rfl)<|zh<|zd<|za<|e_mv rfl<|e_p (zI (z:=(((g+1):Nat):Int)) rfl rfl (wu64 om))<|e_p (zb rfl)<|zh<|zP<|zha ((g+1),(r - V),p338,c339) (show (r - V)+V*(g+1)=W from by rw [Nat.mul_succ];omega) (by show r - V<r;omega) ((.e rfl (by first|rfl|(congr 1;omega)|simp_all) (.of rfl)):SubM _ _) (ho:=((.c (i:=0) rfl .n):PickO _ _ _)) ((.e (j:=0) rfl (by first|rfl|simp_all) (.of [2,3,4,5,6,7,8,9,10,11,12,13,14] rfl)):SelR _ _ _)
    ·
     have hrV:r<V:=by have h9:¬(V:Int)≤r:=fun h=>hge (yS.2 h);omega
     have hst:=hP.step hd (by rw [← hW];exact hJ) hrV
     refine zla<|zj<|zj<|zr<|zd<|za<|e_mv rfl<|e_mv rfl<|e_mv rfl<|e_p (zL (z:=((g:Nat):Int)) rfl (by rw [yj];rfl) yk (wu32 om))<|e_p (zpa (j:=j) yf sz121 rfl rfl rfl om)<|zLa 0 rfl rfl rfl (zja (j:=j) (x0:=((g:Nat):Int)) (γ0:=()) rfl rfl (by first|omega|(rw [List.length_map];omega)|(simp only [List.length_set];omega)|(simp;done)|(simp;omega)) rfl rfl sz121 (fun _ _=>by exact zH.2 om)) (fun _=> .z) (fun _ _=> ?_)
     refine zh<|zP<|zd<|za<|e_mv rfl<|e_p (zoa (z:=(((j:Nat):Int) - 1)) rfl rfl (w64 om))<|e_p (zb rfl)<|zh<|zha (j,(((g:Nat):Int) :: qs),r,p9,c9) (show Big.PtI A V j (((g:Nat):Int) :: qs) r∧j+(((g:Nat):Int) :: qs).length=(yd A).length - m from by exact ⟨hst,by rw [List.length_cons];omega⟩) (by show j<j+1;omega) ((.of rfl):SubM _ _) (ho:=((.e (i:=0) rfl (by rw [Big.pad_set]) .n):PickO _ _ _)) ((.of [0,7,8,9,10,11,12,13] rfl):SelR _ _ _)
   ·
    have hj0:jj=0:=by omega
    have hI0:Big.PtI A V 0 qs R:=hj0 ▸ hP
    obtain ⟨hf1,hf2⟩:=hI0.fin
    have hsc:=Big.scale_div (a:=a) (b:=b) hs1
    have hRV:=hI0.lt
    have hRl:=yB (Nat.le_of_lt hRV)
    have hz4:=Big.made_nat hI0.ok hf1
    have hok5:=hI0.ok
    refine zla<|zj<|zj<|zr<|zd<|zg<|za<|e_mv rfl<|e_mv rfl<|zJ rfl rfl (.c rfl (.c rfl .n)) ce144 (zgd (a:=R) (mm:=s) (p:=pr) (cap:=cr) (hb:=by first|rfl|assumption|omega|(simp;done)) (hm0:=by first|rfl|assumption|omega|(simp;done)) (hm1:=by first|rfl|assumption|omega|(simp;done))) (.c (j:=0) rfl .n) ?_
    rintro ⟨p240,c241⟩ -
    dsimp only [aq,nq,cq]
    refine e_mv rfl<|e_p (zC rfl rfl)<|e_p (zC rfl rfl)<|e_p (zb rfl)<|e_p (zb rfl)<|zh<|zd<|zg ?_
    have e42:List.replicate jj 0++qs=qs:=by rw [hj0];rfl
    rw [e42]
    refine za<|e_mv rfl<|zma 0 rfl .z<|zJ rfl rfl (.c rfl (.c rfl .n)) ce112 (zPa (s:=false) (p:=some ⟨b22,0,none⟩) (n:=((yd A).length - m)) (cap:=((yd A).length - m)) (l:=qs) (hn:=by first|rfl|omega|(simp;done)|(simp;omega)) (ho:=by exact hok5) (hln:=by first|rfl|omega|(simp;done)|(simp;omega))) (.c (j:=0) rfl .n) ?_
    rintro ⟨p243,c244⟩ -
    dsimp only [aq,nq,cq]
    refine e_p (zEa yg rfl ty39 rfl rfl)<|e_mv rfl<|e_p (zb rfl)<|e_p (zb rfl)<|zh<|zd<|zK ?_
    have hr9:R / s=a%b:=by rw [hf2,hA,hV,hsc.2]
    have hz5:(yA false (yi qs)).natAbs=a / b:=by rw [hz4,hA,hV,hsc.1]
    exact zAa Tryz.results131 (p243,c244,p240,c241) trivial (zk rfl) (zk rfl) (by rw [hz5,hr9]) (ho:=(.n:PickO _ _ _)) ((.e (j:=0) rfl (by rw [hz5]) (.e (j:=2) rfl (by rw [hr9]) .n)):SelR _ _ _)
end Go.Proofs.YtjcpbhlijoigfaaGreat.Sp
namespace Go.Proofs.YtjcpbhlijoigfaaGreat.Sp
open Go
set_option linter.unusedVariables false
set_option maxRecDepth 100000
set_option maxHeartbeats 8000000
theorem zDe {s:Bool} {p1:Option Addr} {n1:Nat} {c1:Nat} {l1:List Int} {t:Bool} {p2:Option Addr} {n2:Nat} {c2:Nat} {l2:List Int} (hn1:l1.length=n1) (hn2:l2.length=n2) (hm1:n1≤549755813888) (hm2:n2≤549755813888):Con yh 109 [.agg #[.bool s,.slice p1 n1 c1],.agg #[.bool t,.slice p2 n2 c2]] [] [slF (rI .u32) p1 c1 l1,slF (rI .u32) p2 c2 l2] (Y:=(Option Addr)×Nat) (fun y=>True) (fun y=> .agg #[.bool (decide (((Nat.gcd (ye s l1).natAbs (ye t l2).natAbs:Nat):Int)<0)),.slice (y.1) ((yd (((Nat.gcd (ye s l1).natAbs (ye t l2).natAbs:Nat):Int).natAbs)).length) (y.2)]) (fun y=>[]) (fun y=>[slF (rI .u32) (y.1) (y.2) (yd (((Nat.gcd (ye s l1).natAbs (ye t l2).natAbs:Nat):Int).natAbs))]):=by
 refine zn Tryz.func109 rfl rfl rfl (fun c=> ?_)
 show RunC _ _ _ _ _ [(0,.agg #[.bool s,.slice p1 n1 c1]),(1,.agg #[.bool t,.slice p2 n2 c2])] [] [slF (rI .u32) p1 c1 l1,slF (rI .u32) p2 c2 l2]
 refine zia 0 rfl (fun hL0=> ?_)
 refine zUa 0 rfl (fun hE0=> ?_)
 refine zia 1 rfl (fun hL1=> ?_)
 refine zUa 1 rfl (fun hE1=> ?_)
 have hnn1:yP l1:=fun g hg=>(zH.1 (hE0 g hg)).1
 have hnn2:yP l2:=fun g hg=>(zH.1 (hE1 g hg)).1
 have hb1:ym (ye s l1)≤n1:=by have:=yI (s:=s) hnn1;omega
 have hb2:ym (ye t l2)≤n2:=by have:=yI (s:=t) hnn2;omega
 unfold ym at hb1 hb2
 refine zg<|za<|zO rfl rfl (zS rfl rfl) (fun b1=> ?_)
 refine zO rfl rfl (zS rfl rfl) (fun b2=> ?_)
 refine zO rfl rfl (zp zr41 rfl) (fun b3=> ?_)
 refine zh<|zd<|zg<|zba (OW:=[]) (O:=[boxA b3 41 [wz.b,wz.l],boxA b2 41 [.bool t,.slice p2 n2 c2],boxA b1 41 [.bool s,.slice p1 n1 c1]]) 100000 mixed (.then .ret) kr<|e_u 0 rfl rfl (zc 2 ty41 rfl rfl (.t2 .nil))<|e_u 3 rfl rfl (zc 1 ty41 rfl rfl (.t2 .nil))<|e_one 1 (zE rfl rfl rfl rfl (.c rfl .n) ce111 (zTa (s:=s) (p:=p1) (n:=n1) (cap:=c1) (l:=l1) (hn:=ass) (hln:=cbo)) (.c (j:=0) rfl .n) ?_)
 rintro ⟨p24,c25⟩ -
 dsimp only [aq,nq,cq]
 refine e_pv 2 rfl rfl (zEa yg rfl ty39 rfl rfl)<|e_one 4 (zE rfl rfl rfl rfl (.c rfl .n) ce111 (zTa (s:=t) (p:=p2) (n:=n2) (cap:=c2) (l:=l2) (hn:=ass) (hln:=cbo)) (.c (j:=2) rfl .n) ?_)
 rintro ⟨p26,c27⟩ -
 dsimp only [aq,nq,cq]
 refine e_pv 5 rfl rfl (zEa yg rfl ty39 rfl rfl)<|e_pv 6 rfl rfl (zb rfl)<|e_pv 7 rfl rfl (zb rfl)<|zX kr<|zd<|zg<|zv<|zqa (X:=Nat×Nat×(Option Addr)×Nat×(Option Addr)×Nat) (fun x:Nat×Nat×(Option Addr)×Nat×(Option Addr)×Nat=>Nat.gcd x.1 x.2.1=Nat.gcd (ye s l1).natAbs (ye t l2).natAbs∧(yd x.1).length≤549755813888∧(yd x.2.1).length≤549755813888) (fun x=>[(6,.slice (x.2.2.2.2.1) ((yd (x.2.1)).length) (x.2.2.2.2.2)),(5,.slice (x.2.2.1) ((yd (x.1)).length) (x.2.2.2.1)),(4,yc (some ⟨b3,0,none⟩))]) (fun x=>[boxA b3 41 [wz.b,wz.l],boxA b2 41 [.bool t,.slice p2 n2 c2],boxA b1 41 [.bool s,.slice p1 n1 c1]]) (fun x=>[slF (rI .u32) (x.2.2.1) (x.2.2.2.1) (yd (x.1)),slF (rI .u32) (x.2.2.2.2.1) (x.2.2.2.2.2) (yd (x.2.1)),slF (rI .u32) p26 c27 (yd ((ye t l2).natAbs)),slF (rI .u32) p24 c25 (yd ((ye s l1).natAbs)),slF (rI .u32) p1 c1 l1,slF (rI .u32) p2 c2 l2]) (fun x:Nat×Nat×(Option Addr)×Nat×(Option Addr)×Nat=>x.2.1) ((ye s l1).natAbs,(ye t l2).natAbs,p24,c25,p26,c27) (show Nat.gcd ((ye s l1).natAbs) ((ye t l2).natAbs)=Nat.gcd (ye s l1).natAbs (ye t l2).natAbs∧(yd ((ye s l1).natAbs)).length≤549755813888∧(yd ((ye t l2).natAbs)).length≤549755813888 from by exact ⟨rfl,by omega,by omega⟩) ((.of rfl):SubM _ _) (ho:=((.of [0,0,0] rfl):PickO _ _ _)) ((.of [1,0,0,1,2,3] rfl):SelR _ _ _) ?_
 rintro ⟨a,b,pa,ca,pb,cb⟩ hI
 replace hI:Nat.gcd a b=Nat.gcd (ye s l1).natAbs (ye t l2).natAbs∧(yd a).length≤549755813888∧(yd b).length≤549755813888:=hI
 try dsimp only
 obtain ⟨hgc,hba,hbb⟩:=hI
 refine zg<|zFa (X:=Unit) (fun x=>True) (fun x=>[(29,.bool (decide (0<(yd b).length∧(2<(yd a).length∨2<(yd b).length)))),(6,.slice pb ((yd b).length) cb),(5,.slice pa ((yd a).length) ca),(4,yc (some ⟨b3,0,none⟩))]) (fun x=>[boxA b3 41 [wz.b,wz.l],boxA b2 41 [.bool t,.slice p2 n2 c2],boxA b1 41 [.bool s,.slice p1 n1 c1]]) (fun x=>[slF (rI .u32) pa ca (yd a),slF (rI .u32) pb cb (yd b),slF (rI .u32) p26 c27 (yd ((ye t l2).natAbs)),slF (rI .u32) p24 c25 (yd ((ye s l1).natAbs)),slF (rI .u32) p1 c1 l1,slF (rI .u32) p2 c2 l2]) ?_ ?_
 ·
  refine za<|e_mv rfl<|e_p (zQ yf rfl)<|e_p (zBa rfl rfl)<|zW rfl rfl (zV rfl) (fun h8=> ?_) (fun h8=> ?_)
  ·
   refine e_mv rfl<|e_p (zQ yf rfl)<|e_p (zBa rfl rfl)<|zW rfl rfl (zV rfl) (fun h9=> ?_) (fun h9=> ?_)
   ·
    refine e_no<|e_no<|e_no<|e_p (zl rfl rfl)<|e_p (zl rfl rfl)<|zh ?_
    exact zea () (show True from by first|trivial|omega|simp_all) ((.e rfl (congrArg Value.bool (by first|(simp;omega)|exact decide_eq_decide.2 ⟨fun h=>⟨by omega,.inr om⟩,fun h=>by omega⟩)) (.of rfl)):SubM _ _) (ho:=((.of [0,0,0] rfl):PickO _ _ _)) ((.of [0,1,2,3,4,5] rfl):SelR _ _ _)
   ·
    refine e_mv rfl<|e_p (zQ yf rfl)<|e_p (zBa rfl rfl)<|e_p (zl rfl rfl)<|e_p (zl rfl rfl)<|zh ?_
    exact zea () (show True from by first|trivial|omega|simp_all) ((.e rfl (congrArg Value.bool (by first|(simp;omega)|exact decide_eq_decide.2 ⟨fun h=>⟨by omega,.inr om⟩,fun h=>by omega⟩)) (.of rfl)):SubM _ _) (ho:=((.of [0,0,0] rfl):PickO _ _ _)) ((.of [0,1,2,3,4,5] rfl):SelR _ _ _)
  ·
   refine e_no<|e_no<|e_no<|e_no<|e_no<|e_no<|e_no<|e_no<|e_p (zl rfl rfl)<|zh ?_
   exact zea () (show True from by first|trivial|omega|simp_all) ((.e rfl (congrArg Value.bool (by first|(simp;omega)|exact decide_eq_decide.2 ⟨fun h=>⟨by omega,.inr om⟩,fun h=>by omega⟩)) (.of rfl)):SubM _ _) (ho:=((.of [0,0,0] rfl):PickO _ _ _)) ((.of [0,1,2,3,4,5] rfl):SelR _ _ _)
 ·
  rintro ⟨⟩ -
  try dsimp only
  refine zG rfl (fun hw=> ?_) (fun hw=> ?_)
  ·
   have hb0:0<b:=Nat.pos_of_ne_zero (fun e=>by rw [e] at hw;simp [Big.digs_zero] at hw)
   refine zt<|zd<|zv<|zg<|za<|e_mv rfl<|e_mv rfl<|zJ rfl rfl (.c rfl (.c rfl .n)) ce131 (zhd (a:=a) (b:=b) (p1:=pa) (c1:=ca) (p2:=pb) (c2:=cb) (hb1:=cbo) (hb2:=cbo) (hb0:=cbo)) (.c (j:=0) rfl (.c (j:=1) rfl .n)) ?_
   rintro ⟨p310,c311,p412,c413⟩ -
   dsimp only [aq,nq,cq]
   refine e_mv rfl<|e_p (zC rfl rfl)<|e_p (zC rfl rfl)<|e_p (zb rfl)<|e_p (zb rfl)<|zh<|zd<|za<|e_mv rfl<|e_mv rfl<|e_p (zb rfl)<|e_p (zb rfl)<|zh<|zP<|zha (b,(a%b),pb,cb,p412,c413) (show Nat.gcd b (a%b)=Nat.gcd (ye s l1).natAbs (ye t l2).natAbs∧(yd b).length≤549755813888∧(yd (a%b)).length≤549755813888 from by exact ⟨by rw [Big.gcd_rest,hgc],hbb,Nat.le_trans (yB (Nat.le_of_lt (Nat.mod_lt a hb0))) hbb⟩) (by exact Nat.mod_lt a hb0) ((.e rfl (by first|rfl|(congr 1;omega)|simp_all) (.c rfl (.c rfl .n))):SubM _ _) (ho:=((.of [0,0,0] rfl):PickO _ _ _)) ((.c (j:=3) rfl (.e (j:=1) rfl (by first|rfl|simp_all) (.of [4,5,6,7] rfl))):SelR _ _ _)
  ·
   refine zla<|zj<|zj<|zr<|zd<|zg<|zg<|za<|e_mv rfl<|e_p (zQ yf rfl)<|e_p (zCa rfl rfl)<|zh<|zd<|zG rfl (fun hbz=> ?_) (fun hbz=> ?_)
   ·
    have hbz0:b=0:=yN.1 om
    have hfin:a=Nat.gcd (ye s l1).natAbs (ye t l2).natAbs:=by rw [← hgc,hbz0,Nat.gcd_zero_right]
    refine zg<|za<|e_mv rfl<|zJ rfl rfl (.c rfl (.c rfl .n)) ce112 (zsb (s:=false) (a:=a) (p:=pa) (cap:=ca) (hln:=cbo)) (.c (j:=0) rfl .n) ?_
    rintro ⟨p214,c215⟩ -
    dsimp only [aq,nq,cq]
    refine zo 0 rfl rfl rfl rfl rfl sz41 rfl (.t2 .nil) .z<|zh<|zd<|zK<|zi ?_
    exact zx Tryz.results109 (p214,c215) trivial (zD 0 ty41 rfl rfl (.t2 .nil)) (by rw [← hfin];rfl) (ho:=(.n:PickO _ _ _)) ((.e (j:=0) rfl (by rw [← hfin];rfl) .n):SelR _ _ _)
   ·
    have ha2:(yd a).length≤2:=by omega
    have hb2:(yd b).length≤2:=by omega
    have ha18:=Big.two_lt ha2
    have hb18:=Big.two_lt hb2
    refine zt<|zd<|zg<|za<|e_mv rfl<|zN rfl rfl (.c rfl .n) ce132 (zNd (a:=a) (p:=pa) (cap:=ca) (hb:=cbo)) (.c (j:=0) rfl .n)<|e_mv rfl<|zN rfl rfl (.c rfl .n) ce132 (zNd (a:=b) (p:=pb) (cap:=cb) (hb:=cbo)) (.c (j:=1) rfl .n)<|e_p (zb rfl)<|e_p (zb rfl)<|zh<|zd<|zg<|zv<|zqa (X:=Nat×Nat) (fun x:Nat×Nat=>Nat.gcd x.1 x.2=Nat.gcd a b∧x.1<1000000000000000000∧x.2<1000000000000000000) (fun x=>[(10,.int .u64 ((x.2:Nat):Int)),(9,.int .u64 ((x.1:Nat):Int)),(4,yc (some ⟨b3,0,none⟩))]) (fun x=>[boxA b3 41 [wz.b,wz.l],boxA b2 41 [.bool t,.slice p2 n2 c2],boxA b1 41 [.bool s,.slice p1 n1 c1]]) (fun x=>[slF (rI .u32) pa ca (yd a),slF (rI .u32) pb cb (yd b),slF (rI .u32) p26 c27 (yd ((ye t l2).natAbs)),slF (rI .u32) p24 c25 (yd ((ye s l1).natAbs)),slF (rI .u32) p1 c1 l1,slF (rI .u32) p2 c2 l2]) (fun x:Nat×Nat=>x.2) (a,b) (show Nat.gcd a b=Nat.gcd a b∧a<1000000000000000000∧b<1000000000000000000 from by exact ⟨rfl,ha18,hb18⟩) ((.of rfl):SubM _ _) (ho:=((.of [0,0,0] rfl):PickO _ _ _)) ((.of [0,1,2,3,4,5] rfl):SelR _ _ _) ?_
    rintro ⟨q,r⟩ hJ
    replace hJ:Nat.gcd q r=Nat.gcd a b∧q<1000000000000000000∧r<1000000000000000000:=hJ
    try dsimp only
    obtain ⟨hgq,hq18,hr18⟩:=hJ
    have hmr:=Nat.mod_le q r
    refine zg<|zg<|za<|e_mv rfl<|e_p (zBa rfl rfl)<|zh<|zd<|zG rfl (fun hy=> ?_) (fun hy=> ?_)
    ·
     refine zt<|zd<|zv<|zba (OW:=[]) (O:=[boxA b3 41 [wz.b,wz.l],boxA b2 41 [.bool t,.slice p2 n2 c2],boxA b1 41 [.bool s,.slice p1 n1 c1]]) 100000 mixed (.block (.then (.block (.then .ret)))) kr<|e_dm 0 rfl rfl rfl<|e_dm 1 rfl rfl rfl<|e_dm 2 rfl rfl rfl<|e_pv 3 rfl rfl (zya (z:=(((q%r):Nat):Int)) rfl rfl om (remN om om))<|e_pv 4 rfl rfl (zb rfl)<|e_pv 5 rfl rfl (zb rfl)<|zX kr<|zP<|zha (r,(q%r)) (show Nat.gcd r (q%r)=Nat.gcd a b∧r<1000000000000000000∧(q%r)<1000000000000000000 from by exact ⟨by rw [Big.gcd_rest,hgq],hr18,by omega⟩) (by exact Nat.mod_lt q om) ((.of rfl):SubM _ _) (ho:=((.of [0,0,0] rfl):PickO _ _ _)) ((.of [0,1,2,3,4,5] rfl):SelR _ _ _)
    ·
     have hrz:r=0:=by omega
     have hfin:q=Nat.gcd (ye s l1).natAbs (ye t l2).natAbs:=by rw [← hgc,←hgq,hrz,Nat.gcd_zero_right]
     obtain ⟨ht1,ht2⟩:=Big.two_val hq18
     refine zla<|zj<|zj<|zr<|zd<|zg<|za<|e_mv rfl<|e_p (zya (z:=(((q%1000000000):Nat):Int)) rfl rfl om (remN om om))<|e_p (zL (z:=(((q%1000000000):Nat):Int)) rfl (by rw [yj];rfl) yk (wu32 om))<|e_mv rfl<|e_p (zob (z:=(((q / 1000000000):Nat):Int)) rfl rfl om (by rw [quoN (z:=(((q / 1000000000):Nat):Int)) om om];exact wu64 om))<|e_p (zL (z:=(((q / 1000000000):Nat):Int)) rfl (by rw [yj];rfl) yk (wu32 om))<|zIa rfl rfl (zT (enc:=fun z:Int=>[.int .u32 z]) (ok:=InK .u32) (h1:=fun _=>rfl) (h2:=fun _=>rfl) (k:=2) yf inf121 rfl dd dd dd (.c (x:=(((q%1000000000):Nat):Int)) rfl rfl (fun _ _=>by exact zH.2 om) (.c (x:=(((q / 1000000000):Nat):Int)) rfl rfl (fun _ _=>by exact zH.2 om) .n))) (fun b16 _=> ?_)
     refine zma 0 rfl .z<|zJ rfl rfl (.c rfl (.c rfl .n)) ce112 (zPa (s:=false) (p:=some ⟨b16,0,none⟩) (n:=2) (cap:=2) (l:=[(((q%1000000000):Nat):Int),(((q / 1000000000):Nat):Int)]) (hn:=by first|rfl|omega|(simp;done)|(simp;omega)) (ho:=by exact ht1) (hln:=by first|rfl|omega|(simp;done)|(simp;omega))) (.c (j:=0) rfl .n) ?_
     rintro ⟨p217,c218⟩ -
     dsimp only [aq,nq,cq]
     refine zo 1 rfl rfl rfl rfl rfl sz41 rfl (.t2 .nil) (.s .z)<|zh<|zd<|zK ?_
     exact zx Tryz.results109 (p217,c218) trivial (zD 1 ty41 rfl rfl (.t2 .nil)) (by rw [ht2,←hfin];rfl) (ho:=(.n:PickO _ _ _)) ((.e (j:=0) rfl (by rw [ht2,←hfin];rfl) .n):SelR _ _ _)
theorem zIf {x1:Int} {x2:Int} {p1:Option Addr} {c1:Nat} {p2:Option Addr} {c2:Nat} (hb1:ym x1≤549755813888) (hb2:ym x2≤549755813888):Con yh 109 [.agg #[.bool (decide ((x1)<0)),.slice (p1) ((yd ((x1).natAbs)).length) (c1)],.agg #[.bool (decide ((x2)<0)),.slice (p2) ((yd ((x2).natAbs)).length) (c2)]] [] [slF (rI .u32) (p1) (c1) (yd ((x1).natAbs)),slF (rI .u32) (p2) (c2) (yd ((x2).natAbs))] (Y:=(Option Addr)×(Nat)) (fun y=>True) (fun y=> .agg #[.bool (decide ((((Nat.gcd x1.natAbs x2.natAbs:Nat):Int))<0)),.slice (y.1) ((yd ((((Nat.gcd x1.natAbs x2.natAbs:Nat):Int)).natAbs)).length) (y.2)]) (fun y=>[]) (fun y=>[slF (rI .u32) (y.1) (y.2) (yd ((((Nat.gcd x1.natAbs x2.natAbs:Nat):Int)).natAbs))]):=by
  have h:= @zDe (decide ((x1)<0)) p1 (yd (x1).natAbs).length c1 (yd (x1).natAbs) (decide ((x2)<0)) p2 (yd (x2).natAbs).length c2 (yd (x2).natAbs) rfl rfl hb1 hb2
  rw [yy,yy] at h
  exact h
theorem zJf {w1:Wd} {w2:Wd} {x1:Int} {x2:Int} (hb1:ym x1≤549755813888) (hb2:ym x2≤549755813888):Con yh 109 [.agg #[w1.b,w1.l],.agg #[w2.b,w2.l]] [] [zF w1 (x1),zF w2 (x2)] (Y:=(Wd)) (fun y=>True) (fun y=> .agg #[y.b,y.l]) (fun y=>[]) (fun y=>[zF y (((Nat.gcd x1.natAbs x2.natAbs:Nat):Int))]):=by
  exact zYb (zCc (fun p1 c1 p2 c2=>zIf hb1 hb2))
theorem zOd {s:Bool} {p1:Option Addr} {n1:Nat} {c1:Nat} {l1:List Int} {t:Bool} {p2:Option Addr} {n2:Nat} {c2:Nat} {l2:List Int} (hn1:l1.length=n1) (hn2:l2.length=n2) (hm1:n1≤549755813888) (hm2:n2≤549755813888):Con yh 123 [.agg #[.bool s,.slice p1 n1 c1],.agg #[.bool t,.slice p2 n2 c2]] [] [slF (rI .u32) p1 c1 l1,slF (rI .u32) p2 c2 l2] (Y:=Unit) (fun y=>True) (fun y=> ya yb ((ye s l1 - ye t l2).sign)) (fun y=>[]) (fun y=>[]):=by
 refine zn Tryz.func123 rfl rfl rfl (fun c=> ?_)
 show RunC _ _ _ _ _ [(0,.agg #[.bool s,.slice p1 n1 c1]),(1,.agg #[.bool t,.slice p2 n2 c2])] [] [slF (rI .u32) p1 c1 l1,slF (rI .u32) p2 c2 l2]
 refine zia 0 rfl (fun hL0=> ?_)
 refine zUa 0 rfl (fun hE0=> ?_)
 refine zia 1 rfl (fun hL1=> ?_)
 refine zUa 1 rfl (fun hE1=> ?_)
 have hnn1:yP l1:=fun g hg=>(zH.1 (hE0 g hg)).1
 have hnn2:yP l2:=fun g hg=>(zH.1 (hE1 g hg)).1
 have hb1:ym (ye s l1)≤n1:=by have:=yI (s:=s) hnn1;omega
 have hb2:ym (ye t l2)≤n2:=by have:=yI (s:=t) hnn2;omega
 unfold ym at hb1 hb2
 have hls:=Big.ln_sub (ye s l1) (ye t l2)
 unfold ym at hls
 refine zg<|za<|zO rfl rfl (zS rfl rfl) (fun b1=> ?_)
 refine zO rfl rfl (zS rfl rfl) (fun b2=> ?_)
 refine e_p (zb rfl)<|zh<|zd<|zg<|za<|e_ru (zc 1 ty41 rfl rfl (.t2 .nil))<|e_ru (zc 0 ty41 rfl rfl (.t2 .nil))<|zJ rfl rfl (.c rfl (.c rfl .n)) ce133 (zCe (s:=s) (p1:=p1) (n1:=n1) (c1:=c1) (l1:=l1) (t:=t) (p2:=p2) (n2:=n2) (c2:=c2) (l2:=l2) (hn1:=ass) (hn2:=ass) (hm1:=by first|rfl|assumption|omega|(unfold ym;omega)) (hm2:=by first|rfl|assumption|omega|(unfold ym;omega))) (.c (j:=0) rfl (.c (j:=1) rfl .n)) ?_
 rintro ⟨p33,c34⟩ -
 dsimp only [aq,nq,cq]
 refine zN rfl rfl (.c rfl .n) ce105 (zfd (z:=ye s l1 - ye t l2) (p:=p33) (cap:=c34) (hln:=by first|rfl|assumption|omega|(unfold ym;omega))) (.c (j:=0) rfl .n)<|e_p (zb rfl)<|zh<|zd<|zK ?_
 exact zx Tryz.results123 () trivial (zk rfl) rfl (ho:=(.n:PickO _ _ _)) (.n:SelR _ _ _)
theorem zsd {x1:Int} {x2:Int} {p1:Option Addr} {c1:Nat} {p2:Option Addr} {c2:Nat} (hb1:ym x1≤549755813888) (hb2:ym x2≤549755813888):Con yh 123 [.agg #[.bool (decide ((x1)<0)),.slice (p1) ((yd ((x1).natAbs)).length) (c1)],.agg #[.bool (decide ((x2)<0)),.slice (p2) ((yd ((x2).natAbs)).length) (c2)]] [] [slF (rI .u32) (p1) (c1) (yd ((x1).natAbs)),slF (rI .u32) (p2) (c2) (yd ((x2).natAbs))] (Y:=Unit) (fun y=>True) (fun y=> ya yb ((x1 - x2).sign)) (fun y=>[]) (fun y=>[]):=by
  have h:= @zOd (decide ((x1)<0)) p1 (yd (x1).natAbs).length c1 (yd (x1).natAbs) (decide ((x2)<0)) p2 (yd (x2).natAbs).length c2 (yd (x2).natAbs) rfl rfl hb1 hb2
  rw [yy,yy] at h
  exact h
theorem zPd {x1:Int} {x2:Int} {p1:Option Addr} {c1:Nat} {p2:Option Addr} {c2:Nat} (hb1:ym x1≤274877906944) (hb2:ym x2≤274877906944) (hy:x2≠0):Con yh 110 [.agg #[.bool (decide (x1<0)),.slice p1 ((yd ((x1).natAbs)).length) c1],.agg #[.bool (decide (x2<0)),.slice p2 ((yd ((x2).natAbs)).length) c2]] [] [slF (rI .u32) p1 c1 (yd ((x1).natAbs)),slF (rI .u32) p2 c2 (yd ((x2).natAbs))] (Y:=(Option Addr)×Nat×(Option Addr)×Nat) (fun y=>True) (fun y=> .tuple #[.agg #[.bool (decide ((yC x1 x2)<0)),.slice (y.1) ((yd ((yC x1 x2).natAbs)).length) (y.2.1)],.agg #[.bool (decide ((yV x1 x2)<0)),.slice (y.2.2.1) ((yd ((yV x1 x2).natAbs)).length) (y.2.2.2)],ya yb 0]) (fun y=>[]) (fun y=>[slF (rI .u32) (y.1) (y.2.1) (yd ((yC x1 x2).natAbs)),slF (rI .u32) (y.2.2.1) (y.2.2.2) (yd ((yV x1 x2).natAbs))]):=by
 refine zn Tryz.func110 rfl rfl rfl (fun c=> ?_)
 show RunC _ _ _ _ _ [(0,.agg #[.bool (decide (x1<0)),.slice p1 ((yd ((x1).natAbs)).length) c1]),(1,.agg #[.bool (decide (x2<0)),.slice p2 ((yd ((x2).natAbs)).length) c2])] [] [slF (rI .u32) p1 c1 (yd ((x1).natAbs)),slF (rI .u32) p2 c2 (yd ((x2).natAbs))]
 refine zia 0 rfl (fun hL0=> ?_)
 refine zia 1 rfl (fun hL1=> ?_)
 have hfl:=Big.ln_fq (x:=x1) hy
 have hml:=yT (yC x1 x2) x2
 unfold ym at hb1 hb2 hfl hml
 have hd1:=Nat.div_le_self x1.natAbs x2.natAbs
 have hd2:=Nat.mod_lt x1.natAbs (show 0<x2.natAbs by omega)
 have hl1:=yB hd1
 have hl2:=yB (Nat.le_of_lt hd2)
 refine zg<|za<|zO rfl rfl (zS rfl rfl) (fun b1=> ?_)
 refine zO rfl rfl (zS rfl rfl) (fun b2=> ?_)
 refine zO rfl rfl (zp zr41 rfl) (fun b3=> ?_)
 refine zO rfl rfl (zp zr41 rfl) (fun b4=> ?_)
 refine e_p (zb rfl)<|zh<|zd<|zg<|zxa (.c (i:=3) rfl (.c (i:=2) rfl (.c (i:=0) rfl (.c (i:=0) rfl .n))))<|zba (OW:=[boxA b1 41 [.bool (decide (x1<0)),.slice p1 ((yd ((x1).natAbs)).length) c1],boxA b2 41 [.bool (decide (x2<0)),.slice p2 ((yd ((x2).natAbs)).length) c2]]) (O:=[boxA b4 41 [wz.b,wz.l],boxA b3 41 [wz.b,wz.l]]) 4 mixed (.then .ret) kr<|e_uw 0 rfl rfl (zc 0 ty41 rfl rfl (.t2 .nil))<|e_uw 2 rfl rfl (zc 1 ty41 rfl rfl (.t2 .nil))<|e_one 1 (zE rfl rfl rfl rfl (.c rfl .n) ce111 (zVc (z:=x1) (p:=p1) (cap:=c1) (hln:=by first|rfl|assumption|omega|(unfold ym;omega)|(unfold ym;rw [hsq];omega)|(decide +kernel))) (.c (j:=0) rfl .n) ?_)
 rintro ⟨p25,c26⟩ -
 dsimp only [aq,nq,cq]
 refine e_one 3 (zE rfl rfl rfl rfl (.c rfl .n) ce111 (zVc (z:=x2) (p:=p2) (cap:=c2) (hln:=by first|rfl|assumption|omega|(unfold ym;omega)|(unfold ym;rw [hsq];omega)|(decide +kernel))) (.c (j:=2) rfl .n) ?_)
 rintro ⟨p27,c28⟩ -
 dsimp only [aq,nq,cq]
 refine e_one 4 (zy kr rfl rfl rfl rfl rfl sz41 rfl (.t2 .nil) ?_)
 refine zbb (zga (i:=1) rfl)<|e_one 5 (zy kr rfl rfl rfl rfl rfl sz41 rfl (.t2 .nil) ?_)
 refine zX kr<|zd<|zg<|zg<|za<|e_p (zf yg rfl sz39 rfl rfl)<|e_ru (ze 0 ty39 rfl rfl rfl)<|e_p (zQ yf rfl)<|e_p (zCa rfl rfl)<|zh<|zd<|zG rfl (fun h9=> ?_) (fun h9=> ?_)
 ·
  exact absurd (yN.1 (show (yd x2.natAbs).length=0 by omega)) om
 ·
  refine zt<|zd<|zg<|za<|e_p (zf yg rfl sz39 rfl rfl)<|e_ru (ze 1 ty39 rfl rfl rfl)<|e_p (zf yg rfl sz39 rfl rfl)<|e_ru (ze 0 ty39 rfl rfl rfl)<|zJ rfl rfl (.c rfl (.c rfl .n)) ce131 (zhd (a:=(x1).natAbs) (b:=(x2).natAbs) (p1:=p25) (c1:=c26) (p2:=p27) (c2:=c28) (hb1:=by first|rfl|assumption|omega|(unfold ym;omega)|(unfold ym;rw [hsq];omega)|(decide +kernel)) (hb2:=by first|rfl|assumption|omega|(unfold ym;omega)|(unfold ym;rw [hsq];omega)|(decide +kernel)) (hb0:=by first|rfl|assumption|omega|(unfold ym;omega)|(unfold ym;rw [hsq];omega)|(decide +kernel))) (.c (j:=1) rfl (.c (j:=0) rfl .n)) ?_
  rintro ⟨p310,c311,p412,c413⟩ -
  dsimp only [aq,nq,cq]
  refine e_mv rfl<|e_p (zC rfl rfl)<|e_p (zC rfl rfl)<|e_p (zb rfl)<|e_p (zb rfl)<|zh<|zd<|zg ?_
  obtain ⟨Q,hQ⟩:∃z,z=((x1).natAbs) / ((x2).natAbs):=⟨_,rfl⟩
  rw [← hQ]
  obtain ⟨R0,hR0⟩:∃z,z=((x1).natAbs)%((x2).natAbs):=⟨_,rfl⟩
  rw [← hR0]
  rw [← hQ] at hl1
  rw [← hR0] at hl2
  have hsq:(yA (decide (decide (x1<0)≠decide (x2<0))) (Q:Int)).natAbs=Q:=by rw [yU om];exact Int.toNat_natCast _
  refine za<|e_p (zf yg rfl sz4 rfl rfl)<|e_ru (ze 1 ty4 rfl rfl rfl)<|e_p (zf yg rfl sz4 rfl rfl)<|e_ru (ze 0 ty4 rfl rfl rfl)<|e_p (zRa yO rfl rfl)<|e_mv rfl<|zJ rfl rfl (.c rfl (.c rfl .n)) ce112 (zsb (s:=decide (decide (x1<0)≠decide (x2<0))) (a:=Q) (p:=p310) (cap:=c311) (hln:=by first|rfl|assumption|omega|(unfold ym;omega)|(unfold ym;rw [hsq];omega)|(decide +kernel))) (.c (j:=0) rfl .n) ?_
  rintro ⟨p214,c215⟩ -
  dsimp only [aq,nq,cq]
  refine zO rfl rfl (zp zr41 rfl) (fun b16=> ?_)
  refine zo 0 rfl rfl rfl rfl rfl sz41 rfl (.t2 .nil) .z<|zh<|zd<|zg<|zg<|za<|e_p (zf yg rfl sz4 rfl rfl)<|e_ru (ze 2 ty4 rfl rfl rfl)<|e_p (zf yg rfl sz4 rfl rfl)<|e_ru (ze 1 ty4 rfl rfl rfl)<|e_p (zRa yO rfl rfl)<|zW rfl rfl (zV rfl) (fun hsd=> ?_) (fun hsd=> ?_)
  ·
   refine e_mv rfl<|e_p (zQ yf rfl)<|e_p (zBa rfl rfl)<|e_p (zl rfl rfl)<|zh<|zd<|zG rfl (fun hadj=> ?_) (fun hadj=> ?_)
   ·
    have hr0:x1.natAbs%x2.natAbs≠0:=fun e=>by rw [hR0,e,Big.digs_zero] at hadj;exact absurd hadj dd
    have hqz:yA (decide (decide (x1<0)≠decide (x2<0))) (Q:Int) - 1=yC x1 x2:=by have h9:=(Big.fq_odd hy hsd hr0).1;rw [← h9,decide_eq_true hsd,hQ,Big.sg_t,Big.sg_t];omega
    refine zba (OW:=[boxA b16 41 [.bool (decide ((yA (decide (decide (x1<0)≠decide (x2<0))) (Q:Int))<0)),.slice p214 ((yd ((yA (decide (decide (x1<0)≠decide (x2<0))) (Q:Int)).natAbs)).length) c215]]) (O:=[boxA b2 41 [.bool (decide (x2<0)),.slice p27 ((yd ((x2).natAbs)).length) c28],boxA b1 41 [.bool (decide (x1<0)),.slice p25 ((yd ((x1).natAbs)).length) c26],boxA b4 41 [wz.b,wz.l],boxA b3 41 [wz.b,wz.l]]) 3 mixed (.then .ret) kr<|e_uw 0 rfl rfl (zc 0 ty41 rfl rfl (.t2 .nil))<|e_one 1 (zE rfl rfl rfl rfl (.c rfl .n) ce113 (zDf (z:=1) (hz:=by first|rfl|assumption|omega|(unfold ym;omega)|(unfold ym;rw [hsq];omega)|(decide +kernel))) (.n) ?_)
    rintro ⟨p217,c218⟩ -
    dsimp only [aq,nq,cq]
    refine e_one 2 (zE rfl rfl rfl rfl (.c rfl (.c rfl .n)) ce133 (zpc (x1:=yA (decide (decide (x1<0)≠decide (x2<0))) (Q:Int)) (x2:=1) (p1:=p214) (c1:=c215) (p2:=p217) (c2:=c218) (hb1:=by first|rfl|assumption|omega|(unfold ym;omega)|(unfold ym;rw [hsq];omega)|(decide +kernel)) (hb2:=by first|rfl|assumption|omega|(unfold ym;omega)|(unfold ym;rw [hsq];omega)|(decide +kernel))) (.c (j:=1) rfl (.c (j:=0) rfl .n)) ?_)
    rintro ⟨p319,c320⟩ -
    dsimp only [aq,nq,cq]
    refine e_one 3 (zy kr rfl rfl rfl rfl rfl sz41 rfl (.t2 .nil) ?_)
    refine zX kr<|zd<|zg ?_
    have e21:(yA (decide (decide (x1<0)≠decide (x2<0))) (Q:Int)) - 1=yC x1 x2:=by exact hqz
    rw [e21]
    refine zxa (.c (i:=4) rfl (.c (i:=3) rfl (.c (i:=0) rfl (.c (i:=0) rfl (.c (i:=0) rfl .n)))))<|zba (OW:=[boxA b3 41 [wz.b,wz.l],boxA b4 41 [wz.b,wz.l]]) (O:=[boxA b16 41 [.bool (decide ((yC x1 x2)<0)),.slice p319 ((yd ((yC x1 x2).natAbs)).length) c320],boxA b2 41 [.bool (decide (x2<0)),.slice p27 ((yd ((x2).natAbs)).length) c28],boxA b1 41 [.bool (decide (x1<0)),.slice p25 ((yd ((x1).natAbs)).length) c26]]) 6 mixed (.then .ret) kr<|e_uw 0 rfl rfl (zc 2 ty41 rfl rfl (.t2 .nil))<|e_uw 1 rfl rfl (zc 4 ty41 rfl rfl (.t2 .nil))<|e_uw 2 rfl rfl (zc 2 ty41 rfl rfl (.t2 .nil))<|e_uw 3 rfl rfl (zc 3 ty41 rfl rfl (.t2 .nil))<|e_one 4 (zE rfl rfl rfl rfl (.c rfl (.c rfl .n)) ce73 (zqc (x1:=yC x1 x2) (x2:=x2) (p1:=p319) (c1:=c320) (p2:=p27) (c2:=c28) (hb1:=by first|rfl|assumption|omega|(unfold ym;omega)|(unfold ym;rw [hsq];omega)|(decide +kernel)) (hb2:=by first|rfl|assumption|omega|(unfold ym;omega)|(unfold ym;rw [hsq];omega)|(decide +kernel))) (.c (j:=0) rfl (.c (j:=5) rfl .n)) ?_)
    rintro ⟨p322,c323⟩ -
    dsimp only [aq,nq,cq]
    refine e_one 5 (zE rfl rfl rfl rfl (.c rfl (.c rfl .n)) ce133 (zpc (x1:=x1) (x2:=(yC x1 x2)*x2) (p1:=p25) (c1:=c26) (p2:=p322) (c2:=c323) (hb1:=by first|rfl|assumption|omega|(unfold ym;omega)|(unfold ym;rw [hsq];omega)|(decide +kernel)) (hb2:=by first|rfl|assumption|omega|(unfold ym;omega)|(unfold ym;rw [hsq];omega)|(decide +kernel))) (.c (j:=7) rfl (.c (j:=0) rfl .n)) ?_)
    rintro ⟨p324,c325⟩ -
    dsimp only [aq,nq,cq]
    refine e_one 6 (zy kr rfl rfl rfl rfl rfl sz41 rfl (.t2 .nil) ?_)
    refine zbb (zga (i:=1) rfl)<|e_one 7 (zy kr rfl rfl rfl rfl rfl sz41 rfl (.t2 .nil) ?_)
    refine e_pv 8 rfl rfl (zb rfl)<|zX kr<|zd<|zK ?_
    have hz2:x1 - yC x1 x2*x2=yV x1 x2:=by unfold yV;rw [Int.mul_comm]
    exact zbd Tryz.results110 (p319,c320,p324,c325) trivial (zD 1 ty41 rfl rfl (.t2 .nil)) (zD 0 ty41 rfl rfl (.t2 .nil)) (zk rfl) (by rw [hz2]) (ho:=(.n:PickO _ _ _)) ((.c (j:=2) rfl (.e (j:=0) rfl (by rw [hz2]) .n)):SelR _ _ _)
   ·
    have hr0:x1.natAbs%x2.natAbs=0:=yN.1 (by rw [← hR0];omega)
    have hqz:yA (decide (decide (x1<0)≠decide (x2<0))) (Q:Int)=yC x1 x2:=by rw [decide_eq_true hsd,hQ];exact (Big.fq_even hy hsd hr0).1
    refine zt<|zd<|zg ?_
    have e26:yA (decide (decide (x1<0)≠decide (x2<0))) (Q:Int)=yC x1 x2:=by exact hqz
    rw [e26]
    refine zxa (.c (i:=4) rfl (.c (i:=3) rfl (.c (i:=0) rfl (.c (i:=0) rfl (.c (i:=0) rfl .n)))))<|zba (OW:=[boxA b3 41 [wz.b,wz.l],boxA b4 41 [wz.b,wz.l]]) (O:=[boxA b16 41 [.bool (decide ((yC x1 x2)<0)),.slice p214 ((yd ((yC x1 x2).natAbs)).length) c215],boxA b2 41 [.bool (decide (x2<0)),.slice p27 ((yd ((x2).natAbs)).length) c28],boxA b1 41 [.bool (decide (x1<0)),.slice p25 ((yd ((x1).natAbs)).length) c26]]) 6 mixed (.then .ret) kr<|e_uw 0 rfl rfl (zc 2 ty41 rfl rfl (.t2 .nil))<|e_uw 1 rfl rfl (zc 4 ty41 rfl rfl (.t2 .nil))<|e_uw 2 rfl rfl (zc 2 ty41 rfl rfl (.t2 .nil))<|e_uw 3 rfl rfl (zc 3 ty41 rfl rfl (.t2 .nil))<|e_one 4 (zE rfl rfl rfl rfl (.c rfl (.c rfl .n)) ce73 (zqc (x1:=yC x1 x2) (x2:=x2) (p1:=p214) (c1:=c215) (p2:=p27) (c2:=c28) (hb1:=by first|rfl|assumption|omega|(unfold ym;omega)|(unfold ym;rw [hsq];omega)|(decide +kernel)) (hb2:=by first|rfl|assumption|omega|(unfold ym;omega)|(unfold ym;rw [hsq];omega)|(decide +kernel))) (.c (j:=0) rfl (.c (j:=3) rfl .n)) ?_)
    rintro ⟨p327,c328⟩ -
    dsimp only [aq,nq,cq]
    refine e_one 5 (zE rfl rfl rfl rfl (.c rfl (.c rfl .n)) ce133 (zpc (x1:=x1) (x2:=(yC x1 x2)*x2) (p1:=p25) (c1:=c26) (p2:=p327) (c2:=c328) (hb1:=by first|rfl|assumption|omega|(unfold ym;omega)|(unfold ym;rw [hsq];omega)|(decide +kernel)) (hb2:=by first|rfl|assumption|omega|(unfold ym;omega)|(unfold ym;rw [hsq];omega)|(decide +kernel))) (.c (j:=5) rfl (.c (j:=0) rfl .n)) ?_)
    rintro ⟨p329,c330⟩ -
    dsimp only [aq,nq,cq]
    refine e_one 6 (zy kr rfl rfl rfl rfl rfl sz41 rfl (.t2 .nil) ?_)
    refine zbb (zga (i:=1) rfl)<|e_one 7 (zy kr rfl rfl rfl rfl rfl sz41 rfl (.t2 .nil) ?_)
    refine e_pv 8 rfl rfl (zb rfl)<|zX kr<|zd<|zK ?_
    have hz2:x1 - yC x1 x2*x2=yV x1 x2:=by unfold yV;rw [Int.mul_comm]
    exact zbd Tryz.results110 (p214,c215,p329,c330) trivial (zD 1 ty41 rfl rfl (.t2 .nil)) (zD 0 ty41 rfl rfl (.t2 .nil)) (zk rfl) (by rw [hz2]) (ho:=(.n:PickO _ _ _)) ((.c (j:=2) rfl (.e (j:=0) rfl (by rw [hz2]) .n)):SelR _ _ _)
  ·
   have hs9:=Decidable.not_not.1 hsd
   have hqz:yA (decide (decide (x1<0)≠decide (x2<0))) (Q:Int)=yC x1 x2:=by rw [decide_eq_false hsd,hQ];exact (Big.fq_same hy hs9).1
   refine e_no<|e_no<|e_no<|e_p (zl rfl rfl)<|zh<|zd<|zXa rfl rfl<|zt<|zd<|zg ?_
   have e31:yA (decide (decide (x1<0)≠decide (x2<0))) (Q:Int)=yC x1 x2:=by exact hqz
   rw [e31]
   refine zxa (.c (i:=4) rfl (.c (i:=3) rfl (.c (i:=0) rfl (.c (i:=0) rfl (.c (i:=0) rfl .n)))))<|zba (OW:=[boxA b3 41 [wz.b,wz.l],boxA b4 41 [wz.b,wz.l]]) (O:=[boxA b16 41 [.bool (decide ((yC x1 x2)<0)),.slice p214 ((yd ((yC x1 x2).natAbs)).length) c215],boxA b2 41 [.bool (decide (x2<0)),.slice p27 ((yd ((x2).natAbs)).length) c28],boxA b1 41 [.bool (decide (x1<0)),.slice p25 ((yd ((x1).natAbs)).length) c26]]) 6 mixed (.then .ret) kr<|e_uw 0 rfl rfl (zc 2 ty41 rfl rfl (.t2 .nil))<|e_uw 1 rfl rfl (zc 4 ty41 rfl rfl (.t2 .nil))<|e_uw 2 rfl rfl (zc 2 ty41 rfl rfl (.t2 .nil))<|e_uw 3 rfl rfl (zc 3 ty41 rfl rfl (.t2 .nil))<|e_one 4 (zE rfl rfl rfl rfl (.c rfl (.c rfl .n)) ce73 (zqc (x1:=yC x1 x2) (x2:=x2) (p1:=p214) (c1:=c215) (p2:=p27) (c2:=c28) (hb1:=by first|rfl|assumption|omega|(unfold ym;omega)|(unfold ym;rw [hsq];omega)|(decide +kernel)) (hb2:=by first|rfl|assumption|omega|(unfold ym;omega)|(unfold ym;rw [hsq];omega)|(decide +kernel))) (.c (j:=0) rfl (.c (j:=3) rfl .n)) ?_)
   rintro ⟨p332,c333⟩ -
   dsimp only [aq,nq,cq]
   refine e_one 5 (zE rfl rfl rfl rfl (.c rfl (.c rfl .n)) ce133 (zpc (x1:=x1) (x2:=(yC x1 x2)*x2) (p1:=p25) (c1:=c26) (p2:=p332) (c2:=c333) (hb1:=by first|rfl|assumption|omega|(unfold ym;omega)|(unfold ym;rw [hsq];omega)|(decide +kernel)) (hb2:=by first|rfl|assumption|omega|(unfold ym;omega)|(unfold ym;rw [hsq];omega)|(decide +kernel))) (.c (j:=5) rfl (.c (j:=0) rfl .n)) ?_)
   rintro ⟨p334,c335⟩ -
   dsimp only [aq,nq,cq]
   refine e_one 6 (zy kr rfl rfl rfl rfl rfl sz41 rfl (.t2 .nil) ?_)
   refine zbb (zga (i:=1) rfl)<|e_one 7 (zy kr rfl rfl rfl rfl rfl sz41 rfl (.t2 .nil) ?_)
   refine e_pv 8 rfl rfl (zb rfl)<|zX kr<|zd<|zK ?_
   have hz2:x1 - yC x1 x2*x2=yV x1 x2:=by unfold yV;rw [Int.mul_comm]
   exact zbd Tryz.results110 (p214,c215,p334,c335) trivial (zD 1 ty41 rfl rfl (.t2 .nil)) (zD 0 ty41 rfl rfl (.t2 .nil)) (zk rfl) (by rw [hz2]) (ho:=(.n:PickO _ _ _)) ((.c (j:=2) rfl (.e (j:=0) rfl (by rw [hz2]) .n)):SelR _ _ _)
theorem zvb {w1:Wd} {w2:Wd} {x1:Int} {x2:Int} (hb1:ym x1≤274877906944) (hb2:ym x2≤274877906944) (hy:x2≠0):Con yh 110 [.agg #[w1.b,w1.l],.agg #[w2.b,w2.l]] [] [zF w1 (x1),zF w2 (x2)] (Y:=(Wd)×(Wd)) (fun y=>True) (fun y=> .tuple #[.agg #[y.1.b,y.1.l],.agg #[y.2.b,y.2.l],ya yb (0)]) (fun y=>[]) (fun y=>[zF y.1 (yC x1 x2),zF y.2 (yV x1 x2)]):=by
  exact zpf (zCc (fun p1 c1 p2 c2=>zPd hb1 hb2 hy))
end Go.Proofs.YtjcpbhlijoigfaaGreat.Sp
namespace Go.Proofs.YtjcpbhlijoigfaaGreat.Sp
open Go
set_option linter.unusedVariables false
set_option maxRecDepth 100000
set_option maxHeartbeats 8000000
theorem zid {z:Int} (hz: -9223372036854775808≤z∧z≤9223372036854775807):Con yh 74 [ya yb z] [] [] (Y:=(Option Addr)×Nat) (fun y=>True) (fun y=> .agg #[.bool (decide (z<0)),.slice (y.1) ((yd ((z).natAbs)).length) (y.2)]) (fun y=>[]) (fun y=>[slF (rI .u32) (y.1) (y.2) (yd ((z).natAbs))]):=by
 refine zn Tryz.func74 rfl rfl rfl (fun c=> ?_)
 show RunC _ _ _ _ _ [(0,ya yb z)] [] []
 refine zg<|za<|zO rfl rfl (zp zr41 rfl) (fun b1=> ?_)
 refine zh<|zd<|zg<|za<|e_mv rfl<|zJ rfl rfl (.c rfl .n) ce113 (zDf (z:=z) (hz:=ass)) (.n) ?_
 rintro ⟨p22,c23⟩ -
 dsimp only [aq,nq,cq]
 refine zo 0 rfl rfl rfl rfl rfl sz41 rfl (.t2 .nil) .z<|zh<|zd<|zK ?_
 exact zx Tryz.results74 (p22,c23) trivial (zD 0 ty41 rfl rfl (.t2 .nil)) rfl (ho:=(.n:PickO _ _ _)) ((.c (j:=0) rfl .n):SelR _ _ _)
theorem zIb {z:Int} (hz: -9223372036854775808≤z∧z≤9223372036854775807):Con yh 74 [ya yb (z)] [] [] (Y:=(Wd)) (fun y=>True) (fun y=> .agg #[y.b,y.l]) (fun y=>[]) (fun y=>[zF y (z)]):=by
  exact zYb (zid hz)
theorem zjd {z:Int} (hz: -9223372036854775808≤z∧z≤9223372036854775807):Con yh 26 [ya yb z] [] [] (Y:=Wd×Wd) (fun y=>True) (fun y=> .agg #[y.1.b,y.1.l,y.2.b,y.2.l]) (fun y=>[]) (fun y=>[qF true y.1 y.2 ((z:Int):Rat)]):=by
 refine zn Tryz.func26 rfl rfl rfl (fun c=> ?_)
 show RunC _ _ _ _ _ [(0,ya yb z)] [] []
 refine zg<|za<|zO rfl rfl (zp zr43 rfl) (fun b1=> ?_)
 refine zh<|zd<|zg<|za<|e_mv rfl<|zJ rfl rfl (.c rfl .n) ce74 (zIb (z:=z) (hz:=ass)) (.n) ?_
 rintro w32 -
 dsimp only [aq,nq,cq]
 refine zJ rfl rfl (.c rfl .n) ce74 (zIb (z:=1) (hz:=by first|rfl|assumption|omega|(rw [yr];omega)|(decide +kernel))) (.n) ?_
 rintro w33 -
 dsimp only [aq,nq,cq]
 refine e_p (zM zr43 rfl yl (.c sz41 (.c sz41 .n)) (.c rfl (.c rfl .n)) (.c rfl rfl rfl (.t2 .nil) (.c rfl rfl rfl (.s2 (.t2 .nil)) .n)))<|zo 0 rfl rfl rfl rfl rfl sz43 rfl (.t4 .nil) .z<|zh<|zd<|zK<|zOb (qF true w32 w33 ((z:Int):Rat)) (qF_close 1 0 rfl rfl (by exact ⟨(Rat.num_intCast z).symm,by rw [Rat.den_intCast];rfl,Nat.le_trans (Big.hq_64 hz.1 hz.2) dd⟩)) ?_
 exact zx Tryz.results26 (w32,w33) trivial (zD 0 ty43 rfl rfl (.t4 .nil)) rfl (ho:=(.n:PickO _ _ _)) ((.c (j:=0) rfl .n):SelR _ _ _)
theorem zXc {s:Bool} {p1:Option Addr} {n1:Nat} {c1:Nat} {l1:List Int} {t:Bool} {p2:Option Addr} {n2:Nat} {c2:Nat} {l2:List Int} (hn1:l1.length=n1) (hn2:l2.length=n2) (hm1:n1≤1048576) (hm2:n2≤1048576):Con yh 88 [.agg #[.bool s,.slice p1 n1 c1,.bool t,.slice p2 n2 c2]] [] [slF (rI .u32) p1 c1 l1,slF (rI .u32) p2 c2 l2] (Y:=Unit) (fun y=>True) (fun y=> .bool (decide (Big.qok ((s,l1),(t,l2))))) (fun y=>[]) (fun y=>[]):=by
 refine zn Tryz.func88 rfl rfl rfl (fun c=> ?_)
 show RunC _ _ _ _ _ [(0,.agg #[.bool s,.slice p1 n1 c1,.bool t,.slice p2 n2 c2])] [] [slF (rI .u32) p1 c1 l1,slF (rI .u32) p2 c2 l2]
 refine zia 0 rfl (fun hL0=> ?_)
 refine zUa 0 rfl (fun hE0=> ?_)
 refine zia 1 rfl (fun hL1=> ?_)
 refine zUa 1 rfl (fun hE1=> ?_)
 have hnn1:yP l1:=fun g hg=>(zH.1 (hE0 g hg)).1
 have hnn2:yP l2:=fun g hg=>(zH.1 (hE1 g hg)).1
 have hb1:ym (ye s l1)≤n1:=by have:=yI (s:=s) hnn1;omega
 have hb2:ym (ye t l2)≤n2:=by have:=yI (s:=t) hnn2;omega
 refine zg<|za<|zO rfl rfl (zS rfl rfl) (fun b1=> ?_)
 refine e_p (zb rfl)<|zh<|zd<|zg<|zFa (X:=Unit) (fun x=>True) (fun x=>[(18,.bool (decide (¬(Big.canon s l1∧Big.canon t l2∧0<ye t l2)))),(2,.bool false),(1,yc (some ⟨b1,0,none⟩))]) (fun x=>[boxA b1 43 [.bool s,.slice p1 n1 c1,.bool t,.slice p2 n2 c2]]) (fun x=>[slF (rI .u32) p1 c1 l1,slF (rI .u32) p2 c2 l2]) ?_ ?_
 ·
  refine za<|e_p (zf yl rfl sz41 rfl rfl)<|e_ru (zc 0 ty41 rfl rfl (.t2 .nil))<|zN rfl rfl (.c rfl .n) ce122 (zwc (s:=s) (p:=p1) (n:=n1) (cap:=c1) (l:=l1) (hn:=ass)) (.c (j:=0) rfl .n)<|e_p (ztb rfl)<|zW rfl rfl (zV rfl) (fun h2=> ?_) (fun h2=> ?_)
  ·
   refine e_no<|e_no<|e_no<|e_no<|e_p (zl rfl rfl)<|e_mv rfl<|e_no<|e_no<|e_no<|e_no<|e_p (zl rfl rfl)<|zh ?_
   exact zea () (show True from by first|trivial|omega|simp_all) ((.e rfl (congrArg Value.bool (by simp_all)) (.c rfl (.c rfl .n))):SubM _ _) (ho:=((.c (i:=0) rfl .n):PickO _ _ _)) ((.of [0,1] rfl):SelR _ _ _)
  ·
   refine e_p (zf yl rfl sz41 rfl rfl)<|e_ru (zc 0 ty41 rfl rfl (.s2 (.t2 .nil)))<|zN rfl rfl (.c rfl .n) ce122 (zwc (s:=t) (p:=p2) (n:=n2) (cap:=c2) (l:=l2) (hn:=ass)) (.c (j:=1) rfl .n)<|e_p (ztb rfl)<|e_p (zl rfl rfl)<|zW rfl rfl (zV rfl) (fun h3=> ?_) (fun h3=> ?_)
   ·
    refine e_no<|e_no<|e_no<|e_no<|e_p (zl rfl rfl)<|zh ?_
    exact zea () (show True from by first|trivial|omega|simp_all) ((.e rfl (congrArg Value.bool (by simp_all)) (.c rfl (.c rfl .n))):SubM _ _) (ho:=((.c (i:=0) rfl .n):PickO _ _ _)) ((.of [0,1] rfl):SelR _ _ _)
   ·
    refine e_p (zf yl rfl sz41 rfl rfl)<|e_ru (zc 0 ty41 rfl rfl (.s2 (.t2 .nil)))<|zN rfl rfl (.c rfl .n) ce105 (zLd (s:=t) (p:=p2) (n:=n2) (cap:=c2) (l:=l2) (hn:=ass) (hln:=by first|rfl|assumption|omega|(rw [yr];omega)|(decide +kernel))) (.c (j:=1) rfl .n)<|e_p (zJa rfl rfl)<|e_p (zl rfl rfl)<|zh ?_
    exact zea () (show True from by first|trivial|omega|simp_all) ((.e rfl (congrArg Value.bool (by exact decide_eq_decide.2 (Big.sgn_le (Decidable.not_not.1 ‹_›) (Decidable.not_not.1 ‹_›)))) (.c rfl (.c rfl .n))):SubM _ _) (ho:=((.c (i:=0) rfl .n):PickO _ _ _)) ((.of [0,1] rfl):SelR _ _ _)
 ·
  rintro ⟨⟩ -
  try dsimp only
  refine zG rfl (fun hc=> ?_) (fun hc=> ?_)
  ·
   refine zg<|za<|e_p (zb rfl)<|zh<|zd<|zK<|zi ?_
   exact zx Tryz.results88 () trivial (zk rfl) (congrArg Value.bool (decide_eq_false (fun h=>hc ⟨h.1,h.2.1,h.2.2.1⟩))) (ho:=(.n:PickO _ _ _)) (.n:SelR _ _ _)
  ·
   have hcc:=Decidable.not_not.1 hc
   have hgl:=Big.zFd (n:=ye s l1) (d:=ye t l2) om
   refine zt<|zd<|zg<|za<|e_p (zf yl rfl sz41 rfl rfl)<|e_ru (zc 0 ty41 rfl rfl (.t2 .nil))<|e_p (zf yl rfl sz41 rfl rfl)<|e_ru (zc 0 ty41 rfl rfl (.s2 (.t2 .nil)))<|zJ rfl rfl (.c rfl (.c rfl .n)) ce109 (zDe (s:=s) (p1:=p1) (n1:=n1) (c1:=c1) (l1:=l1) (t:=t) (p2:=p2) (n2:=n2) (c2:=c2) (l2:=l2) (hn1:=ass) (hn2:=ass) (hm1:=by first|rfl|assumption|omega|(rw [yr];omega)|(decide +kernel)) (hm2:=by first|rfl|assumption|omega|(rw [yr];omega)|(decide +kernel))) (.c (j:=0) rfl (.c (j:=1) rfl .n)) ?_
   rintro ⟨p34,c35⟩ -
   dsimp only [aq,nq,cq]
   refine zJ rfl rfl (.c rfl .n) ce74 (zid (z:=1) (hz:=by first|rfl|assumption|omega|(rw [yr];omega)|(decide +kernel))) (.n) ?_
   rintro ⟨p26,c27⟩ -
   dsimp only [aq,nq,cq]
   refine zN rfl rfl (.c rfl (.c rfl .n)) ce123 (zsd (x1:=((Nat.gcd (ye s l1).natAbs (ye t l2).natAbs:Nat):Int)) (x2:=1) (p1:=p34) (c1:=c35) (p2:=p26) (c2:=c27) (hb1:=by first|rfl|assumption|omega|(rw [yr];omega)|(decide +kernel)) (hb2:=by first|rfl|assumption|omega|(rw [yr];omega)|(decide +kernel))) (.c (j:=1) rfl (.c (j:=0) rfl .n))<|e_p (zCa rfl rfl)<|e_p (zb rfl)<|zh<|zd<|zK ?_
   exact zx Tryz.results88 () trivial (zk rfl) (congrArg Value.bool (decide_eq_decide.2 (Big.qok_sub (x:=((s,l1),(t,l2))) (Decidable.not_not.1 hc)).symm)) (ho:=(.n:PickO _ _ _)) (.n:SelR _ _ _)
theorem zDc {u1:Wd} {v1:Wd} {q1:Rat}:Con yh 88 [.agg #[u1.b,u1.l,v1.b,v1.l]] [] [qF true u1 v1 (q1)] (Y:=Unit) (fun y=>True) (fun y=> .bool true) (fun y=>[]) (fun y=>[]):=by
  exact zlg (fun x hx hk h1 h2=>by have h:= @zXc x.1.1 u1.p _ u1.c x.1.2 x.2.1 v1.p _ v1.c x.2.2 rfl rfl h1 h2;rw [decide_eq_true (hk rfl)] at h;exact h)
theorem zoe {s:Bool} {p1:Option Addr} {n1:Nat} {c1:Nat} {l1:List Int} {t:Bool} {p2:Option Addr} {n2:Nat} {c2:Nat} {l2:List Int} (hn1:l1.length=n1) (hn2:l2.length=n2) (hm1:n1≤1048576) (hm2:n2≤1048576):Con yh 68 [.agg #[.bool s,.slice p1 n1 c1,.bool t,.slice p2 n2 c2]] [] [slF (rI .u32) p1 c1 l1,slF (rI .u32) p2 c2 l2] (Y:=Wd×Wd) (fun y=>True) (fun y=> .agg #[y.1.b,y.1.l,y.2.b,y.2.l]) (fun y=>[]) (fun y=>[qF true y.1 y.2 (Big.qv ((s,l1),(t,l2)))]):=by
 refine zn Tryz.func68 rfl rfl rfl (fun c=> ?_)
 show RunC _ _ _ _ _ [(0,.agg #[.bool s,.slice p1 n1 c1,.bool t,.slice p2 n2 c2])] [] [slF (rI .u32) p1 c1 l1,slF (rI .u32) p2 c2 l2]
 refine zia 0 rfl (fun hL0=> ?_)
 refine zUa 0 rfl (fun hE0=> ?_)
 refine zia 1 rfl (fun hL1=> ?_)
 refine zUa 1 rfl (fun hE1=> ?_)
 have hnn1:yP l1:=fun g hg=>(zH.1 (hE0 g hg)).1
 have hnn2:yP l2:=fun g hg=>(zH.1 (hE1 g hg)).1
 have hb1:ym (ye s l1)≤n1:=by have:=yI (s:=s) hnn1;omega
 have hb2:ym (ye t l2)≤n2:=by have:=yI (s:=t) hnn2;omega
 refine zg<|za<|zO rfl rfl (zS rfl rfl) (fun b1=> ?_)
 refine zO rfl rfl (zp zr43 rfl) (fun b2=> ?_)
 refine zh<|zd<|zg<|zg<|za<|e_ru (zc 1 ty43 rfl rfl (.t4 .nil))<|zN rfl rfl (.c rfl .n) ce88 (zXc (s:=s) (p1:=p1) (n1:=n1) (c1:=c1) (l1:=l1) (t:=t) (p2:=p2) (n2:=n2) (c2:=c2) (l2:=l2) (hn1:=ass) (hn2:=ass) (hm1:=ass) (hm2:=ass)) (.c (j:=0) rfl (.c (j:=1) rfl .n))<|zh<|zd<|zG rfl (fun hq=> ?_) (fun hq=> ?_)
 ·
  have hrp:=Big.raw_parts (x:=((s,l1),(t,l2))) hnn1 hnn2 hq
  have hqp:=Big.qv_parts (x:=((s,l1),(t,l2))) hq
  have hl:yR (Big.qv ((s,l1),(t,l2)))≤1048576:=by unfold yR;rw [hqp.1,hqp.2];dsimp only;omega
  refine zg<|za<|e_ru (zc 1 ty43 rfl rfl (.t4 .nil))<|zo 0 rfl rfl rfl rfl rfl sz43 rfl (.t4 .nil) .z<|zh<|zd<|zK<|zi<|zOb (qF true ⟨s,p1,n1,c1⟩ ⟨t,p2,n2,c2⟩ (Big.qv ((s,l1),(t,l2)))) (fun g r=>qF_rawI 0 1 rfl rfl hn1 hn2 hm1 hm2 hq g r) ?_
  exact zx Tryz.results68 (⟨s,p1,n1,c1⟩,⟨t,p2,n2,c2⟩) trivial (zD 0 ty43 rfl rfl (.t4 .nil)) rfl (ho:=(.n:PickO _ _ _)) ((.c (j:=0) rfl .n):SelR _ _ _)
 ·
  have hz:=Big.qv_not (x:=((s,l1),(t,l2))) hq
  refine zt<|zd<|zg<|za<|zJ rfl rfl (.c rfl .n) ce26 (zjd (z:=0) (hz:=by first|rfl|assumption|omega|(rw [yr];omega)|(decide +kernel))) (.n) ?_
  rintro ⟨w33,w44⟩ -
  dsimp only [aq,nq,cq]
  refine zo 0 rfl rfl rfl rfl rfl sz43 rfl (.t4 .nil) .z<|zh<|zd<|zK ?_
  exact zx Tryz.results68 (w33,w44) trivial (zD 0 ty43 rfl rfl (.t4 .nil)) rfl (ho:=(.n:PickO _ _ _)) ((.e (j:=0) rfl (by rw [hz];rfl) .n):SelR _ _ _)
theorem zeb {k1:Bool} {u1:Wd} {v1:Wd} {q1:Rat}:Con yh 68 [.agg #[u1.b,u1.l,v1.b,v1.l]] [] [qF k1 u1 v1 (q1)] (Y:=(Wd)×(Wd)) (fun y=>True) (fun y=> .agg #[y.1.b,y.1.l,y.2.b,y.2.l]) (fun y=>[]) (fun y=>[qF true y.1 y.2 (q1)]):=by
  exact zof (fun x hx hk h1 h2 hl=>by subst hx;exact zoe rfl rfl h1 h2)
theorem zTb {w1:Wd} {w2:Wd} {x1:Int} {x2:Int} (hl1:ym x1≤1048576) (hl2:ym x2≤1048576) (hd:x2≠0):Con yh 72 [.agg #[w1.b,w1.l],.agg #[w2.b,w2.l]] [] [zF w1 x1,zF w2 x2] (Y:=Wd×Wd) (fun y=>True) (fun y=> .agg #[y.1.b,y.1.l,y.2.b,y.2.l]) (fun y=>[]) (fun y=>[qF true y.1 y.2 (Rat.divInt x1 x2)]):=by
 refine zn Tryz.func72 rfl rfl rfl (fun c=> ?_)
 show RunC _ _ _ _ _ [(0,.agg #[w1.b,w1.l]),(1,.agg #[w2.b,w2.l])] [] [zF w1 x1,zF w2 x2]
 refine zg<|za<|zO rfl rfl (zS rfl rfl) (fun b1=> ?_)
 refine zO rfl rfl (zS rfl rfl) (fun b2=> ?_)
 refine zO rfl rfl (zp zr43 rfl) (fun b3=> ?_)
 refine zh<|zd<|zg<|za<|e_ru (zc 2 ty41 rfl rfl (.t2 .nil))<|e_ru (zc 1 ty41 rfl rfl (.t2 .nil))<|zJ rfl rfl (.c rfl (.c rfl .n)) ce109 (zJf (w1:=w1) (w2:=w2) (x1:=x1) (x2:=x2) (hb1:=by first|rfl|assumption|omega|(rw [yr];omega)|(decide +kernel)) (hb2:=by first|rfl|assumption|omega|(rw [yr];omega)|(decide +kernel))) (.c (j:=0) rfl (.c (j:=1) rfl .n)) ?_
 rintro w34 -
 dsimp only [aq,nq,cq]
 refine zO rfl rfl (zp zr41 rfl) (fun b5=> ?_)
 refine zo 0 rfl rfl rfl rfl rfl sz41 rfl (.t2 .nil) .z<|zh<|zd<|zg<|zg<|za<|e_ru (zc 2 ty41 rfl rfl (.t2 .nil))<|zN rfl rfl (.c rfl .n) ce105 (zxc (w1:=w2) (x1:=x2) (hln:=by first|rfl|assumption|omega|(rw [yr];omega)|(decide +kernel))) (.c (j:=2) rfl .n)<|e_p (zaa rfl rfl)<|zh<|zd<|zG rfl (fun hneg=> ?_) (fun hneg=> ?_)
 ·
  have hs:x2<0:=by rcases Big.sign_le (x:=x2) with h|h|h <;> omega
  have hgp:=Big.gcd_pos_right (n:=x1) (d:=x2) om
  have hgl:=Big.zFd (n:=x1) (d:=x2) om
  obtain ⟨hr1,hr2⟩:=Big.red_neg (n:=x1) hs
  refine za<|e_ru (zc 0 ty41 rfl rfl (.t2 .nil))<|zJ rfl rfl (.c rfl .n) ce106 (zKd (w1:=w34) (x1:=((Nat.gcd x1.natAbs x2.natAbs:Nat):Int)) (hln:=by first|rfl|assumption|omega|(rw [yr];omega)|(decide +kernel))) (.c (j:=0) rfl .n) ?_
  rintro w36 -
  dsimp only [aq,nq,cq]
  refine zo 0 rfl rfl rfl rfl rfl sz41 rfl (.t2 .nil) .z<|zh<|zd<|zg<|za<|e_ru (zc 3 ty41 rfl rfl (.t2 .nil))<|e_ru (zc 0 ty41 rfl rfl (.t2 .nil))<|zJ rfl rfl (.c rfl (.c rfl .n)) ce110 (zvb (w1:=w1) (w2:=w36) (x1:=x1) (x2:= - ((Nat.gcd x1.natAbs x2.natAbs:Nat):Int)) (hb1:=by first|rfl|assumption|omega|(rw [yr];omega)|(decide +kernel)) (hb2:=by first|rfl|assumption|omega|(rw [yr];omega)|(decide +kernel)) (hy:=by first|rfl|assumption|omega|(rw [yr];omega)|(decide +kernel))) (.c (j:=2) rfl (.c (j:=0) rfl .n)) ?_
  rintro ⟨w37,w48⟩ -
  dsimp only [aq,nq,cq]
  refine e_mv rfl<|e_p (zC rfl rfl)<|e_p (zC rfl rfl)<|e_p (zC rfl rfl)<|zO rfl rfl (zp zr41 rfl) (fun b9=> ?_)
  refine zO rfl rfl (zp zr41 rfl) (fun b10=> ?_)
  refine zo 1 rfl rfl rfl rfl rfl sz41 rfl (.t2 .nil) (.s .z)<|zo 0 rfl rfl rfl rfl rfl sz41 rfl (.t2 .nil) .z<|e_p (zb rfl)<|zh<|zd<|zg<|za<|e_ru (zc 4 ty41 rfl rfl (.t2 .nil))<|e_ru (zc 2 ty41 rfl rfl (.t2 .nil))<|zJ rfl rfl (.c rfl (.c rfl .n)) ce110 (zvb (w1:=w2) (w2:=w36) (x1:=x2) (x2:= - ((Nat.gcd x1.natAbs x2.natAbs:Nat):Int)) (hb1:=by first|rfl|assumption|omega|(rw [yr];omega)|(decide +kernel)) (hb2:=by first|rfl|assumption|omega|(rw [yr];omega)|(decide +kernel)) (hy:=by first|rfl|assumption|omega|(rw [yr];omega)|(decide +kernel))) (.c (j:=5) rfl (.c (j:=2) rfl .n)) ?_
  rintro ⟨w311,w412⟩ -
  dsimp only [aq,nq,cq]
  refine e_mv rfl<|e_p (zC rfl rfl)<|e_p (zC rfl rfl)<|e_p (zC rfl rfl)<|zO rfl rfl (zp zr41 rfl) (fun b13=> ?_)
  refine zO rfl rfl (zp zr41 rfl) (fun b14=> ?_)
  refine zo 1 rfl rfl rfl rfl rfl sz41 rfl (.t2 .nil) (.s .z)<|zo 0 rfl rfl rfl rfl rfl sz41 rfl (.t2 .nil) .z<|e_p (zb rfl)<|zh<|zd<|zg<|za<|e_ru (zc 3 ty41 rfl rfl (.t2 .nil))<|e_ru (zc 1 ty41 rfl rfl (.t2 .nil))<|e_p (zM zr43 rfl yl (.c sz41 (.c sz41 .n)) (.c rfl (.c rfl .n)) (.c rfl rfl rfl (.t2 .nil) (.c rfl rfl rfl (.s2 (.t2 .nil)) .n)))<|zo 5 rfl rfl rfl rfl rfl sz43 rfl (.t4 .nil) (.s (.s (.s (.s (.s .z)))))<|zh<|zd<|zK<|zOb (qF true w37 w311 (Rat.divInt x1 x2)) (qF_close 2 0 rfl rfl (by exact ⟨hr1,hr2,Nat.le_trans (Big.hq_divInt hd) om⟩)) ?_
  exact zx Tryz.results72 (w37,w311) trivial (zD 5 ty43 rfl rfl (.t4 .nil)) rfl (ho:=(.n:PickO _ _ _)) ((.c (j:=0) rfl .n):SelR _ _ _)
 ·
  have hs:0<x2:=by rcases Big.sign_le (x:=x2) with h|h|h <;> omega
  have hgp:=Big.gcd_pos_right (n:=x1) (d:=x2) om
  have hgl:=Big.zFd (n:=x1) (d:=x2) om
  obtain ⟨hr1,hr2⟩:=Big.red_pos (n:=x1) hs
  refine zt<|zd<|zg<|za<|e_ru (zc 3 ty41 rfl rfl (.t2 .nil))<|e_ru (zc 0 ty41 rfl rfl (.t2 .nil))<|zJ rfl rfl (.c rfl (.c rfl .n)) ce110 (zvb (w1:=w1) (w2:=w34) (x1:=x1) (x2:=((Nat.gcd x1.natAbs x2.natAbs:Nat):Int)) (hb1:=by first|rfl|assumption|omega|(rw [yr];omega)|(decide +kernel)) (hb2:=by first|rfl|assumption|omega|(rw [yr];omega)|(decide +kernel)) (hy:=by first|rfl|assumption|omega|(rw [yr];omega)|(decide +kernel))) (.c (j:=1) rfl (.c (j:=0) rfl .n)) ?_
  rintro ⟨w315,w416⟩ -
  dsimp only [aq,nq,cq]
  refine e_mv rfl<|e_p (zC rfl rfl)<|e_p (zC rfl rfl)<|e_p (zC rfl rfl)<|zO rfl rfl (zp zr41 rfl) (fun b17=> ?_)
  refine zO rfl rfl (zp zr41 rfl) (fun b18=> ?_)
  refine zo 1 rfl rfl rfl rfl rfl sz41 rfl (.t2 .nil) (.s .z)<|zo 0 rfl rfl rfl rfl rfl sz41 rfl (.t2 .nil) .z<|e_p (zb rfl)<|zh<|zd<|zg<|za<|e_ru (zc 4 ty41 rfl rfl (.t2 .nil))<|e_ru (zc 2 ty41 rfl rfl (.t2 .nil))<|zJ rfl rfl (.c rfl (.c rfl .n)) ce110 (zvb (w1:=w2) (w2:=w34) (x1:=x2) (x2:=((Nat.gcd x1.natAbs x2.natAbs:Nat):Int)) (hb1:=by first|rfl|assumption|omega|(rw [yr];omega)|(decide +kernel)) (hb2:=by first|rfl|assumption|omega|(rw [yr];omega)|(decide +kernel)) (hy:=by first|rfl|assumption|omega|(rw [yr];omega)|(decide +kernel))) (.c (j:=4) rfl (.c (j:=2) rfl .n)) ?_
  rintro ⟨w319,w420⟩ -
  dsimp only [aq,nq,cq]
  refine e_mv rfl<|e_p (zC rfl rfl)<|e_p (zC rfl rfl)<|e_p (zC rfl rfl)<|zO rfl rfl (zp zr41 rfl) (fun b21=> ?_)
  refine zO rfl rfl (zp zr41 rfl) (fun b22=> ?_)
  refine zo 1 rfl rfl rfl rfl rfl sz41 rfl (.t2 .nil) (.s .z)<|zo 0 rfl rfl rfl rfl rfl sz41 rfl (.t2 .nil) .z<|e_p (zb rfl)<|zh<|zd<|zg<|za<|e_ru (zc 3 ty41 rfl rfl (.t2 .nil))<|e_ru (zc 1 ty41 rfl rfl (.t2 .nil))<|e_p (zM zr43 rfl yl (.c sz41 (.c sz41 .n)) (.c rfl (.c rfl .n)) (.c rfl rfl rfl (.t2 .nil) (.c rfl rfl rfl (.s2 (.t2 .nil)) .n)))<|zo 5 rfl rfl rfl rfl rfl sz43 rfl (.t4 .nil) (.s (.s (.s (.s (.s .z)))))<|zh<|zd<|zK<|zOb (qF true w315 w319 (Rat.divInt x1 x2)) (qF_close 2 0 rfl rfl (by exact ⟨hr1,hr2,Nat.le_trans (Big.hq_divInt hd) om⟩)) ?_
  exact zx Tryz.results72 (w315,w319) trivial (zD 5 ty43 rfl rfl (.t4 .nil)) rfl (ho:=(.n:PickO _ _ _)) ((.c (j:=0) rfl .n):SelR _ _ _)
theorem zhg {w1:Wd} {w2:Wd} {x1:Int} {x2:Int} (hl1:ym x1≤1048576) (hl2:ym x2≤1048576):Con yh 127 [.agg #[w1.b,w1.l],.agg #[w2.b,w2.l]] [] [zF w1 x1,zF w2 x2] (Y:=Wd×Wd) (fun y=>True) (fun y=> .tuple #[.agg #[y.1.b,y.1.l,y.2.b,y.2.l],ya yb (if x2=0 then 14 else 0)]) (fun y=>[]) (fun y=>[qF (decide (x2≠0)) y.1 y.2 (Rat.divInt x1 x2)]):=by
 refine zn Tryz.func127 rfl rfl rfl (fun c=> ?_)
 show RunC _ _ _ _ _ [(0,.agg #[w1.b,w1.l]),(1,.agg #[w2.b,w2.l])] [] [zF w1 x1,zF w2 x2]
 refine zg<|za<|zO rfl rfl (zS rfl rfl) (fun b1=> ?_)
 refine zO rfl rfl (zS rfl rfl) (fun b2=> ?_)
 refine zO rfl rfl (zp zr43 rfl) (fun b3=> ?_)
 refine e_p (zb rfl)<|zh<|zd<|zg<|zg<|za<|e_ru (zc 1 ty41 rfl rfl (.t2 .nil))<|zN rfl rfl (.c rfl .n) ce105 (zxc (w1:=w2) (x1:=x2) (hln:=by first|rfl|assumption|omega|(rw [yr];omega)|(decide +kernel))) (.c (j:=1) rfl .n)<|e_p (zCa rfl rfl)<|zh<|zd<|zG rfl (fun hz0=> ?_) (fun hz0=> ?_)
 ·
  have hx0:x2=0:=Big.sign_zero.1 hz0
  refine zg<|za<|e_p (zM zr43 rfl yl (.c sz41 (.c sz41 .n)) .n .n)<|zo 0 rfl rfl rfl rfl rfl sz43 rfl (.t4 .nil) .z<|e_p (zb rfl)<|zh<|zd<|zK<|zi<|zOb (qF false wz wz 0) (fun g _=>qF_none g) ?_
  exact zAa Tryz.results127 (wz,wz) trivial (zD 0 ty43 rfl rfl (.t4 .nil)) (zk rfl) (by rw [if_pos hx0];rfl) (ho:=(.n:PickO _ _ _)) ((.e (j:=0) rfl (by rw [Big.divInt_nil hx0,decide_eq_false (not_not_intro hx0)]) .n):SelR _ _ _)
 ·
  have hx0:x2≠0:=fun e=>hz0 (Big.sign_zero.2 e)
  refine zt<|zd<|zg<|za<|e_ru (zc 2 ty41 rfl rfl (.t2 .nil))<|e_ru (zc 1 ty41 rfl rfl (.t2 .nil))<|zJ rfl rfl (.c rfl (.c rfl .n)) ce72 (zTb (w1:=w1) (w2:=w2) (x1:=x1) (x2:=x2) (hl1:=ass) (hl2:=ass) (hd:=by first|rfl|assumption|omega|(rw [yr];omega)|(decide +kernel))) (.c (j:=0) rfl (.c (j:=1) rfl .n)) ?_
  rintro ⟨w34,w45⟩ -
  dsimp only [aq,nq,cq]
  refine zo 0 rfl rfl rfl rfl rfl sz43 rfl (.t4 .nil) .z<|e_p (zb rfl)<|zh<|zd<|zK ?_
  exact zAa Tryz.results127 (w34,w45) trivial (zD 0 ty43 rfl rfl (.t4 .nil)) (zk rfl) (by rw [if_neg hx0]) (ho:=(.n:PickO _ _ _)) ((.e (j:=0) rfl (by rw [decide_eq_true hx0]) .n):SelR _ _ _)
theorem zig {z1:Int} {z2:Int} (hz1: -9223372036854775808≤z1∧z1≤9223372036854775807) (hz2: -9223372036854775808≤z2∧z2≤9223372036854775807):Con yh 107 [ya yb z1,ya yb z2] [] [] (Y:=Wd×Wd) (fun y=>True) (fun y=> .tuple #[.agg #[y.1.b,y.1.l,y.2.b,y.2.l],ya yb (if z2=0 then 14 else 0)]) (fun y=>[]) (fun y=>[qF (decide (z2≠0)) y.1 y.2 (Rat.divInt z1 z2)]):=by
 refine zn Tryz.func107 rfl rfl rfl (fun c=> ?_)
 show RunC _ _ _ _ _ [(0,ya yb z1),(1,ya yb z2)] [] []
 have g1:=Big.ztg hz1.1 hz1.2
 have g2:=Big.ztg hz2.1 hz2.2
 refine zg<|za<|zO rfl rfl (zp zr43 rfl) (fun b1=> ?_)
 refine e_p (zb rfl)<|zh<|zd<|zg<|za<|e_mv rfl<|zJ rfl rfl (.c rfl .n) ce74 (zIb (z:=z1) (hz:=ass)) (.n) ?_
 rintro w32 -
 dsimp only [aq,nq,cq]
 refine e_mv rfl<|zJ rfl rfl (.c rfl .n) ce74 (zIb (z:=z2) (hz:=ass)) (.n) ?_
 rintro w33 -
 dsimp only [aq,nq,cq]
 refine zJ rfl rfl (.c rfl (.c rfl .n)) ce127 (zhg (w1:=w32) (w2:=w33) (x1:=z1) (x2:=z2) (hl1:=by first|rfl|assumption|omega|(rw [yr];omega)|(decide +kernel)) (hl2:=by first|rfl|assumption|omega|(rw [yr];omega)|(decide +kernel))) (.c (j:=1) rfl (.c (j:=0) rfl .n)) ?_
 rintro ⟨w34,w45⟩ -
 dsimp only [aq,nq,cq]
 refine e_p (zC rfl rfl)<|e_p (zC rfl rfl)<|zo 0 rfl rfl rfl rfl rfl sz43 rfl (.t4 .nil) .z<|e_p (zb rfl)<|zh<|zd<|zK ?_
 exact zAa Tryz.results107 (w34,w45) trivial (zD 0 ty43 rfl rfl (.t4 .nil)) (zk rfl) rfl (ho:=(.n:PickO _ _ _)) ((.c (j:=0) rfl .n):SelR _ _ _)
theorem zUe {z1:Int} {z2:Int} (hz1: -9223372036854775808≤z1∧z1≤9223372036854775807) (hz2: -9223372036854775808≤z2∧z2≤9223372036854775807) (hy:z2≠0):Con yh 107 [ya yb (z1),ya yb (z2)] [] [] (Y:=(Wd)×(Wd)) (fun y=>True) (fun y=> .tuple #[.agg #[y.1.b,y.1.l,y.2.b,y.2.l],ya yb (0)]) (fun y=>[]) (fun y=>[qF true y.1 y.2 (Rat.divInt z1 z2)]):=by
  have h:=zig hz1 hz2
  rw [if_neg hy,decide_eq_true hy] at h
  exact h
theorem zVe {k1:Bool} {u1:Wd} {v1:Wd} {q1:Rat} (hl:yR q1≤1048576):Con yh 66 [.agg #[u1.b,u1.l,v1.b,v1.l]] [] [qF k1 u1 v1 q1] (Y:=Unit) (fun y=>True) (fun y=> ya yb (Big.sgq q1)) (fun y=>[]) (fun y=>[]):=by
 refine zn Tryz.func66 rfl rfl rfl (fun c=> ?_)
 show RunC _ _ _ _ _ [(0,.agg #[u1.b,u1.l,v1.b,v1.l])] [] [qF k1 u1 v1 q1]
 have a1:=yJ q1
 have a2:=yK q1
 refine zg<|za<|zO rfl rfl (zS rfl rfl) (fun b1=> ?_)
 refine e_p (zb rfl)<|zh<|zd<|zg<|za<|e_ru (zc 0 ty43 rfl rfl (.t4 .nil))<|zJ rfl rfl (.c rfl .n) ce68 (zeb (k1:=k1) (u1:=u1) (v1:=v1) (q1:=q1)) (.c (j:=0) rfl .n) ?_
 rintro ⟨w32,w43⟩ -
 dsimp only [aq,nq,cq]
 refine e_p (zzc yl rfl ty41 rfl (.t2 .nil))<|zyc (qF_open 0 rfl) (fun _ _=> ?_)
 refine zN rfl rfl (.c rfl .n) ce105 (zxc (w1:=w32) (x1:=(q1).num) (hln:=by first|rfl|assumption|omega|(rw [yr];omega)|(decide +kernel))) (.c (j:=0) rfl .n)<|e_p (zb rfl)<|zh<|zd<|zK ?_
 exact zx Tryz.results66 () trivial (zk rfl) rfl (ho:=(.n:PickO _ _ _)) (.n:SelR _ _ _)
theorem zKf {k1:Bool} {u1:Wd} {v1:Wd} {q1:Rat} (hl:yR q1≤1048576):Con yh 67 [.agg #[u1.b,u1.l,v1.b,v1.l]] [] [qF k1 u1 v1 q1] (Y:=Wd×Wd) (fun y=>True) (fun y=> .agg #[y.1.b,y.1.l,y.2.b,y.2.l]) (fun y=>[]) (fun y=>[qF true y.1 y.2 (- q1)]):=by
 refine zn Tryz.func67 rfl rfl rfl (fun c=> ?_)
 show RunC _ _ _ _ _ [(0,.agg #[u1.b,u1.l,v1.b,v1.l])] [] [qF k1 u1 v1 q1]
 have a1:=yJ q1
 have a2:=yK q1
 refine zg<|za<|zO rfl rfl (zS rfl rfl) (fun b1=> ?_)
 refine zO rfl rfl (zp zr43 rfl) (fun b2=> ?_)
 refine zh<|zd<|zg<|za<|e_ru (zc 1 ty43 rfl rfl (.t4 .nil))<|zJ rfl rfl (.c rfl .n) ce68 (zeb (k1:=k1) (u1:=u1) (v1:=v1) (q1:=q1)) (.c (j:=0) rfl .n) ?_
 rintro ⟨w33,w44⟩ -
 dsimp only [aq,nq,cq]
 refine zO rfl rfl (zp zr43 rfl) (fun b5=> ?_)
 refine zo 0 rfl rfl rfl rfl rfl sz43 rfl (.t4 .nil) .z<|zh<|zd<|zg<|zxa (.c (i:=1) rfl (.c (i:=0) rfl (.c (i:=0) rfl .n)))<|zba (OW:=[boxA b2 43 (cw [wz,wz])]) (O:=[boxA b5 43 (cw [w33,w44]),boxA b1 43 (cw [u1,v1])]) 6 mixed (.then .ret) kr<|e_pv 0 rfl rfl (zf yl rfl sz41 rfl rfl)<|e_uw 1 rfl rfl (zc 1 ty41 rfl rfl (.t2 .nil))<|e_pv 3 rfl rfl (zf yl rfl sz41 rfl rfl)<|e_uw 4 rfl rfl (zc 1 ty41 rfl rfl (.s2 (.t2 .nil)))<|zKb (qF_open 0 rfl) (fun _ _=> ?_)
 refine e_one 2 (zE rfl rfl rfl rfl (.c rfl .n) ce106 (zKd (w1:=w33) (x1:=(q1).num) (hln:=by first|rfl|assumption|omega|(rw [yr];omega)|(decide +kernel))) (.c (j:=0) rfl .n) ?_)
 rintro w36 -
 dsimp only [aq,nq,cq]
 refine e_pv 5 rfl rfl (zM zr43 rfl yl (.c sz41 (.c sz41 .n)) (.c rfl (.c rfl .n)) (.c rfl rfl rfl (.t2 .nil) (.c rfl rfl rfl (.s2 (.t2 .nil)) .n)))<|e_one 6 (zy kr rfl rfl rfl rfl rfl sz43 rfl (.t4 .nil) ?_)
 refine zX kr<|zd<|zK<|zOb (qF true w36 w44 (- q1)) (qF_close 0 2 rfl rfl (by exact ⟨(Rat.neg_num q1).symm,by rw [Rat.neg_den],by rw [Big.hq_neg];exact hl⟩)) ?_
 exact zx Tryz.results67 (w36,w44) trivial (zD 0 ty43 rfl rfl (.t4 .nil)) rfl (ho:=(.n:PickO _ _ _)) ((.c (j:=0) rfl .n):SelR _ _ _)
theorem zQd {k1:Bool} {u1:Wd} {v1:Wd} {q1:Rat} {k2:Bool} {u2:Wd} {v2:Wd} {q2:Rat} (hl:yR q1+yR q2+1≤1048576):Con yh 70 [.agg #[u1.b,u1.l,v1.b,v1.l],.agg #[u2.b,u2.l,v2.b,v2.l]] [] [qF k1 u1 v1 q1,qF k2 u2 v2 q2] (Y:=Wd×Wd) (fun y=>True) (fun y=> .agg #[y.1.b,y.1.l,y.2.b,y.2.l]) (fun y=>[]) (fun y=>[qF true y.1 y.2 (q1+q2)]):=by
 refine zn Tryz.func70 rfl rfl rfl (fun c=> ?_)
 show RunC _ _ _ _ _ [(0,.agg #[u1.b,u1.l,v1.b,v1.l]),(1,.agg #[u2.b,u2.l,v2.b,v2.l])] [] [qF k1 u1 v1 q1,qF k2 u2 v2 q2]
 have a1:=yJ q1
 have a2:=yK q1
 have a3:=yJ q2
 have a4:=yK q2
 have b1:=yT q1.num q2.den
 have b2:=yT q2.num q1.den
 have b3:=Big.zMc (q1.num*q2.den) (q2.num*q1.den)
 have b4:=yT (q1.den:Int) q2.den
 have b5:=yT q1.num q2.num
 refine zg<|za<|zO rfl rfl (zS rfl rfl) (fun b1=> ?_)
 refine zO rfl rfl (zS rfl rfl) (fun b2=> ?_)
 refine zO rfl rfl (zp zr43 rfl) (fun b3=> ?_)
 refine zh<|zd<|zg<|za<|e_ru (zc 2 ty43 rfl rfl (.t4 .nil))<|zJ rfl rfl (.c rfl .n) ce68 (zeb (k1:=k1) (u1:=u1) (v1:=v1) (q1:=q1)) (.c (j:=0) rfl .n) ?_
 rintro ⟨w34,w45⟩ -
 dsimp only [aq,nq,cq]
 refine zO rfl rfl (zp zr43 rfl) (fun b6=> ?_)
 refine zo 0 rfl rfl rfl rfl rfl sz43 rfl (.t4 .nil) .z<|zh<|zd<|zg<|za<|e_ru (zc 2 ty43 rfl rfl (.t4 .nil))<|zJ rfl rfl (.c rfl .n) ce68 (zeb (k1:=k2) (u1:=u2) (v1:=v2) (q1:=q2)) (.c (j:=2) rfl .n) ?_
 rintro ⟨w37,w48⟩ -
 dsimp only [aq,nq,cq]
 refine zO rfl rfl (zp zr43 rfl) (fun b9=> ?_)
 refine zo 0 rfl rfl rfl rfl rfl sz43 rfl (.t4 .nil) .z<|zh<|zd<|zg<|zxa (.c (i:=2) rfl (.c (i:=0) rfl (.c (i:=0) rfl (.c (i:=0) rfl (.c (i:=0) rfl .n)))))<|zba (OW:=[boxA b3 43 (cw [wz,wz])]) (O:=[boxA b9 43 (cw [w37,w48]),boxA b6 43 (cw [w34,w45]),boxA b2 43 (cw [u2,v2]),boxA b1 43 (cw [u1,v1])]) 17 mixed (.then .ret) kr<|e_pv 0 rfl rfl (zf yl rfl sz41 rfl rfl)<|e_uw 1 rfl rfl (zc 2 ty41 rfl rfl (.t2 .nil))<|e_pv 2 rfl rfl (zf yl rfl sz41 rfl rfl)<|e_uw 3 rfl rfl (zc 1 ty41 rfl rfl (.s2 (.t2 .nil)))<|e_pv 5 rfl rfl (zf yl rfl sz41 rfl rfl)<|e_uw 6 rfl rfl (zc 1 ty41 rfl rfl (.t2 .nil))<|e_pv 7 rfl rfl (zf yl rfl sz41 rfl rfl)<|e_uw 8 rfl rfl (zc 2 ty41 rfl rfl (.s2 (.t2 .nil)))<|e_pv 11 rfl rfl (zf yl rfl sz41 rfl rfl)<|e_uw 12 rfl rfl (zc 2 ty41 rfl rfl (.s2 (.t2 .nil)))<|e_pv 13 rfl rfl (zf yl rfl sz41 rfl rfl)<|e_uw 14 rfl rfl (zc 1 ty41 rfl rfl (.s2 (.t2 .nil)))<|zKb (qF_open 1 rfl) (fun _ _=> ?_)
 refine zKb (qF_open 2 rfl) (fun _ _=> ?_)
 refine e_one 4 (zE rfl rfl rfl rfl (.c rfl (.c rfl .n)) ce73 (zSb (w1:=w34) (w2:=w48) (x1:=(q1).num) (x2:=(((q2).den:Nat):Int)) (hb1:=by first|rfl|assumption|omega|(rw [yr];omega)|(decide +kernel)) (hb2:=by first|rfl|assumption|omega|(rw [yr];omega)|(decide +kernel))) (.c (j:=2) rfl (.c (j:=1) rfl .n)) ?_)
 rintro w310 -
 dsimp only [aq,nq,cq]
 refine e_one 9 (zE rfl rfl rfl rfl (.c rfl (.c rfl .n)) ce73 (zSb (w1:=w37) (w2:=w45) (x1:=(q2).num) (x2:=(((q1).den:Nat):Int)) (hb1:=by first|rfl|assumption|omega|(rw [yr];omega)|(decide +kernel)) (hb2:=by first|rfl|assumption|omega|(rw [yr];omega)|(decide +kernel))) (.c (j:=1) rfl (.c (j:=4) rfl .n)) ?_)
 rintro w311 -
 dsimp only [aq,nq,cq]
 refine e_one 10 (zE rfl rfl rfl rfl (.c rfl (.c rfl .n)) ce108 (zHf (w1:=w310) (w2:=w311) (x1:=((q1).num)*(((q2).den:Nat):Int)) (x2:=((q2).num)*(((q1).den:Nat):Int)) (hb1:=by first|rfl|assumption|omega|(rw [yr];omega)|(decide +kernel)) (hb2:=by first|rfl|assumption|omega|(rw [yr];omega)|(decide +kernel))) (.c (j:=1) rfl (.c (j:=0) rfl .n)) ?_)
 rintro w312 -
 dsimp only [aq,nq,cq]
 refine e_one 15 (zE rfl rfl rfl rfl (.c rfl (.c rfl .n)) ce73 (zSb (w1:=w45) (w2:=w48) (x1:=(((q1).den:Nat):Int)) (x2:=(((q2).den:Nat):Int)) (hb1:=by first|rfl|assumption|omega|(rw [yr];omega)|(decide +kernel)) (hb2:=by first|rfl|assumption|omega|(rw [yr];omega)|(decide +kernel))) (.c (j:=6) rfl (.c (j:=4) rfl .n)) ?_)
 rintro w313 -
 dsimp only [aq,nq,cq]
 refine e_one 16 (zE rfl rfl rfl rfl (.c rfl (.c rfl .n)) ce72 (zTb (w1:=w312) (w2:=w313) (x1:=(((q1).num)*(((q2).den:Nat):Int))+(((q2).num)*(((q1).den:Nat):Int))) (x2:=(((q1).den:Nat):Int)*(((q2).den:Nat):Int)) (hl1:=by first|rfl|assumption|omega|(rw [yr];omega)|(decide +kernel)) (hl2:=by first|rfl|assumption|omega|(rw [yr];omega)|(decide +kernel)) (hd:=by exact Int.mul_ne_zero (Big.den_ne q1) (Big.den_ne q2))) (.c (j:=1) rfl (.c (j:=0) rfl .n)) ?_)
 rintro ⟨w314,w415⟩ -
 dsimp only [aq,nq,cq]
 refine e_one 17 (zy kr rfl rfl rfl rfl rfl sz43 rfl (.t4 .nil) ?_)
 refine zX kr<|zd<|zK ?_
 exact zx Tryz.results70 (w314,w415) trivial (zD 0 ty43 rfl rfl (.t4 .nil)) rfl (ho:=(.n:PickO _ _ _)) ((.e (j:=0) rfl (by rw [Big.add_parts]) .n):SelR _ _ _)
theorem zRd {k1:Bool} {u1:Wd} {v1:Wd} {q1:Rat} {k2:Bool} {u2:Wd} {v2:Wd} {q2:Rat} (hl:yR q1+yR q2+1≤1048576):Con yh 25 [.agg #[u1.b,u1.l,v1.b,v1.l],.agg #[u2.b,u2.l,v2.b,v2.l]] [] [qF k1 u1 v1 q1,qF k2 u2 v2 q2] (Y:=Wd×Wd) (fun y=>True) (fun y=> .agg #[y.1.b,y.1.l,y.2.b,y.2.l]) (fun y=>[]) (fun y=>[qF true y.1 y.2 (q1*q2)]):=by
 refine zn Tryz.func25 rfl rfl rfl (fun c=> ?_)
 show RunC _ _ _ _ _ [(0,.agg #[u1.b,u1.l,v1.b,v1.l]),(1,.agg #[u2.b,u2.l,v2.b,v2.l])] [] [qF k1 u1 v1 q1,qF k2 u2 v2 q2]
 have a1:=yJ q1
 have a2:=yK q1
 have a3:=yJ q2
 have a4:=yK q2
 have b1:=yT q1.num q2.den
 have b2:=yT q2.num q1.den
 have b3:=Big.zMc (q1.num*q2.den) (q2.num*q1.den)
 have b4:=yT (q1.den:Int) q2.den
 have b5:=yT q1.num q2.num
 refine zg<|za<|zO rfl rfl (zS rfl rfl) (fun b1=> ?_)
 refine zO rfl rfl (zS rfl rfl) (fun b2=> ?_)
 refine zO rfl rfl (zp zr43 rfl) (fun b3=> ?_)
 refine zh<|zd<|zg<|za<|e_ru (zc 2 ty43 rfl rfl (.t4 .nil))<|zJ rfl rfl (.c rfl .n) ce68 (zeb (k1:=k1) (u1:=u1) (v1:=v1) (q1:=q1)) (.c (j:=0) rfl .n) ?_
 rintro ⟨w34,w45⟩ -
 dsimp only [aq,nq,cq]
 refine zO rfl rfl (zp zr43 rfl) (fun b6=> ?_)
 refine zo 0 rfl rfl rfl rfl rfl sz43 rfl (.t4 .nil) .z<|zh<|zd<|zg<|za<|e_ru (zc 2 ty43 rfl rfl (.t4 .nil))<|zJ rfl rfl (.c rfl .n) ce68 (zeb (k1:=k2) (u1:=u2) (v1:=v2) (q1:=q2)) (.c (j:=2) rfl .n) ?_
 rintro ⟨w37,w48⟩ -
 dsimp only [aq,nq,cq]
 refine zO rfl rfl (zp zr43 rfl) (fun b9=> ?_)
 refine zo 0 rfl rfl rfl rfl rfl sz43 rfl (.t4 .nil) .z<|zh<|zd<|zg<|zxa (.c (i:=2) rfl (.c (i:=0) rfl (.c (i:=0) rfl (.c (i:=0) rfl (.c (i:=0) rfl .n)))))<|zba (OW:=[boxA b3 43 (cw [wz,wz])]) (O:=[boxA b9 43 (cw [w37,w48]),boxA b6 43 (cw [w34,w45]),boxA b2 43 (cw [u2,v2]),boxA b1 43 (cw [u1,v1])]) 11 mixed (.then .ret) kr<|e_pv 0 rfl rfl (zf yl rfl sz41 rfl rfl)<|e_uw 1 rfl rfl (zc 2 ty41 rfl rfl (.t2 .nil))<|e_pv 2 rfl rfl (zf yl rfl sz41 rfl rfl)<|e_uw 3 rfl rfl (zc 1 ty41 rfl rfl (.t2 .nil))<|e_pv 5 rfl rfl (zf yl rfl sz41 rfl rfl)<|e_uw 6 rfl rfl (zc 2 ty41 rfl rfl (.s2 (.t2 .nil)))<|e_pv 7 rfl rfl (zf yl rfl sz41 rfl rfl)<|e_uw 8 rfl rfl (zc 1 ty41 rfl rfl (.s2 (.t2 .nil)))<|zKb (qF_open 1 rfl) (fun _ _=> ?_)
 refine zKb (qF_open 2 rfl) (fun _ _=> ?_)
 refine e_one 4 (zE rfl rfl rfl rfl (.c rfl (.c rfl .n)) ce73 (zSb (w1:=w34) (w2:=w37) (x1:=(q1).num) (x2:=(q2).num) (hb1:=by first|rfl|assumption|omega|(rw [yr];omega)|(decide +kernel)) (hb2:=by first|rfl|assumption|omega|(rw [yr];omega)|(decide +kernel))) (.c (j:=2) rfl (.c (j:=0) rfl .n)) ?_)
 rintro w310 -
 dsimp only [aq,nq,cq]
 refine e_one 9 (zE rfl rfl rfl rfl (.c rfl (.c rfl .n)) ce73 (zSb (w1:=w45) (w2:=w48) (x1:=(((q1).den:Nat):Int)) (x2:=(((q2).den:Nat):Int)) (hb1:=by first|rfl|assumption|omega|(rw [yr];omega)|(decide +kernel)) (hb2:=by first|rfl|assumption|omega|(rw [yr];omega)|(decide +kernel))) (.c (j:=4) rfl (.c (j:=2) rfl .n)) ?_)
 rintro w311 -
 dsimp only [aq,nq,cq]
 refine e_one 10 (zE rfl rfl rfl rfl (.c rfl (.c rfl .n)) ce72 (zTb (w1:=w310) (w2:=w311) (x1:=((q1).num)*((q2).num)) (x2:=(((q1).den:Nat):Int)*(((q2).den:Nat):Int)) (hl1:=by first|rfl|assumption|omega|(rw [yr];omega)|(decide +kernel)) (hl2:=by first|rfl|assumption|omega|(rw [yr];omega)|(decide +kernel)) (hd:=by exact Int.mul_ne_zero (Big.den_ne q1) (Big.den_ne q2))) (.c (j:=1) rfl (.c (j:=0) rfl .n)) ?_)
 rintro ⟨w312,w413⟩ -
 dsimp only [aq,nq,cq]
 refine e_one 11 (zy kr rfl rfl rfl rfl rfl sz43 rfl (.t4 .nil) ?_)
 refine zX kr<|zd<|zK ?_
 exact zx Tryz.results25 (w312,w413) trivial (zD 0 ty43 rfl rfl (.t4 .nil)) rfl (ho:=(.n:PickO _ _ _)) ((.e (j:=0) rfl (by rw [Big.mul_parts]) .n):SelR _ _ _)
theorem zSd {k1:Bool} {u1:Wd} {v1:Wd} {q1:Rat} {k2:Bool} {u2:Wd} {v2:Wd} {q2:Rat} (hl:yR q1+yR q2+1≤1048576):Con yh 71 [.agg #[u1.b,u1.l,v1.b,v1.l],.agg #[u2.b,u2.l,v2.b,v2.l]] [] [qF k1 u1 v1 q1,qF k2 u2 v2 q2] (Y:=Wd×Wd) (fun y=>True) (fun y=> .agg #[y.1.b,y.1.l,y.2.b,y.2.l]) (fun y=>[]) (fun y=>[qF true y.1 y.2 (q1 - q2)]):=by
 refine zn Tryz.func71 rfl rfl rfl (fun c=> ?_)
 show RunC _ _ _ _ _ [(0,.agg #[u1.b,u1.l,v1.b,v1.l]),(1,.agg #[u2.b,u2.l,v2.b,v2.l])] [] [qF k1 u1 v1 q1,qF k2 u2 v2 q2]
 have a1:=yJ q1
 have a2:=yK q1
 have a3:=yJ q2
 have a4:=yK q2
 refine zg<|za<|zO rfl rfl (zS rfl rfl) (fun b1=> ?_)
 refine zO rfl rfl (zS rfl rfl) (fun b2=> ?_)
 refine zO rfl rfl (zp zr43 rfl) (fun b3=> ?_)
 refine zh<|zd<|zg<|zba (OW:=[boxA b3 43 (cw [wz,wz])]) (O:=[boxA b2 43 (cw [u2,v2]),boxA b1 43 (cw [u1,v1])]) 4 mixed (.then .ret) kr<|e_uw 0 rfl rfl (zc 2 ty43 rfl rfl (.t4 .nil))<|e_uw 1 rfl rfl (zc 1 ty43 rfl rfl (.t4 .nil))<|e_one 2 (zE rfl rfl rfl rfl (.c rfl .n) ce67 (zKf (k1:=k2) (u1:=u2) (v1:=v2) (q1:=q2) (hl:=by first|rfl|assumption|omega|(rw [yr];omega)|(decide +kernel)|(rw [Big.hq_neg];omega))) (.c (j:=1) rfl .n) ?_)
 rintro ⟨w34,w45⟩ -
 dsimp only [aq,nq,cq]
 refine e_one 3 (zE rfl rfl rfl rfl (.c rfl (.c rfl .n)) ce70 (zQd (k1:=k1) (u1:=u1) (v1:=v1) (q1:=q1) (k2:=true) (u2:=w34) (v2:=w45) (q2:= - q2) (hl:=by first|rfl|assumption|omega|(rw [yr];omega)|(decide +kernel)|(rw [Big.hq_neg];omega))) (.c (j:=1) rfl (.c (j:=0) rfl .n)) ?_)
 rintro ⟨w36,w47⟩ -
 dsimp only [aq,nq,cq]
 refine e_one 4 (zy kr rfl rfl rfl rfl rfl sz43 rfl (.t4 .nil) ?_)
 refine zX kr<|zd<|zK ?_
 exact zx Tryz.results71 (w36,w47) trivial (zD 0 ty43 rfl rfl (.t4 .nil)) rfl (ho:=(.n:PickO _ _ _)) ((.e (j:=0) rfl (by rw [Rat.sub_eq_add_neg]) .n):SelR _ _ _)
theorem ztd {k1:Bool} {u1:Wd} {v1:Wd} {q1:Rat} {k2:Bool} {u2:Wd} {v2:Wd} {q2:Rat} (hl:yR q1+yR q2+1≤1048576):Con yh 27 [.agg #[u1.b,u1.l,v1.b,v1.l],.agg #[u2.b,u2.l,v2.b,v2.l]] [] [qF k1 u1 v1 q1,qF k2 u2 v2 q2] (Y:=Unit) (fun y=>True) (fun y=> ya yb (Big.sgq (q1 - q2))) (fun y=>[]) (fun y=>[]):=by
 refine zn Tryz.func27 rfl rfl rfl (fun c=> ?_)
 show RunC _ _ _ _ _ [(0,.agg #[u1.b,u1.l,v1.b,v1.l]),(1,.agg #[u2.b,u2.l,v2.b,v2.l])] [] [qF k1 u1 v1 q1,qF k2 u2 v2 q2]
 have hsb:=Big.hq_sub q1 q2
 refine zg<|za<|zO rfl rfl (zS rfl rfl) (fun b1=> ?_)
 refine zO rfl rfl (zS rfl rfl) (fun b2=> ?_)
 refine e_p (zb rfl)<|zh<|zd<|zg<|za<|e_ru (zc 1 ty43 rfl rfl (.t4 .nil))<|e_ru (zc 0 ty43 rfl rfl (.t4 .nil))<|zJ rfl rfl (.c rfl (.c rfl .n)) ce71 (zSd (k1:=k1) (u1:=u1) (v1:=v1) (q1:=q1) (k2:=k2) (u2:=u2) (v2:=v2) (q2:=q2) (hl:=ass)) (.c (j:=0) rfl (.c (j:=1) rfl .n)) ?_
 rintro ⟨w33,w44⟩ -
 dsimp only [aq,nq,cq]
 refine zN rfl rfl (.c rfl .n) ce66 (zVe (k1:=true) (u1:=w33) (v1:=w44) (q1:=q1 - q2) (hl:=by first|rfl|assumption|omega|(rw [yr];omega)|(decide +kernel))) (.c (j:=0) rfl .n)<|e_p (zb rfl)<|zh<|zd<|zK ?_
 exact zx Tryz.results27 () trivial (zk rfl) rfl (ho:=(.n:PickO _ _ _)) (.n:SelR _ _ _)
theorem zWe {u1:Wd} {v1:Wd} {q1:Rat} {u2:Wd} {v2:Wd} {q2:Rat} (hl:yR q1+yR q2+1≤1048576):Con yh 44 [.agg #[u1.b,u1.l,v1.b,v1.l],.agg #[u2.b,u2.l,v2.b,v2.l]] [] [qF true u1 v1 q1,qF true u2 v2 q2] (Y:=Unit) (fun y=>True) (fun y=> .bool (decide (q1=q2))) (fun y=>[]) (fun y=>[]):=by
 refine zn Tryz.func44 rfl rfl rfl (fun c=> ?_)
 show RunC _ _ _ _ _ [(0,.agg #[u1.b,u1.l,v1.b,v1.l]),(1,.agg #[u2.b,u2.l,v2.b,v2.l])] [] [qF true u1 v1 q1,qF true u2 v2 q2]
 refine zg<|za<|zO rfl rfl (zS rfl rfl) (fun b1=> ?_)
 refine zO rfl rfl (zS rfl rfl) (fun b2=> ?_)
 refine e_p (zb rfl)<|zh<|zd<|zFa (X:=Unit) (fun x=>True) (fun x=>[(4,.bool (decide (Big.sgq (q1 - q2)=0)))]) (fun x=>[boxA b2 43 (cw [u2,v2]),boxA b1 43 (cw [u1,v1])]) (fun x=>[qF true u1 v1 q1,qF true u2 v2 q2]) ?_ ?_
 ·
  refine za<|e_ru (zc 1 ty43 rfl rfl (.t4 .nil))<|zN rfl rfl (.c rfl .n) ce88 (zDc (u1:=u1) (v1:=v1) (q1:=q1)) (.c (j:=0) rfl .n)<|e_mv rfl<|e_ru (zc 0 ty43 rfl rfl (.t4 .nil))<|zN rfl rfl (.c rfl .n) ce88 (zDc (u1:=u2) (v1:=v2) (q1:=q2)) (.c (j:=1) rfl .n)<|e_p (zl rfl rfl)<|e_mv rfl<|e_ru (zc 1 ty43 rfl rfl (.t4 .nil))<|e_ru (zc 0 ty43 rfl rfl (.t4 .nil))<|zN rfl rfl (.c rfl (.c rfl .n)) ce27 (ztd (k1:=true) (u1:=u1) (v1:=v1) (q1:=q1) (k2:=true) (u2:=u2) (v2:=v2) (q2:=q2) (hl:=ass)) (.c (j:=0) rfl (.c (j:=1) rfl .n))<|e_p (zCa rfl rfl)<|e_p (zl rfl rfl)<|e_p (zb rfl)<|zh ?_
  exact zea () (show True from by first|trivial|omega|simp_all) ((.c rfl .n):SubM _ _) (ho:=((.of [0,0] rfl):PickO _ _ _)) ((.of [0,1] rfl):SelR _ _ _)
 ·
  rintro ⟨⟩ -
  try dsimp only [cw]
  refine zK ?_
  exact zx Tryz.results44 () trivial (zk rfl) (congrArg Value.bool (decide_eq_decide.2 Big.sgq_sub_zero.symm)) (ho:=(.n:PickO _ _ _)) (.n:SelR _ _ _)
end Go.Proofs.YtjcpbhlijoigfaaGreat.Sp
namespace Go.Proofs.YtjcpbhlijoigfaaGreat.Sp
open Go
set_option linter.unusedVariables false
set_option maxRecDepth 100000
set_option maxHeartbeats 8000000
theorem zCg {z1:Int} {z2:Int} (hz1: -9223372036854775808≤z1∧z1≤9223372036854775807) (hz2: -9223372036854775808≤z2∧z2≤9223372036854775807) (hy:z2≠0):Con yh 69 [.int .i64 z1,.int .i64 z2] [] [] (Y:=Wd×Wd) (fun y=>True) (fun y=> .agg #[y.1.b,y.1.l,y.2.b,y.2.l]) (fun y=>[]) (fun y=>[qF true y.1 y.2 (Rat.divInt z1 z2)]):=by
 refine zn Tryz.func69 rfl rfl rfl (fun c=> ?_)
 show RunC _ _ _ _ _ [(0,.int .i64 z1),(1,.int .i64 z2)] [] []
 refine zg<|za<|zO rfl rfl (zp zr43 rfl) (fun b1=> ?_)
 refine zh<|zd<|zg<|za<|e_mv rfl<|e_mv rfl<|zJ rfl rfl (.c rfl (.c rfl .n)) ce107 (zUe (z1:=z1) (z2:=z2) (hz1:=ass) (hz2:=ass) (hy:=ass)) (.n) ?_
 rintro ⟨w32,w43⟩ -
 dsimp only [aq,nq,cq]
 refine e_mv rfl<|e_p (zC rfl rfl)<|e_p (zC rfl rfl)<|zO rfl rfl (zp zr43 rfl) (fun b4=> ?_)
 refine zo 0 rfl rfl rfl rfl rfl sz43 rfl (.t4 .nil) .z<|e_p (zb rfl)<|zh<|zd<|zg<|za<|e_ru (zc 0 ty43 rfl rfl (.t4 .nil))<|zo 1 rfl rfl rfl rfl rfl sz43 rfl (.t4 .nil) (.s .z)<|zh<|zd<|zK ?_
 exact zx Tryz.results69 (w32,w43) trivial (zD 1 ty43 rfl rfl (.t4 .nil)) rfl (ho:=(.n:PickO _ _ _)) ((.c (j:=0) rfl .n):SelR _ _ _)
theorem zLf {p:Option Addr} {n:Nat} {cap:Nat} {l:List Pg.Q2} {K:Nat} (hn:l.length=n) (hbq:Pg.bq K l) (hK:4*K+1≤500000) (hz:∀i,i≤n→yR (Pg.szN n l i)≤500000):Con yh 24 [.slice p n cap] [] [slF rR p cap l] (Y:=Wd×Wd) (fun y=>True) (fun y=> .agg #[y.1.b,y.1.l,y.2.b,y.2.l]) (fun y=>[]) (fun y=>[qF true y.1 y.2 (Pg.sz l)]):=by
 refine zn Tryz.func24 rfl rfl rfl (fun c=> ?_)
 show RunC _ _ _ _ _ [(0,.slice p n cap)] [] [slF rR p cap l]
 refine zia 0 rfl (fun hL0=> ?_)
 refine zg<|za<|zO rfl rfl (zp zr43 rfl) (fun b1=> ?_)
 refine zh<|zd<|zg<|za<|zJ rfl rfl (.c rfl (.c rfl .n)) ce69 (zCg (z1:=0) (z2:=1) (hz1:=by first|rfl|assumption|omega|decide) (hz2:=by first|rfl|assumption|omega|decide) (hy:=by first|rfl|assumption|omega|decide)) (.n) ?_
 rintro ⟨w32,w43⟩ -
 dsimp only [aq,nq,cq]
 refine zO rfl rfl (zp zr43 rfl) (fun b4=> ?_)
 refine zo 0 rfl rfl rfl rfl rfl sz43 rfl (.t4 .nil) .z<|zh<|zd<|zg<|zg ?_
 have e5:Rat.divInt 0 1=(Pg.szN n l 0):=by exact Pg.d01
 rw [e5]
 refine za<|e_p (zb rfl)<|zh<|zd<|zv<|zqa (X:=Nat×Wd×Wd) (fun x:Nat×Wd×Wd=>x.1≤n) (fun x=>[(4,.int .i64 ((x.1:Nat):Int)),(3,.pointer (some ⟨b4,0,none⟩)),(2,.pointer (some ⟨b1,0,none⟩)),(0,.slice p n cap)]) (fun x=>[boxA b4 43 (cw [x.2.1,x.2.2]),boxA b1 43 (cw [wz,wz])]) (fun x=>[qF true x.2.1 x.2.2 (Pg.szN n l x.1),qF true w32 w43 (Pg.szN n l 0),slF rR p cap l]) (fun x:Nat×Wd×Wd=>n - x.1) (0,w32,w43) (show 0≤n from by exact Nat.zero_le _) ((.e rfl (by first|rfl|(congr 1;omega)|simp_all) (.of rfl)):SubM _ _) (ho:=((.of [0,0] rfl):PickO _ _ _)) ((.of [0,0,1] rfl):SelR _ _ _) ?_
 rintro ⟨k,wk1,wk2⟩ hI
 replace hI:k≤n:=hI
 try dsimp only [cw]
 refine zg<|zg<|za<|e_mv rfl<|e_mv rfl<|e_p (zQ yE rfl)<|e_p (zaa rfl rfl)<|zh<|zd<|zG rfl (fun h6=> ?_) (fun h6=> ?_)
 ·
  have hm1:(k+1)%n<n:=Nat.mod_lt _ om
  have hpi:Pg.hp K (l.getD k ((0:Rat),(0:Rat))):=Pg.bq_at hbq om
  have hpj:Pg.hp K (l.getD ((k+1)%n) ((0:Rat),(0:Rat))):=Pg.bq_at hbq om
  obtain ⟨hb1,hb2,hb3⟩:=Pg.pb hpi hpj
  obtain ⟨hpi1,hpi2⟩:=id hpi
  obtain ⟨hpj1,hpj2⟩:=id hpj
  have hzk:=hz k om
  have hb4:yR ((l.getD k ((0:Rat),(0:Rat))).1*(l.getD ((k+1)%n) ((0:Rat),(0:Rat))).2 - (l.getD ((k+1)%n) ((0:Rat),(0:Rat))).1*(l.getD k ((0:Rat),(0:Rat))).2)≤2*(K+K)+1:=hb3
  refine zt<|zd<|zg<|zv<|zg<|za<|e_mv rfl<|e_mv rfl<|e_p (zI (z:=(((k+1):Nat):Int)) rfl rfl (w64 om))<|e_mv rfl<|e_p (zQ yE rfl)<|e_p (zya (z:=((((k+1)%n):Nat):Int)) rfl rfl om (remN om om))<|r_vl rfl rfl (zBb (x0:=(l.getD ((k+1)%n) ((0:Rat),(0:Rat)))) 2 ((k+1)%n) rfl yE sz69 rfl cbs rfl rfl (gD (d:=((0:Rat),(0:Rat))) om)) ?_
  rintro ⟨b7,o8,w9,w10,w11,w12⟩ -
  dsimp only [aq,nq,cq]
  refine zmf open_rR<|e_ru (zA (j:=0) 0 ty69 rfl rfl rfl (.t8 .nil))<|zO rfl rfl (zp zr69 rfl) (fun b13=> ?_)
  refine zo 0 rfl rfl rfl rfl rfl sz69 rfl (.t8 .nil) .z<|zh<|zd<|zxa (.c (i:=1) rfl (.c (i:=0) rfl (.c (i:=0) rfl .n)))<|zba (OW:=[boxA b4 43 (cw [wk1,wk2])]) (O:=[boxA b13 69 (cw [w9,w10,w11,w12]),boxA b1 43 (cw [wz,wz])]) 19 mixed (.block (.then (.then (.block (.then .ret))))) kr<|e_uw 0 rfl rfl (zc 0 ty43 rfl rfl (.t4 .nil))<|e_dm 1 rfl rfl rfl<|e_dm 2 rfl rfl rfl<|d_vl 3 rfl rfl kr kr rfl rfl (zBb (x0:=(l.getD k ((0:Rat),(0:Rat)))) 5 k rfl yE sz69 rfl cbs rfl rfl (gD (d:=((0:Rat),(0:Rat))) om)) ?_
  rintro ⟨b14,o15,w16,w17,w18,w19⟩ -
  dsimp only [aq,nq,cq]
  refine zkg open_rR<|e_pv 4 rfl rfl (zf yL rfl sz43 rfl rfl)<|e_u 5 rfl rfl (zA (j:=0) 0 ty43 rfl rfl rfl (.t4 .nil))<|e_pv 6 rfl rfl (zf yL rfl sz43 rfl rfl)<|e_uw 7 rfl rfl (zc 1 ty43 rfl rfl (.s4 (.t4 .nil)))<|e_pv 9 rfl rfl (zf yL rfl sz43 rfl rfl)<|e_uw 10 rfl rfl (zc 1 ty43 rfl rfl (.t4 .nil))<|e_dm 11 rfl rfl rfl<|e_dm 12 rfl rfl rfl<|d_vl 13 rfl rfl kr kr rfl rfl (zBb (x0:=(l.getD k ((0:Rat),(0:Rat)))) 8 k rfl yE sz69 rfl cbs rfl rfl (gD (d:=((0:Rat),(0:Rat))) om)) ?_
  rintro ⟨b20,o21,w22,w23,w24,w25⟩ -
  dsimp only [aq,nq,cq]
  refine zkg open_rR<|e_pv 14 rfl rfl (zf yL rfl sz43 rfl rfl)<|e_u 15 rfl rfl (zA (j:=4) 0 ty43 rfl rfl rfl (.s4 (.t4 .nil)))<|e_one 8 (zE rfl rfl rfl rfl (.c rfl (.c rfl .n)) ce25 (zRd (k1:=true) (u1:=w16) (v1:=w17) (q1:=(l.getD k ((0:Rat),(0:Rat))).1) (k2:=true) (u2:=w11) (v2:=w12) (q2:=(l.getD ((k+1)%n) ((0:Rat),(0:Rat))).2) (hl:=by first|rfl|assumption|omega|decide)) (.c (j:=4) rfl (.c (j:=8) rfl .n)) ?_)
  rintro ⟨w326,w427⟩ -
  dsimp only [aq,nq,cq]
  refine e_one 16 (zE rfl rfl rfl rfl (.c rfl (.c rfl .n)) ce25 (zRd (k1:=true) (u1:=w9) (v1:=w10) (q1:=(l.getD ((k+1)%n) ((0:Rat),(0:Rat))).1) (k2:=true) (u2:=w24) (v2:=w25) (q2:=(l.getD k ((0:Rat),(0:Rat))).2) (hl:=by first|rfl|assumption|omega|decide)) (.c (j:=8) rfl (.c (j:=3) rfl .n)) ?_)
  rintro ⟨w328,w429⟩ -
  dsimp only [aq,nq,cq]
  refine e_one 17 (zE rfl rfl rfl rfl (.c rfl (.c rfl .n)) ce71 (zSd (k1:=true) (u1:=w326) (v1:=w427) (q1:=((l.getD k ((0:Rat),(0:Rat))).1)*((l.getD ((k+1)%n) ((0:Rat),(0:Rat))).2)) (k2:=true) (u2:=w328) (v2:=w429) (q2:=((l.getD ((k+1)%n) ((0:Rat),(0:Rat))).1)*((l.getD k ((0:Rat),(0:Rat))).2)) (hl:=by first|rfl|assumption|omega|decide)) (.c (j:=1) rfl (.c (j:=0) rfl .n)) ?_)
  rintro ⟨w330,w431⟩ -
  dsimp only [aq,nq,cq]
  refine e_one 18 (zE rfl rfl rfl rfl (.c rfl (.c rfl .n)) ce70 (zQd (k1:=true) (u1:=wk1) (v1:=wk2) (q1:=(Pg.szN n l k)) (k2:=true) (u2:=w330) (v2:=w431) (q2:=(((l.getD k ((0:Rat),(0:Rat))).1)*((l.getD ((k+1)%n) ((0:Rat),(0:Rat))).2)) - (((l.getD ((k+1)%n) ((0:Rat),(0:Rat))).1)*((l.getD k ((0:Rat),(0:Rat))).2))) (hl:=by first|rfl|assumption|omega|decide)) (.c (j:=12) rfl (.c (j:=0) rfl .n)) ?_)
  rintro ⟨w332,w433⟩ -
  dsimp only [aq,nq,cq]
  refine e_one 19 (zy kr rfl rfl rfl rfl rfl sz43 rfl (.t4 .nil) ?_)
  refine zX kr<|zP<|zd<|za<|e_mv rfl<|e_p (zI (z:=(((k+1):Nat):Int)) rfl rfl (w64 om))<|e_p (zb rfl)<|zh<|zha ((k+1),w332,w433) (show (k+1)≤n from by show k+1≤n;omega) (by show n - (k+1)<n - k;omega) ((.of rfl):SubM _ _) (ho:=((.of [0,1] rfl):PickO _ _ _)) ((.e (j:=0) rfl (by first|rfl|simp_all) (.of [14,15] rfl)):SelR _ _ _)
 ·
  refine zla<|zj<|zj<|zr<|zd<|zg<|za<|e_ru (zc 0 ty43 rfl rfl (.t4 .nil))<|zo 1 rfl rfl rfl rfl rfl sz43 rfl (.t4 .nil) (.s .z)<|zh<|zd<|zK ?_
  exact zx Tryz.results24 (wk1,wk2) trivial (zD 1 ty43 rfl rfl (.t4 .nil)) rfl (ho:=(.n:PickO _ _ _)) ((.e (j:=0) rfl (by rw [show k=n by omega,Pg.sz,hn]) .n):SelR _ _ _)
theorem zkd {p1:Option Addr} {n1:Nat} {c1:Nat} {l1:List (Int×Int×Int)} {p2:Option Addr} {n2:Nat} {c2:Nat} {l2:List (Int×Int×Int)} (hn1:l1.length=n1) (hn2:l2.length=n2):Con yh 32 [.slice p1 n1 c1,.slice p2 n2 c2] [] [slF (rI3 .i64) p1 c1 l1,slF (rI3 .i64) p2 c2 l2] (Y:=Unit) (fun y=>True) (fun y=> .bool (decide (l1=l2))) (fun y=>[]) (fun y=>[]):=by
 refine zn Tryz.func32 rfl rfl rfl (fun c=> ?_)
 show RunC _ _ _ _ _ [(0,.slice p1 n1 c1),(1,.slice p2 n2 c2)] [] [slF (rI3 .i64) p1 c1 l1,slF (rI3 .i64) p2 c2 l2]
 refine zia 0 rfl (fun hL0=> ?_)
 refine zia 1 rfl (fun hL1=> ?_)
 refine zg<|za<|e_p (zb rfl)<|zh<|zd<|zg<|zg<|za<|e_mv rfl<|e_p (zQ yt rfl)<|e_mv rfl<|e_p (zQ yt rfl)<|e_p (zQa rfl rfl)<|zh<|zd<|zG rfl (fun hlen=> ?_) (fun hlen=> ?_)
 ·
  refine zg<|za<|e_p (zb rfl)<|zh<|zd<|zK<|zi ?_
  exact zx Tryz.results32 () trivial (zk rfl) (congrArg Value.bool (decide_eq_false (fun h=>hlen (by rw [← hn1,←hn2,h])))) (ho:=(.n:PickO _ _ _)) (.n:SelR _ _ _)
 ·
  refine zt<|zd<|zg<|zg<|za<|e_mv rfl<|e_p (zQ yt rfl)<|e_mv rfl<|zh<|zd<|zv<|zqa (X:=Nat) (fun x:Nat=>x≤n1∧∀j,j<x→l1.getD j (0,0,0)=l2.getD j (0,0,0)) (fun x=>[(13,.int .i64 ((x:Nat):Int)),(12,.int .i64 ((n1:Nat):Int)),(0,.slice p1 n1 c1),(1,.slice p2 n2 c2)]) (fun x=>[]) (fun x=>[slF (rI3 .i64) p1 c1 l1,slF (rI3 .i64) p2 c2 l2]) (fun x:Nat=>n1 - x) 0 (show 0≤n1∧∀j,j<0→l1.getD j (0,0,0)=l2.getD j (0,0,0) from by exact ⟨by omega,fun j h=>by omega⟩) ((.e rfl (by first|rfl|(congr 1;omega)|simp_all) (.of rfl)):SubM _ _) (ho:=(.n:PickO _ _ _)) ((.of [0,1] rfl):SelR _ _ _) ?_
  rintro i hI
  replace hI:i≤n1∧∀j,j<i→l1.getD j (0,0,0)=l2.getD j (0,0,0):=hI
  try dsimp only
  obtain ⟨hi,hall⟩:=hI
  refine zg<|za<|e_p (zaa rfl rfl)<|zh<|zd<|zg<|zG rfl (fun h1=> ?_) (fun h1=> ?_)
  ·
   refine zt<|zd<|zg<|zv<|zg<|za<|e_mv rfl<|e_p (zb rfl)<|zh<|zd<|zg<|zba (OW:=[]) (O:=[]) 100000 mixed (.then (.block (.then (.then (.block (.then .ret)))))) kr<|e_dm 0 rfl rfl rfl<|e_dm 1 rfl rfl rfl<|zca (x0:=(l1.getD i (0,0,0))) 2 rfl rfl kr kr 0 i rfl yt sz50 rfl rfl rfl cbs rfl rfl (gD (d:=(0,0,0)) om) (fun b2 o3 hok4=> ?_)
   obtain ⟨hok4x,hok4y,hok4z⟩:=hok4
   replace hok4x:=zq.1 hok4x
   replace hok4y:=zq.1 hok4y
   replace hok4z:=zq.1 hok4z
   refine e_u 3 rfl rfl (zA (j:=0) 0 ty50 rfl rfl rfl (.t2 (.take .nil)))<|e_dm 4 rfl rfl rfl<|e_dm 5 rfl rfl rfl<|zca (x0:=(l2.getD i (0,0,0))) 6 rfl rfl kr kr 2 i rfl yt sz50 rfl rfl rfl cbs rfl rfl (gD (d:=(0,0,0)) om) (fun b5 o6 hok7=> ?_)
   obtain ⟨hok7x,hok7y,hok7z⟩:=hok7
   replace hok7x:=zq.1 hok7x
   replace hok7y:=zq.1 hok7y
   replace hok7z:=zq.1 hok7z
   refine e_u 7 rfl rfl (zA (j:=0) 0 ty50 rfl rfl rfl (.t2 (.take .nil)))<|e_pv 8 rfl rfl (zIe (p:=(l1.getD i (0,0,0)).1=(l2.getD i (0,0,0)).1∧(l1.getD i (0,0,0)).2.1=(l2.getD i (0,0,0)).2.1∧(l1.getD i (0,0,0)).2.2=(l2.getD i (0,0,0)).2.2) kr rfl rfl (zef yn sz3 (zae ty3 rfl rfl (zLc yF) (zae ty3 rfl rfl (zLc yF) (zae ty3 rfl rfl (zLc yF) zqg)))) (by simp [Bool.decide_and]))<|zX kr<|zd<|zG rfl (fun hd=> ?_) (fun hd=> ?_)
   ·
    refine zg<|za<|e_p (zb rfl)<|zh<|zd<|zK<|zm<|zi<|zi<|zm<|zi ?_
    exact zx Tryz.results32 () trivial (zk rfl) (congrArg Value.bool (decide_eq_false (fun h=>hd (by simp [h])))) (ho:=(.n:PickO _ _ _)) (.n:SelR _ _ _)
   ·
    refine zt<|zP<|zd<|za<|e_p (zI (z:=(((i+1):Nat):Int)) rfl rfl (w64 om))<|e_mv rfl<|zh<|zha (i+1) (show (i+1)≤n1∧∀j,j<(i+1)→l1.getD j (0,0,0)=l2.getD j (0,0,0) from by exact ⟨by omega,Ms.all_lt_succ hall (by have h9:=Decidable.not_not.1 hd;first|exact h9|(apply Prod.ext;exact h9.1;apply Prod.ext;exact h9.2.1;exact h9.2.2))⟩) (by show n1 - (i+1)<n1 - i;omega) ((.of rfl):SubM _ _) (ho:=(.n:PickO _ _ _)) ((.of [2,3] rfl):SelR _ _ _)
  ·
   refine zla<|zj<|zj<|zr<|zd<|zg<|za<|e_p (zb rfl)<|zh<|zd<|zK ?_
   exact zx Tryz.results32 () trivial (zk rfl) (congrArg Value.bool (decide_eq_true (Ms.ext_getD (0,0,0) om (fun j hj=>hall j om)))) (ho:=(.n:PickO _ _ _)) (.n:SelR _ _ _)
end Go.Proofs.YtjcpbhlijoigfaaGreat.Sp
namespace Go.Proofs.YtjcpbhlijoigfaaGreat.Sp
open Go
set_option linter.unusedVariables false
set_option maxRecDepth 100000
set_option maxHeartbeats 8000000
theorem zMf:Con yh 11 [] [] [] (Y:=Unit) (fun y=>True) (fun y=> .bool true) (fun y=>[]) (fun y=>[]):=by
 refine zn Tryz.func11 rfl rfl rfl (fun c=> ?_)
 show RunC _ _ _ _ _ [] [] []
 refine zg<|za<|e_p (zb rfl)<|zh<|zd<|zg<|za<|e_p (zM zr30 rfl yp (.c sz3 (.c sz3 .n)) (.c rfl (.c rfl .n)) (.c rfl rfl rfl (.take .nil) (.c rfl rfl rfl (.skip (.take .nil)) .n)))<|e_p (zM zr30 rfl yp (.c sz3 (.c sz3 .n)) (.c rfl (.c rfl .n)) (.c rfl rfl rfl (.take .nil) (.c rfl rfl rfl (.skip (.take .nil)) .n)))<|e_p (zM zr30 rfl yp (.c sz3 (.c sz3 .n)) (.c rfl (.c rfl .n)) (.c rfl rfl rfl (.take .nil) (.c rfl rfl rfl (.skip (.take .nil)) .n)))<|e_p (zM zr30 rfl yp (.c sz3 (.c sz3 .n)) (.c rfl (.c rfl .n)) (.c rfl rfl rfl (.take .nil) (.c rfl rfl rfl (.skip (.take .nil)) .n)))<|e_p (zM zr30 rfl yp (.c sz3 (.c sz3 .n)) (.c rfl (.c rfl .n)) (.c rfl rfl rfl (.take .nil) (.c rfl rfl rfl (.skip (.take .nil)) .n)))<|zIa rfl rfl (zT (enc:=fun z:Int×Int=>[.int .i64 z.1,.int .i64 z.2]) (ok:=fun z=>InK .i64 z.1∧InK .i64 z.2) (h1:=fun _=>rfl) (h2:=fun _=>rfl) (k:=5) yu inf30 rfl dd dd dd (.c (x:=(0,0)) rfl rfl (fun _ _=>by exact ⟨zq.2 (by first|omega|decide|(dsimp only;omega)),zq.2 (by first|omega|decide|(dsimp only;omega))⟩) (.c (x:=(4,0)) rfl rfl (fun _ _=>by exact ⟨zq.2 (by first|omega|decide|(dsimp only;omega)),zq.2 (by first|omega|decide|(dsimp only;omega))⟩) (.c (x:=(4,4)) rfl rfl (fun _ _=>by exact ⟨zq.2 (by first|omega|decide|(dsimp only;omega)),zq.2 (by first|omega|decide|(dsimp only;omega))⟩) (.c (x:=(2,1)) rfl rfl (fun _ _=>by exact ⟨zq.2 (by first|omega|decide|(dsimp only;omega)),zq.2 (by first|omega|decide|(dsimp only;omega))⟩) (.c (x:=(0,4)) rfl rfl (fun _ _=>by exact ⟨zq.2 (by first|omega|decide|(dsimp only;omega)),zq.2 (by first|omega|decide|(dsimp only;omega))⟩) .n)))))) (fun b1 _=> ?_)
 refine e_p (zb rfl)<|zh<|zd<|zg<|za<|e_mv rfl<|zma 0 rfl .z<|zN rfl rfl (.c rfl .n) ce13 (zXf (p:=some ⟨b1,0,none⟩) (n:=5) (cap:=5) (l:=[(0,0),(4,0),(4,4),(2,1),(0,4)]) (hn:=by first|rfl|assumption|decide|omega|(decide +kernel))) (.c (j:=0) rfl .n) ?_
 have e2:Pg.arV ([(0,0),(4,0),(4,4),(2,1),(0,4)])=20:=by exact Pg.ex1.1
 rw [e2]
 have e3:Pg.arC ([(0,0),(4,0),(4,4),(2,1),(0,4)])=0:=by exact Pg.ex1.2
 rw [e3]
 refine e_mv rfl<|e_p (zC rfl rfl)<|e_p (zC rfl rfl)<|e_p (zb rfl)<|e_p (zb rfl)<|zh<|zd<|zg<|za<|e_mv rfl<|e_p (zM zr30 rfl yp (.c sz3 (.c sz3 .n)) (.c rfl (.c rfl .n)) (.c rfl rfl rfl (.take .nil) (.c rfl rfl rfl (.skip (.take .nil)) .n)))<|zN rfl rfl (.c rfl (.c rfl .n)) ce17 (zed (p:=some ⟨b1,0,none⟩) (n:=5) (cap:=5) (l:=[(0,0),(4,0),(4,4),(2,1),(0,4)]) (hx:=1) (hy:=1) (hn:=by first|rfl|assumption|decide|omega|(decide +kernel)) (hwhx:=by first|rfl|assumption|decide|omega|(decide +kernel)) (hwhy:=by first|rfl|assumption|decide|omega|(decide +kernel))) (.c (j:=0) rfl .n) ?_
 have e4:Pg.isV ([(0,0),(4,0),(4,4),(2,1),(0,4)]) (1,1)=1:=by exact Pg.ex2.1
 rw [e4]
 have e5:Pg.isC ([(0,0),(4,0),(4,4),(2,1),(0,4)]) (1,1)=0:=by exact Pg.ex2.2
 rw [e5]
 refine e_mv rfl<|e_p (zC rfl rfl)<|e_p (zC rfl rfl)<|e_p (zb rfl)<|e_p (zb rfl)<|zh<|zd<|zg<|za<|e_mv rfl<|e_p (zM zr30 rfl yp (.c sz3 (.c sz3 .n)) (.c rfl (.c rfl .n)) (.c rfl rfl rfl (.take .nil) (.c rfl rfl rfl (.skip (.take .nil)) .n)))<|zN rfl rfl (.c rfl (.c rfl .n)) ce17 (zed (p:=some ⟨b1,0,none⟩) (n:=5) (cap:=5) (l:=[(0,0),(4,0),(4,4),(2,1),(0,4)]) (hx:=2) (hy:=2) (hn:=by first|rfl|assumption|decide|omega|(decide +kernel)) (hwhx:=by first|rfl|assumption|decide|omega|(decide +kernel)) (hwhy:=by first|rfl|assumption|decide|omega|(decide +kernel))) (.c (j:=0) rfl .n) ?_
 have e6:Pg.isV ([(0,0),(4,0),(4,4),(2,1),(0,4)]) (2,2)=(-1):=by exact Pg.ex3.1
 rw [e6]
 have e7:Pg.isC ([(0,0),(4,0),(4,4),(2,1),(0,4)]) (2,2)=0:=by exact Pg.ex3.2
 rw [e7]
 refine e_mv rfl<|e_p (zC rfl rfl)<|e_p (zC rfl rfl)<|e_p (zb rfl)<|e_p (zb rfl)<|zh<|zd<|zg<|za<|e_mv rfl<|zJ rfl rfl (.c rfl .n) ce30 (zve (p:=some ⟨b1,0,none⟩) (n:=5) (cap:=5) (l:=[(0,0),(4,0),(4,4),(2,1),(0,4)]) (hn:=by first|rfl|assumption|decide|omega|(decide +kernel))) (.c (j:=0) rfl .n) ?_
 rintro ⟨p28,c29⟩ -
 dsimp only [aq,nq,cq]
 have e10:Pg.erC ([(0,0),(4,0),(4,4),(2,1),(0,4)])=0:=by exact Pg.ex4.2
 rw [e10]
 refine e_mv rfl<|e_p (zC rfl rfl)<|e_p (zC rfl rfl)<|e_p (zb rfl)<|e_p (zb rfl)<|zh<|zd<|zg<|za<|e_p (zM zr30 rfl yp (.c sz3 (.c sz3 .n)) (.c rfl (.c rfl .n)) (.c rfl rfl rfl (.take .nil) (.c rfl rfl rfl (.skip (.take .nil)) .n)))<|e_p (zM zr30 rfl yp (.c sz3 (.c sz3 .n)) (.c rfl (.c rfl .n)) (.c rfl rfl rfl (.take .nil) (.c rfl rfl rfl (.skip (.take .nil)) .n)))<|e_p (zM zr30 rfl yp (.c sz3 (.c sz3 .n)) (.c rfl (.c rfl .n)) (.c rfl rfl rfl (.take .nil) (.c rfl rfl rfl (.skip (.take .nil)) .n)))<|e_p (zM zr30 rfl yp (.c sz3 (.c sz3 .n)) (.c rfl (.c rfl .n)) (.c rfl rfl rfl (.take .nil) (.c rfl rfl rfl (.skip (.take .nil)) .n)))<|zIa rfl rfl (zT (enc:=fun z:Int×Int=>[.int .i64 z.1,.int .i64 z.2]) (ok:=fun z=>InK .i64 z.1∧InK .i64 z.2) (h1:=fun _=>rfl) (h2:=fun _=>rfl) (k:=4) yu inf30 rfl dd dd dd (.c (x:=(0,0)) rfl rfl (fun _ _=>by exact ⟨zq.2 (by first|omega|decide|(dsimp only;omega)),zq.2 (by first|omega|decide|(dsimp only;omega))⟩) (.c (x:=(4,0)) rfl rfl (fun _ _=>by exact ⟨zq.2 (by first|omega|decide|(dsimp only;omega)),zq.2 (by first|omega|decide|(dsimp only;omega))⟩) (.c (x:=(4,4)) rfl rfl (fun _ _=>by exact ⟨zq.2 (by first|omega|decide|(dsimp only;omega)),zq.2 (by first|omega|decide|(dsimp only;omega))⟩) (.c (x:=(0,4)) rfl rfl (fun _ _=>by exact ⟨zq.2 (by first|omega|decide|(dsimp only;omega)),zq.2 (by first|omega|decide|(dsimp only;omega))⟩) .n))))) (fun b11 _=> ?_)
 refine e_p (zM zr30 rfl yp (.c sz3 (.c sz3 .n)) (.c rfl (.c rfl .n)) (.c rfl rfl rfl (.take .nil) (.c rfl rfl rfl (.skip (.take .nil)) .n)))<|e_p (zM zr30 rfl yp (.c sz3 (.c sz3 .n)) (.c rfl (.c rfl .n)) (.c rfl rfl rfl (.take .nil) (.c rfl rfl rfl (.skip (.take .nil)) .n)))<|zma 0 rfl .z<|zJ rfl rfl (.c rfl (.c rfl (.c rfl .n))) ce19 (zTe (p:=some ⟨b11,0,none⟩) (n:=4) (cap:=4) (l:=[(0,0),(4,0),(4,4),(0,4)]) (ex:=2) (ey:=(-1)) (fx:=9) (fy:=2) (hn:=by first|rfl|assumption|decide|omega|(decide +kernel)) (hwex:=by first|rfl|assumption|decide|omega|(decide +kernel)) (hwey:=by first|rfl|assumption|decide|omega|(decide +kernel)) (hwfx:=by first|rfl|assumption|decide|omega|(decide +kernel)) (hwfy:=by first|rfl|assumption|decide|omega|(decide +kernel))) (.c (j:=0) rfl .n) ?_
 rintro ⟨p212,c213⟩ -
 dsimp only [aq,nq,cq]
 have e14:Pg.wnC ([(0,0),(4,0),(4,4),(0,4)]) (2,(-1)) (9,2)=0:=by exact Pg.ex5
 rw [e14]
 refine e_mv rfl<|e_p (zC rfl rfl)<|e_p (zC rfl rfl)<|e_p (zb rfl)<|e_p (zb rfl)<|zh<|zd<|zg<|za<|e_mv rfl<|e_mv rfl<|e_p (zI (z:=0) rfl rfl (w64 dd))<|e_mv rfl<|e_p (zI (z:=0) rfl rfl (w64 dd))<|e_mv rfl<|e_p (zI (z:=0) rfl rfl (w64 dd))<|e_mv rfl<|e_p (zI (z:=0) rfl rfl (w64 dd))<|e_p (zCa rfl rfl) ?_
 rw [show true=true from by decide]
 refine e_mv rfl<|e_mv rfl<|e_p (zCa rfl rfl) ?_
 rw [show true=true from by decide]
 refine e_p (zl rfl rfl)<|e_mv rfl<|e_mv rfl<|e_p (zCa rfl rfl) ?_
 rw [show true=true from by decide]
 refine e_p (zl rfl rfl)<|e_mv rfl<|e_mv rfl<|e_p (zCa rfl rfl) ?_
 rw [show true=true from by decide]
 refine e_p (zl rfl rfl)<|e_mv rfl<|e_mv rfl<|e_p (zsa zr50 rfl yn sz3 (.c rfl (.c rfl (.c rfl .n))) (.c rfl rfl rfl (.take .nil) (.c rfl rfl rfl (.skip (.take .nil)) (.c rfl rfl rfl (.s2 (.take .nil)) .n))))<|e_p (zsa zr50 rfl yn sz3 (.c rfl (.c rfl (.c rfl .n))) (.c rfl rfl rfl (.take .nil) (.c rfl rfl rfl (.skip (.take .nil)) (.c rfl rfl rfl (.s2 (.take .nil)) .n))))<|e_p (zsa zr50 rfl yn sz3 (.c rfl (.c rfl (.c rfl .n))) (.c rfl rfl rfl (.take .nil) (.c rfl rfl rfl (.skip (.take .nil)) (.c rfl rfl rfl (.s2 (.take .nil)) .n))))<|zIa rfl rfl (zT (enc:=fun z:Int×Int×Int=>[.int .i64 z.1,.int .i64 z.2.1,.int .i64 z.2.2]) (ok:=fun z=>InK .i64 z.1∧InK .i64 z.2.1∧InK .i64 z.2.2) (h1:=fun _=>rfl) (h2:=fun _=>rfl) (k:=3) yt inf50 rfl dd dd dd (.c (x:=(1,2,3)) rfl rfl (fun _ _=>by exact ⟨zq.2 (by first|omega|decide|(dsimp only;omega)),zq.2 (by first|omega|decide|(dsimp only;omega)),zq.2 (by first|omega|decide|(dsimp only;omega))⟩) (.c (x:=(0,1,3)) rfl rfl (fun _ _=>by exact ⟨zq.2 (by first|omega|decide|(dsimp only;omega)),zq.2 (by first|omega|decide|(dsimp only;omega)),zq.2 (by first|omega|decide|(dsimp only;omega))⟩) (.c (x:=(0,3,4)) rfl rfl (fun _ _=>by exact ⟨zq.2 (by first|omega|decide|(dsimp only;omega)),zq.2 (by first|omega|decide|(dsimp only;omega)),zq.2 (by first|omega|decide|(dsimp only;omega))⟩) .n)))) (fun b15 _=> ?_)
 refine zma 3 rfl (.s (.s (.s .z)))<|zma 0 rfl .z<|zN rfl rfl (.c rfl (.c rfl .n)) ce32 (zkd (p1:=p28) (n1:=(Pg.erV ([(0,0),(4,0),(4,4),(2,1),(0,4)])).length) (c1:=c29) (l1:=(Pg.erV ([(0,0),(4,0),(4,4),(2,1),(0,4)]))) (p2:=some ⟨b15,0,none⟩) (n2:=3) (c2:=3) (l2:=[(1,2,3),(0,1,3),(0,3,4)]) (hn1:=by first|rfl|assumption|decide|omega|(decide +kernel)) (hn2:=by first|rfl|assumption|decide|omega|(decide +kernel))) (.c (j:=1) rfl (.c (j:=0) rfl .n)) ?_
 rw [show (decide ((Pg.erV ([(0,0),(4,0),(4,4),(2,1),(0,4)]))=([(1,2,3),(0,1,3),(0,3,4)])))=true from by exact decide_eq_true Pg.ex4.1]
 refine e_p (zl rfl rfl)<|e_mv rfl<|e_mv rfl<|zma 1 rfl (.s .z)<|zJ rfl rfl (.c rfl .n) ce24 (zLf (p:=p212) (n:=(Pg.wnV ([(0,0),(4,0),(4,4),(0,4)]) (2,(-1)) (9,2)).length) (cap:=c213) (l:=(Pg.wnV ([(0,0),(4,0),(4,4),(0,4)]) (2,(-1)) (9,2))) (K:=100) (hn:=by rfl) (hbq:=by exact Pg.ex6) (hK:=dd) (hz:=by exact Pg.ex7)) (.c (j:=0) rfl .n) ?_
 rintro ⟨w316,w417⟩ -
 dsimp only [aq,nq,cq]
 refine zJ rfl rfl (.c rfl .n) ce26 (zjd (z:=8) (hz:=by first|rfl|assumption|decide|omega|(decide +kernel))) (.n) ?_
 rintro ⟨w318,w419⟩ -
 dsimp only [aq,nq,cq]
 refine zN rfl rfl (.c rfl (.c rfl .n)) ce44 (zWe (u1:=w316) (v1:=w417) (q1:=(Pg.sz (Pg.wnV ([(0,0),(4,0),(4,4),(0,4)]) (2,(-1)) (9,2)))) (u2:=w318) (v2:=w419) (q2:=((8:Int):Rat)) (hl:=by decide +kernel)) (.c (j:=1) rfl (.c (j:=0) rfl .n)) ?_
 rw [show (decide ((Pg.sz (Pg.wnV ([(0,0),(4,0),(4,4),(0,4)]) (2,(-1)) (9,2)))=((8:Int):Rat)))=true from by exact decide_eq_true Pg.ex8]
 refine e_p (zl rfl rfl)<|e_p (zb rfl)<|zh<|zd<|zK ?_
 exact zx Tryz.results11 () trivial (zk rfl) rfl (ho:=(.n:PickO _ _ _)) (.n:SelR _ _ _)
end Go.Proofs.YtjcpbhlijoigfaaGreat.Sp
namespace Go.Proofs.YtjcpbhlijoigfaaGreat.Sp
open Go
set_option linter.unusedVariables false
set_option maxRecDepth 100000
set_option maxHeartbeats 8000000
theorem zrc {p:Option Addr} {n:Nat} {cap:Nat} {l:List Pg.P2} {pt:Option Addr} {nt:Nat} {ct:Nat} {T:List Pg.T3} (hn:l.length=n) (hnt:T.length=nt) (hb:nt≤1000):Con yh 31 [.slice p n cap,.slice pt nt ct] [] [slF (rI2 .i64) p cap l,slF (rI3 .i64) pt ct T] (Y:=Unit) (fun y=>True) (fun y=> .int .i64 (Pg.ceC n l T)) (fun y=>[]) (fun y=>[]):=by
 refine zn Tryz.func31 rfl rfl rfl (fun c=> ?_)
 show RunC _ _ _ _ _ [(0,.slice p n cap),(1,.slice pt nt ct)] [] [slF (rI2 .i64) p cap l,slF (rI3 .i64) pt ct T]
 refine zia 0 rfl (fun hL0=> ?_)
 refine zia 1 rfl (fun hL1=> ?_)
 refine zg<|za<|e_p (zb rfl)<|zh<|zd<|zg<|zg<|za<|e_mv rfl<|zN rfl rfl (.c rfl .n) ce15 (zlc (p:=p) (n:=n) (cap:=cap) (l:=l) (hn:=ass)) (.c (j:=0) rfl .n)<|e_p (zb rfl)<|zh<|zd<|zg<|za<|e_mv rfl<|e_p (zQa rfl rfl)<|zh<|zd<|zG rfl (fun hbad=> ?_) (fun hbad=> ?_)
 ·
  refine zg<|za<|e_mv rfl<|e_p (zb rfl)<|zh<|zd<|zK<|zi ?_
  exact zx yx () trivial (zk rfl) (by rw [Pg.ce_bad hbad]) (ho:=(.n:PickO _ _ _)) (.n:SelR _ _ _)
 ·
  have hz:=Decidable.not_not.1 hbad
  have hok:=Pg.ok hz
  have hrng:=hok.rng
  have h64:n≤64:=by have:=hok.n64;omega
  have h3:3≤n:=by have:=hok.n3;omega
  have hsr:=Pg.sg_rng l
  refine zt<|zd<|zg<|za<|e_mv rfl<|e_p (zQ yu rfl)<|e_p (zb rfl)<|zh<|zd<|zg<|zg<|za<|e_mv rfl<|e_p (zQ yt rfl)<|e_mv rfl<|e_p (zoa (z:=(((n:Nat):Int) - 2)) rfl rfl (w64 om))<|e_p (zQa rfl rfl)<|zh<|zd<|zG rfl (fun hlen=> ?_) (fun hlen=> ?_)
  ·
   refine zg<|za<|e_p (zb rfl)<|zh<|zd<|zK<|zi ?_
   exact zx yx () trivial (zk rfl) (by rw [Pg.ce_no hz (fun h=>absurd ((Pg.acP_n hnt).1 h).1 om)]) (ho:=(.n:PickO _ _ _)) (.n:SelR _ _ _)
  ·
   refine zt<|zd<|zg<|za<|e_mv rfl<|zJ rfl rfl (.c rfl .n) ce75 (zOc (p:=p) (n:=n) (cap:=cap) (l:=l) (hn:=ass) (h64:=cbo) (hrng:=cbo)) (.c (j:=0) rfl .n) ?_
   rintro ⟨b1,B2,N3⟩ hR0
   dsimp only [aq,nq,cq]
   replace hR0:Pg.Rg n (List.range n) B2 N3:=hR0
   have hLB:=hR0.lb
   have hLN:=hR0.ln
   refine e_p (zR rfl)<|e_p (zf Tryz.underlying98 rfl sz3 rfl rfl)<|e_ru (ze 0 ty3 rfl rfl (rg_s rgl rgl))<|e_p (zb rfl)<|zh<|zd<|zg<|za<|zIa rfl rfl (zFe (κ:=Int×Int) (ν:=Bool) (fun z:Int×Int=> .agg #[.int .i64 z.1,.int .i64 z.2]) (fun z:Bool=> .bool z) (fun z=>InK .i64 z.1∧InK .i64 z.2)) (fun b4 _=> ?_)
   refine e_p (zb rfl)<|zh<|zd<|zg<|zg<|za<|e_mv rfl<|e_p (zQ yt rfl)<|e_mv rfl<|zh<|zd<|zv<|zqa (X:=Nat×(List (Pg.E2×Bool))) (fun x:Nat×(List (Pg.E2×Bool))=>x.1≤nt∧(∀j,j<x.1→Pg.okP n l (T.getD j (0,0,0)))∧Pg.Sn x.2 (Pg.eds (T.take x.1))∧(Pg.eds (T.take x.1)).Nodup) (fun x=>[(37,.int .i64 ((x.1:Nat):Int)),(36,.int .i64 ((nt:Nat):Int)),(35,.slice pt nt ct),(8,.map (some b4)),(7,.int .i64 (Pg.sg l)),(6,.int .i64 ((n:Nat):Int)),(0,.slice p n cap)]) (fun x=>[mapA b4 (fun z:Int×Int=> .agg #[.int .i64 z.1,.int .i64 z.2]) (fun z:Bool=> .bool z) (fun z=>InK .i64 z.1∧InK .i64 z.2) (x.2),boxA b1 98 (rgC p n cap B2 N3 ((n:Nat):Int) (Pg.sg l))]) (fun x=>[slF (rI2 .i64) p cap l,slF (rI3 .i64) pt ct T]) (fun x:Nat×(List (Pg.E2×Bool))=>nt - x.1) (0,[]) (show 0≤nt∧(∀j,j<0→Pg.okP n l (T.getD j (0,0,0)))∧Pg.Sn ([]) (Pg.eds (T.take 0))∧(Pg.eds (T.take 0)).Nodup from by exact ⟨Nat.zero_le _,fun j h=>by omega,Pg.Sn.nil,List.nodup_nil⟩) ((.e rfl (by first|rfl|(congr 1;omega)|simp_all) (.of rfl)):SubM _ _) (ho:=((.of [0,0] rfl):PickO _ _ _)) ((.of [0,1] rfl):SelR _ _ _) ?_
   rintro ⟨i,sm⟩ hI
   replace hI:i≤nt∧(∀j,j<i→Pg.okP n l (T.getD j (0,0,0)))∧Pg.Sn sm (Pg.eds (T.take i))∧(Pg.eds (T.take i)).Nodup:=hI
   try dsimp only
   obtain ⟨hi,hall,hsm,hnd⟩:=hI
   refine zg<|za<|e_p (zaa rfl rfl)<|zh<|zd<|zg<|zG rfl (fun h5=> ?_) (fun h5=> ?_)
   ·
    refine zt<|zd<|zg<|zv<|zg<|za<|zY (x0:=(T.getD i (0,0,0))) 1 i rfl yt sz50 rfl rfl rfl cbs rfl rfl (gD (d:=(0,0,0)) om) (fun b6 o7 hok8=> ?_)
    obtain ⟨hok8x,hok8y,hok8z⟩:=hok8
    replace hok8x:=zq.1 hok8x
    replace hok8y:=zq.1 hok8y
    replace hok8z:=zq.1 hok8z
    refine e_ru (zA (j:=0) 0 ty50 rfl rfl rfl (.t2 (.take .nil)))<|zO rfl rfl (zp zr50 rfl) (fun b9=> ?_)
    refine zo 0 rfl rfl rfl rfl rfl sz50 rfl (.t2 (.take .nil)) .z<|zh<|zd<|zg<|zg<|za<|e_ru (zc 0 ty50 rfl rfl (.t2 (.take .nil)))<|e_mv rfl<|zh<|zd<|zv<|zZd<|zlb<|zg<|za<|e_p (zaa rfl rfl)<|zh<|zd<|zg<|zWa rfl rfl<|zt<|zd<|zg<|zv<|zg<|za<|e_p (zMb (i:=0) yn ty3 rfl rfl dd rfl)<|e_p (zb rfl)<|zh<|zd<|zFa (X:=Unit) (fun x=>True) (fun x=>[(51,.bool (decide (((T.getD i (0,0,0)).1<0)∨(((n:Nat):Int)≤(T.getD i (0,0,0)).1)))),(12,.int .i64 ((T.getD i (0,0,0)).1)),(44,.int .i64 ((T.getD i (0,0,0)).1)),(43,.bool true),(42,.int .i64 0),(41,.agg #[.int .i64 ((T.getD i (0,0,0)).1),.int .i64 ((T.getD i (0,0,0)).2.1),.int .i64 ((T.getD i (0,0,0)).2.2)]),(10,.pointer (some ⟨b9,0,none⟩)),(37,.int .i64 ((i:Nat):Int)),(36,.int .i64 ((nt:Nat):Int)),(35,.slice pt nt ct),(8,.map (some b4)),(7,.int .i64 (Pg.sg l)),(6,.int .i64 ((n:Nat):Int)),(0,.slice p n cap)]) (fun x=>[boxA b9 50 [.int .i64 ((T.getD i (0,0,0)).1),.int .i64 ((T.getD i (0,0,0)).2.1),.int .i64 ((T.getD i (0,0,0)).2.2)],mapA b4 (fun z:Int×Int=> .agg #[.int .i64 z.1,.int .i64 z.2]) (fun z:Bool=> .bool z) (fun z=>InK .i64 z.1∧InK .i64 z.2) sm,boxA b1 98 (rgC p n cap B2 N3 ((n:Nat):Int) (Pg.sg l))]) (fun x=>[atF b6 o7 [.int .i64 ((T.getD i (0,0,0)).1),.int .i64 ((T.getD i (0,0,0)).2.1),.int .i64 ((T.getD i (0,0,0)).2.2)],slF (rI2 .i64) p cap l,slF (rI3 .i64) pt ct T]) ?_ ?_
    ·
     refine za<|e_mv rfl<|e_p (zaa rfl rfl)<|zW rfl rfl (zV rfl) (fun h10=> ?_) (fun h10=> ?_)
     ·
      refine e_no<|e_no<|e_no<|e_p (zl rfl rfl)<|zh ?_
      exact zea () (show True from by first|trivial|omega|simp_all) ((.e rfl (congrArg Value.bool cbu) (.of rfl)):SubM _ _) (ho:=((.of [0,0,0] rfl):PickO _ _ _)) ((.of [0,1,2] rfl):SelR _ _ _)
     ·
      refine e_mv rfl<|e_mv rfl<|e_p (zGa rfl rfl)<|e_p (zl rfl rfl)<|zh ?_
      exact zea () (show True from by first|trivial|omega|simp_all) ((.e rfl (congrArg Value.bool cbu) (.of rfl)):SubM _ _) (ho:=((.of [0,0,0] rfl):PickO _ _ _)) ((.of [0,1,2] rfl):SelR _ _ _)
    ·
     rintro ⟨⟩ -
     try dsimp only
     refine zG rfl (fun hr=> ?_) (fun hr=> ?_)
     ·
      have hr0:=hr
      refine zg<|za<|e_p (zb rfl)<|zh<|zd<|zK<|zm<|zi<|zi<|zm<|zi<|zm<|zi<|zi<|zm<|zi ?_
      exact zx yx () trivial (zk rfl) (by rw [Pg.ce_no hz (fun h=>by have h9:=(((Pg.acP_n hnt).1 h).2.1 i om).1;unfold Pg.inT at h9;omega)]) (ho:=(.n:PickO _ _ _)) (.n:SelR _ _ _)
     ·
      have hr0:=hr
      refine zt<|zP<|zd<|za<|e_p (zI (z:=1) rfl rfl (w64 dd))<|e_mv rfl<|zh<|zxb<|zlb<|zg<|za<|e_p (zaa rfl rfl)<|zh<|zd<|zg<|zWa rfl rfl<|zt<|zd<|zg<|zv<|zg<|za<|e_p (zMb (i:=1) yn ty3 rfl rfl dd rfl)<|e_p (zb rfl)<|zh<|zd<|zFa (X:=Unit) (fun x=>True) (fun x=>[(51,.bool (decide (((T.getD i (0,0,0)).2.1<0)∨(((n:Nat):Int)≤(T.getD i (0,0,0)).2.1)))),(12,.int .i64 ((T.getD i (0,0,0)).2.1)),(44,.int .i64 ((T.getD i (0,0,0)).2.1)),(43,.bool true),(42,.int .i64 1),(52,.int .i64 1),(41,.agg #[.int .i64 ((T.getD i (0,0,0)).1),.int .i64 ((T.getD i (0,0,0)).2.1),.int .i64 ((T.getD i (0,0,0)).2.2)]),(10,.pointer (some ⟨b9,0,none⟩)),(37,.int .i64 ((i:Nat):Int)),(36,.int .i64 ((nt:Nat):Int)),(35,.slice pt nt ct),(8,.map (some b4)),(7,.int .i64 (Pg.sg l)),(6,.int .i64 ((n:Nat):Int)),(0,.slice p n cap)]) (fun x=>[boxA b9 50 [.int .i64 ((T.getD i (0,0,0)).1),.int .i64 ((T.getD i (0,0,0)).2.1),.int .i64 ((T.getD i (0,0,0)).2.2)],mapA b4 (fun z:Int×Int=> .agg #[.int .i64 z.1,.int .i64 z.2]) (fun z:Bool=> .bool z) (fun z=>InK .i64 z.1∧InK .i64 z.2) sm,boxA b1 98 (rgC p n cap B2 N3 ((n:Nat):Int) (Pg.sg l))]) (fun x=>[atF b6 o7 [.int .i64 ((T.getD i (0,0,0)).1),.int .i64 ((T.getD i (0,0,0)).2.1),.int .i64 ((T.getD i (0,0,0)).2.2)],slF (rI2 .i64) p cap l,slF (rI3 .i64) pt ct T]) ?_ ?_
      ·
       refine za<|e_mv rfl<|e_p (zaa rfl rfl)<|zW rfl rfl (zV rfl) (fun h11=> ?_) (fun h11=> ?_)
       ·
        refine e_no<|e_no<|e_no<|e_p (zl rfl rfl)<|zh ?_
        exact zea () (show True from by first|trivial|omega|simp_all) ((.e rfl (congrArg Value.bool cbu) (.of rfl)):SubM _ _) (ho:=((.of [0,0,0] rfl):PickO _ _ _)) ((.of [0,1,2] rfl):SelR _ _ _)
       ·
        refine e_mv rfl<|e_mv rfl<|e_p (zGa rfl rfl)<|e_p (zl rfl rfl)<|zh ?_
        exact zea () (show True from by first|trivial|omega|simp_all) ((.e rfl (congrArg Value.bool cbu) (.of rfl)):SubM _ _) (ho:=((.of [0,0,0] rfl):PickO _ _ _)) ((.of [0,1,2] rfl):SelR _ _ _)
      ·
       rintro ⟨⟩ -
       try dsimp only
       refine zG rfl (fun hr=> ?_) (fun hr=> ?_)
       ·
        have hr1:=hr
        refine zg<|za<|e_p (zb rfl)<|zh<|zd<|zK<|zm<|zi<|zi<|zm<|zi<|zm<|zi<|zi<|zm<|zi ?_
        exact zx yx () trivial (zk rfl) (by rw [Pg.ce_no hz (fun h=>by have h9:=(((Pg.acP_n hnt).1 h).2.1 i om).1;unfold Pg.inT at h9;omega)]) (ho:=(.n:PickO _ _ _)) (.n:SelR _ _ _)
       ·
        have hr1:=hr
        refine zt<|zP<|zd<|za<|e_p (zI (z:=2) rfl rfl (w64 dd))<|e_mv rfl<|zh<|zxb<|zlb<|zg<|za<|e_p (zaa rfl rfl)<|zh<|zd<|zg<|zWa rfl rfl<|zt<|zd<|zg<|zv<|zg<|za<|e_p (zMb (i:=2) yn ty3 rfl rfl dd rfl)<|e_p (zb rfl)<|zh<|zd<|zFa (X:=Unit) (fun x=>True) (fun x=>[(51,.bool (decide (((T.getD i (0,0,0)).2.2<0)∨(((n:Nat):Int)≤(T.getD i (0,0,0)).2.2)))),(12,.int .i64 ((T.getD i (0,0,0)).2.2)),(44,.int .i64 ((T.getD i (0,0,0)).2.2)),(43,.bool true),(42,.int .i64 2),(52,.int .i64 2),(41,.agg #[.int .i64 ((T.getD i (0,0,0)).1),.int .i64 ((T.getD i (0,0,0)).2.1),.int .i64 ((T.getD i (0,0,0)).2.2)]),(10,.pointer (some ⟨b9,0,none⟩)),(37,.int .i64 ((i:Nat):Int)),(36,.int .i64 ((nt:Nat):Int)),(35,.slice pt nt ct),(8,.map (some b4)),(7,.int .i64 (Pg.sg l)),(6,.int .i64 ((n:Nat):Int)),(0,.slice p n cap)]) (fun x=>[boxA b9 50 [.int .i64 ((T.getD i (0,0,0)).1),.int .i64 ((T.getD i (0,0,0)).2.1),.int .i64 ((T.getD i (0,0,0)).2.2)],mapA b4 (fun z:Int×Int=> .agg #[.int .i64 z.1,.int .i64 z.2]) (fun z:Bool=> .bool z) (fun z=>InK .i64 z.1∧InK .i64 z.2) sm,boxA b1 98 (rgC p n cap B2 N3 ((n:Nat):Int) (Pg.sg l))]) (fun x=>[atF b6 o7 [.int .i64 ((T.getD i (0,0,0)).1),.int .i64 ((T.getD i (0,0,0)).2.1),.int .i64 ((T.getD i (0,0,0)).2.2)],slF (rI2 .i64) p cap l,slF (rI3 .i64) pt ct T]) ?_ ?_
        ·
         refine za<|e_mv rfl<|e_p (zaa rfl rfl)<|zW rfl rfl (zV rfl) (fun h12=> ?_) (fun h12=> ?_)
         ·
          refine e_no<|e_no<|e_no<|e_p (zl rfl rfl)<|zh ?_
          exact zea () (show True from by first|trivial|omega|simp_all) ((.e rfl (congrArg Value.bool cbu) (.of rfl)):SubM _ _) (ho:=((.of [0,0,0] rfl):PickO _ _ _)) ((.of [0,1,2] rfl):SelR _ _ _)
         ·
          refine e_mv rfl<|e_mv rfl<|e_p (zGa rfl rfl)<|e_p (zl rfl rfl)<|zh ?_
          exact zea () (show True from by first|trivial|omega|simp_all) ((.e rfl (congrArg Value.bool cbu) (.of rfl)):SubM _ _) (ho:=((.of [0,0,0] rfl):PickO _ _ _)) ((.of [0,1,2] rfl):SelR _ _ _)
        ·
         rintro ⟨⟩ -
         try dsimp only
         refine zG rfl (fun hr=> ?_) (fun hr=> ?_)
         ·
          have hr2:=hr
          refine zg<|za<|e_p (zb rfl)<|zh<|zd<|zK<|zm<|zi<|zi<|zm<|zi<|zm<|zi<|zi<|zm<|zi ?_
          exact zx yx () trivial (zk rfl) (by rw [Pg.ce_no hz (fun h=>by have h9:=(((Pg.acP_n hnt).1 h).2.1 i om).1;unfold Pg.inT at h9;omega)]) (ho:=(.n:PickO _ _ _)) (.n:SelR _ _ _)
         ·
          have hr2:=hr
          refine zt<|zP<|zd<|za<|e_p (zI (z:=3) rfl rfl (w64 dd))<|e_mv rfl<|zh<|zxb<|zlb<|zg<|za<|e_p (zaa rfl rfl)<|zh<|zd<|zg<|zXa rfl rfl<|zla<|zj<|zj<|zr<|zd<|zg<|zg ?_
          have hin:Pg.inT n (T.getD i (0,0,0)):=⟨by omega,by omega,by omega⟩
          obtain ⟨hin1,hin2,hin3⟩:=id hin
          have hq0:Pg.inR (l.getD (((T.getD i (0,0,0)).1).toNat) (0,0)):=Pg.Ok.gt hrng om
          have hq1:Pg.inR (l.getD (((T.getD i (0,0,0)).2.1).toNat) (0,0)):=Pg.Ok.gt hrng om
          have hq2:Pg.inR (l.getD (((T.getD i (0,0,0)).2.2).toNat) (0,0)):=Pg.Ok.gt hrng om
          have hsg:=Pg.s_mul (z:=Pg.crs ((l.getD (((T.getD i (0,0,0)).1).toNat) (0,0)).1,(l.getD (((T.getD i (0,0,0)).1).toNat) (0,0)).2) ((l.getD (((T.getD i (0,0,0)).2.1).toNat) (0,0)).1,(l.getD (((T.getD i (0,0,0)).2.1).toNat) (0,0)).2) ((l.getD (((T.getD i (0,0,0)).2.2).toNat) (0,0)).1,(l.getD (((T.getD i (0,0,0)).2.2).toNat) (0,0)).2)) hsr
          refine zba (OW:=[]) (O:=[boxA b9 50 [.int .i64 ((T.getD i (0,0,0)).1),.int .i64 ((T.getD i (0,0,0)).2.1),.int .i64 ((T.getD i (0,0,0)).2.2)],mapA b4 (fun z:Int×Int=> .agg #[.int .i64 z.1,.int .i64 z.2]) (fun z:Bool=> .bool z) (fun z=>InK .i64 z.1∧InK .i64 z.2) sm,boxA b1 98 (rgC p n cap B2 N3 ((n:Nat):Int) (Pg.sg l))]) 100000 mixed (.then (.then (.block (.then (.then (.block (.then .ret))))))) kr<|e_dm 0 rfl rfl rfl<|e_dm 1 rfl rfl rfl<|e_pv 2 rfl rfl (zna (i:=0) yn sz3 rfl rfl dd rfl)<|e_u 3 rfl rfl (ze 0 ty3 rfl rfl rfl)<|zca (x0:=(l.getD (((T.getD i (0,0,0)).1).toNat) (0,0))) 4 rfl rfl kr kr 1 (((T.getD i (0,0,0)).1).toNat) rfl yu sz30 rfl rfl rfl cbs rfl om (gD (d:=(0,0)) om) (fun b13 o14 hok15=> ?_)
          obtain ⟨hok15x,hok15y⟩:=hok15
          replace hok15x:=zq.1 hok15x
          replace hok15y:=zq.1 hok15y
          refine e_u 5 rfl rfl (zA (j:=0) 0 ty30 rfl rfl rfl (.t2 .nil))<|e_dm 6 rfl rfl rfl<|e_pv 7 rfl rfl (zna (i:=1) yn sz3 rfl rfl dd rfl)<|e_u 8 rfl rfl (ze 0 ty3 rfl rfl rfl)<|zca (x0:=(l.getD (((T.getD i (0,0,0)).2.1).toNat) (0,0))) 9 rfl rfl kr kr 2 (((T.getD i (0,0,0)).2.1).toNat) rfl yu sz30 rfl rfl rfl cbs rfl om (gD (d:=(0,0)) om) (fun b16 o17 hok18=> ?_)
          obtain ⟨hok18x,hok18y⟩:=hok18
          replace hok18x:=zq.1 hok18x
          replace hok18y:=zq.1 hok18y
          refine e_u 10 rfl rfl (zA (j:=0) 0 ty30 rfl rfl rfl (.t2 .nil))<|e_dm 11 rfl rfl rfl<|e_pv 12 rfl rfl (zna (i:=2) yn sz3 rfl rfl dd rfl)<|e_u 13 rfl rfl (ze 0 ty3 rfl rfl rfl)<|zca (x0:=(l.getD (((T.getD i (0,0,0)).2.2).toNat) (0,0))) 14 rfl rfl kr kr 3 (((T.getD i (0,0,0)).2.2).toNat) rfl yu sz30 rfl rfl rfl cbs rfl om (gD (d:=(0,0)) om) (fun b19 o20 hok21=> ?_)
          obtain ⟨hok21x,hok21y⟩:=hok21
          replace hok21x:=zq.1 hok21x
          replace hok21y:=zq.1 hok21y
          refine e_u 15 rfl rfl (zA (j:=0) 0 ty30 rfl rfl rfl (.t2 .nil))<|e_one 16 (zwa rfl rfl rfl rfl (.c rfl (.c rfl (.c rfl .n))) ce54 (zYa (ex:=(l.getD (((T.getD i (0,0,0)).1).toNat) (0,0)).1) (ey:=(l.getD (((T.getD i (0,0,0)).1).toNat) (0,0)).2) (fx:=(l.getD (((T.getD i (0,0,0)).2.1).toNat) (0,0)).1) (fy:=(l.getD (((T.getD i (0,0,0)).2.1).toNat) (0,0)).2) (gx:=(l.getD (((T.getD i (0,0,0)).2.2).toNat) (0,0)).1) (gy:=(l.getD (((T.getD i (0,0,0)).2.2).toNat) (0,0)).2) (hre:=cbo) (hrf:=cbo) (hrg:=cbo)) (.n) ?_)
          refine e_pv 17 rfl rfl (zDa (z:=((Pg.sg l)*(Pg.crs (((l.getD (((T.getD i (0,0,0)).1).toNat) (0,0)).1),((l.getD (((T.getD i (0,0,0)).1).toNat) (0,0)).2)) (((l.getD (((T.getD i (0,0,0)).2.1).toNat) (0,0)).1),((l.getD (((T.getD i (0,0,0)).2.1).toNat) (0,0)).2)) (((l.getD (((T.getD i (0,0,0)).2.2).toNat) (0,0)).1),((l.getD (((T.getD i (0,0,0)).2.2).toNat) (0,0)).2))).sign)) rfl rfl (w64 om))<|e_pv 18 rfl rfl (zJa rfl rfl)<|zX kr<|zd<|zG rfl (fun hs=> ?_) (fun hs=> ?_)
          ·
           refine zg<|za<|e_p (zb rfl)<|zh<|zd<|zK<|zi<|zm<|zi<|zi<|zm<|zi ?_
           exact zx yx () trivial (zk rfl) (by rw [Pg.ce_no hz (fun h=>by have h9:0<Pg.sg l*(Pg.crs ((l.getD (((T.getD i (0,0,0)).1).toNat) (0,0)).1,(l.getD (((T.getD i (0,0,0)).1).toNat) (0,0)).2) ((l.getD (((T.getD i (0,0,0)).2.1).toNat) (0,0)).1,(l.getD (((T.getD i (0,0,0)).2.1).toNat) (0,0)).2) ((l.getD (((T.getD i (0,0,0)).2.2).toNat) (0,0)).1,(l.getD (((T.getD i (0,0,0)).2.2).toNat) (0,0)).2)).sign:=(((Pg.acP_n hnt).1 h).2.1 i om).2;omega)]) (ho:=(.n:PickO _ _ _)) (.n:SelR _ _ _)
          ·
           have hs0:=hsm
           have hn0:=hnd
           refine zt<|zd<|zg<|za<|e_mv rfl<|zh<|zd<|zv<|zZd<|zlb<|zg<|za<|e_p (zaa rfl rfl)<|zh<|zd<|zg<|zWa rfl rfl<|zt<|zd<|zg<|zv<|zg<|za<|e_mv rfl<|e_p (zb rfl)<|zh<|zd<|zg<|zba (OW:=[]) (O:=[boxA b9 50 [.int .i64 ((T.getD i (0,0,0)).1),.int .i64 ((T.getD i (0,0,0)).2.1),.int .i64 ((T.getD i (0,0,0)).2.2)],mapA b4 (fun z:Int×Int=> .agg #[.int .i64 z.1,.int .i64 z.2]) (fun z:Bool=> .bool z) (fun z=>InK .i64 z.1∧InK .i64 z.2) sm,boxA b1 98 (rgC p n cap B2 N3 ((n:Nat):Int) (Pg.sg l))]) 10 mixed (.then (.block (.then (.then (.block (.block (.then (.then (.block (.then .ret)))))))))) kr<|e_dm 0 rfl rfl rfl<|e_pv 1 rfl rfl (zna (i:=0) yn sz3 rfl rfl dd rfl)<|e_u 2 rfl rfl (ze 0 ty3 rfl rfl rfl)<|e_dm 3 rfl rfl rfl<|e_pv 4 rfl rfl (zI (z:=1) rfl rfl (w64 dd))<|e_pv 5 rfl rfl (zya (z:=1) rfl rfl dd dd)<|e_pv 6 rfl rfl (zna (i:=1) yn sz3 rfl rfl dd rfl)<|e_u 7 rfl rfl (ze 0 ty3 rfl rfl rfl)<|e_pv 8 rfl rfl (zsa zr103 rfl yv sz3 (.c rfl (.c rfl .n)) (.c rfl rfl rfl (.take .nil) (.c rfl rfl rfl (.skip (.take .nil)) .n)))<|e_one 9 (zua rfl rfl rfl rfl (zp zr103 rfl) (fun b22 _=> ?_))
           refine e_one 10 (zy kr rfl rfl rfl rfl rfl sz103 rfl (.t2 .nil) ?_)
           refine zX kr<|zd<|zg<|zg<|za<|e_mv rfl<|e_ru (zc 0 ty103 rfl rfl (.t2 .nil))<|e_ru (ztc (z:=false) (a0:=((T.getD i (0,0,0)).1,(T.getD i (0,0,0)).2.1)) (v:= .bool ((mget sm ((T.getD i (0,0,0)).1,(T.getD i (0,0,0)).2.1)).getD false)) 2 rfl ky103 yw zr4 rfl rfl (⟨zq.2 om,zq.2 om⟩) rfl)<|zh<|zd<|zZa rfl (fun hseen=> ?_) (fun hseen=> ?_)
           ·
            have hfin:¬Pg.acP n l T:=fun h=>Pg.dup_no (A:=Pg.eds (T.take i)) (B:=((T.getD i (0,0,0)).2.1,(T.getD i (0,0,0)).2.2) :: ((T.getD i (0,0,0)).2.2,(T.getD i (0,0,0)).1) :: Pg.eds (T.drop (i+1))) (e:=((T.getD i (0,0,0)).1,(T.getD i (0,0,0)).2.1)) (by rw [Pg.eds_cut (i:=i) om];first|done|simp) (hs0.yes hseen) ((Pg.acP_n hnt).1 h).2.2.1
            refine zg<|za<|e_p (zb rfl)<|zh<|zd<|zK<|zi<|zm<|zi<|zi<|zm<|zm<|zi<|zi<|zm<|zi ?_
            exact zx yx () trivial (zk rfl) (by rw [Pg.ce_no hz hfin]) (ho:=(.n:PickO _ _ _)) (.n:SelR _ _ _)
           ·
            have hn1:=Pg.nd_snoc (e:=((T.getD i (0,0,0)).1,(T.getD i (0,0,0)).2.1)) hn0 (hs0.no hseen)
            have hs1:=hs0.step ((T.getD i (0,0,0)).1,(T.getD i (0,0,0)).2.1)
            refine zt<|zd<|za<|e_mv rfl<|e_ru (zc 0 ty103 rfl rfl (.t2 .nil))<|zLa 2 rfl rfl rfl (zKc (a0:=((T.getD i (0,0,0)).1,(T.getD i (0,0,0)).2.1)) (v:=true) ky103 yw rfl rfl rfl (⟨zq.2 om,zq.2 om⟩)) (fun _=>(.s (.s .z))) (fun _ _=> ?_)
            refine zh<|zP<|zd<|za<|e_p (zI (z:=1) rfl rfl (w64 dd))<|e_mv rfl<|zh<|zxb<|zlb<|zg<|za<|e_p (zaa rfl rfl)<|zh<|zd<|zg<|zWa rfl rfl<|zt<|zd<|zg<|zv<|zg<|za<|e_mv rfl<|e_p (zb rfl)<|zh<|zd<|zg<|zba (OW:=[]) (O:=[boxA b22 103 [.int .i64 ((T.getD i (0,0,0)).1),.int .i64 ((T.getD i (0,0,0)).2.1)],boxA b9 50 [.int .i64 ((T.getD i (0,0,0)).1),.int .i64 ((T.getD i (0,0,0)).2.1),.int .i64 ((T.getD i (0,0,0)).2.2)],mapA b4 (fun z:Int×Int=> .agg #[.int .i64 z.1,.int .i64 z.2]) (fun z:Bool=> .bool z) (fun z=>InK .i64 z.1∧InK .i64 z.2) (mput sm ((T.getD i (0,0,0)).1,(T.getD i (0,0,0)).2.1) true),boxA b1 98 (rgC p n cap B2 N3 ((n:Nat):Int) (Pg.sg l))]) 10 mixed (.then (.block (.then (.then (.block (.block (.then (.then (.block (.then .ret)))))))))) kr<|e_dm 0 rfl rfl rfl<|e_pv 1 rfl rfl (zna (i:=1) yn sz3 rfl rfl dd rfl)<|e_u 2 rfl rfl (ze 1 ty3 rfl rfl rfl)<|e_dm 3 rfl rfl rfl<|e_pv 4 rfl rfl (zI (z:=2) rfl rfl (w64 dd))<|e_pv 5 rfl rfl (zya (z:=2) rfl rfl dd dd)<|e_pv 6 rfl rfl (zna (i:=2) yn sz3 rfl rfl dd rfl)<|e_u 7 rfl rfl (ze 1 ty3 rfl rfl rfl)<|e_pv 8 rfl rfl (zsa zr103 rfl yv sz3 (.c rfl (.c rfl .n)) (.c rfl rfl rfl (.take .nil) (.c rfl rfl rfl (.skip (.take .nil)) .n)))<|e_one 9 (zua rfl rfl rfl rfl (zp zr103 rfl) (fun b23 _=> ?_))
            refine e_one 10 (zy kr rfl rfl rfl rfl rfl sz103 rfl (.t2 .nil) ?_)
            refine zX kr<|zd<|zg<|zg<|za<|e_mv rfl<|e_ru (zc 0 ty103 rfl rfl (.t2 .nil))<|e_ru (ztc (z:=false) (a0:=((T.getD i (0,0,0)).2.1,(T.getD i (0,0,0)).2.2)) (v:= .bool ((mget (mput sm ((T.getD i (0,0,0)).1,(T.getD i (0,0,0)).2.1) true) ((T.getD i (0,0,0)).2.1,(T.getD i (0,0,0)).2.2)).getD false)) 3 rfl ky103 yw zr4 rfl rfl (⟨zq.2 om,zq.2 om⟩) rfl)<|zh<|zd<|zZa rfl (fun hseen=> ?_) (fun hseen=> ?_)
            ·
             have hfin:¬Pg.acP n l T:=fun h=>Pg.dup_no (A:=(Pg.eds (T.take i)++[((T.getD i (0,0,0)).1,(T.getD i (0,0,0)).2.1)])) (B:=((T.getD i (0,0,0)).2.2,(T.getD i (0,0,0)).1) :: Pg.eds (T.drop (i+1))) (e:=((T.getD i (0,0,0)).2.1,(T.getD i (0,0,0)).2.2)) (by rw [Pg.eds_cut (i:=i) om];first|done|simp) (hs1.yes hseen) ((Pg.acP_n hnt).1 h).2.2.1
             refine zg<|za<|e_p (zb rfl)<|zh<|zd<|zK<|zi<|zm<|zi<|zi<|zm<|zm<|zi<|zi<|zm<|zi ?_
             exact zx yx () trivial (zk rfl) (by rw [Pg.ce_no hz hfin]) (ho:=(.n:PickO _ _ _)) (.n:SelR _ _ _)
            ·
             have hn2:=Pg.nd_snoc (e:=((T.getD i (0,0,0)).2.1,(T.getD i (0,0,0)).2.2)) hn1 (hs1.no hseen)
             have hs2:=hs1.step ((T.getD i (0,0,0)).2.1,(T.getD i (0,0,0)).2.2)
             refine zt<|zd<|za<|e_mv rfl<|e_ru (zc 0 ty103 rfl rfl (.t2 .nil))<|zLa 3 rfl rfl rfl (zKc (a0:=((T.getD i (0,0,0)).2.1,(T.getD i (0,0,0)).2.2)) (v:=true) ky103 yw rfl rfl rfl (⟨zq.2 om,zq.2 om⟩)) (fun _=>(.s (.s (.s .z)))) (fun _ _=> ?_)
             refine zh<|zP<|zd<|za<|e_p (zI (z:=2) rfl rfl (w64 dd))<|e_mv rfl<|zh<|zxb<|zlb<|zg<|za<|e_p (zaa rfl rfl)<|zh<|zd<|zg<|zWa rfl rfl<|zt<|zd<|zg<|zv<|zg<|za<|e_mv rfl<|e_p (zb rfl)<|zh<|zd<|zg<|zba (OW:=[]) (O:=[boxA b23 103 [.int .i64 ((T.getD i (0,0,0)).2.1),.int .i64 ((T.getD i (0,0,0)).2.2)],boxA b22 103 [.int .i64 ((T.getD i (0,0,0)).1),.int .i64 ((T.getD i (0,0,0)).2.1)],boxA b9 50 [.int .i64 ((T.getD i (0,0,0)).1),.int .i64 ((T.getD i (0,0,0)).2.1),.int .i64 ((T.getD i (0,0,0)).2.2)],mapA b4 (fun z:Int×Int=> .agg #[.int .i64 z.1,.int .i64 z.2]) (fun z:Bool=> .bool z) (fun z=>InK .i64 z.1∧InK .i64 z.2) (mput (mput sm ((T.getD i (0,0,0)).1,(T.getD i (0,0,0)).2.1) true) ((T.getD i (0,0,0)).2.1,(T.getD i (0,0,0)).2.2) true),boxA b1 98 (rgC p n cap B2 N3 ((n:Nat):Int) (Pg.sg l))]) 10 mixed (.then (.block (.then (.then (.block (.block (.then (.then (.block (.then .ret)))))))))) kr<|e_dm 0 rfl rfl rfl<|e_pv 1 rfl rfl (zna (i:=2) yn sz3 rfl rfl dd rfl)<|e_u 2 rfl rfl (ze 2 ty3 rfl rfl rfl)<|e_dm 3 rfl rfl rfl<|e_pv 4 rfl rfl (zI (z:=3) rfl rfl (w64 dd))<|e_pv 5 rfl rfl (zya (z:=0) rfl rfl dd dd)<|e_pv 6 rfl rfl (zna (i:=0) yn sz3 rfl rfl dd rfl)<|e_u 7 rfl rfl (ze 2 ty3 rfl rfl rfl)<|e_pv 8 rfl rfl (zsa zr103 rfl yv sz3 (.c rfl (.c rfl .n)) (.c rfl rfl rfl (.take .nil) (.c rfl rfl rfl (.skip (.take .nil)) .n)))<|e_one 9 (zua rfl rfl rfl rfl (zp zr103 rfl) (fun b24 _=> ?_))
             refine e_one 10 (zy kr rfl rfl rfl rfl rfl sz103 rfl (.t2 .nil) ?_)
             refine zX kr<|zd<|zg<|zg<|za<|e_mv rfl<|e_ru (zc 0 ty103 rfl rfl (.t2 .nil))<|e_ru (ztc (z:=false) (a0:=((T.getD i (0,0,0)).2.2,(T.getD i (0,0,0)).1)) (v:= .bool ((mget (mput (mput sm ((T.getD i (0,0,0)).1,(T.getD i (0,0,0)).2.1) true) ((T.getD i (0,0,0)).2.1,(T.getD i (0,0,0)).2.2) true) ((T.getD i (0,0,0)).2.2,(T.getD i (0,0,0)).1)).getD false)) 4 rfl ky103 yw zr4 rfl rfl (⟨zq.2 om,zq.2 om⟩) rfl)<|zh<|zd<|zZa rfl (fun hseen=> ?_) (fun hseen=> ?_)
             ·
              have hfin:¬Pg.acP n l T:=fun h=>Pg.dup_no (A:=((Pg.eds (T.take i)++[((T.getD i (0,0,0)).1,(T.getD i (0,0,0)).2.1)])++[((T.getD i (0,0,0)).2.1,(T.getD i (0,0,0)).2.2)])) (B:=Pg.eds (T.drop (i+1))) (e:=((T.getD i (0,0,0)).2.2,(T.getD i (0,0,0)).1)) (by rw [Pg.eds_cut (i:=i) om];first|done|simp) (hs2.yes hseen) ((Pg.acP_n hnt).1 h).2.2.1
              refine zg<|za<|e_p (zb rfl)<|zh<|zd<|zK<|zi<|zm<|zi<|zi<|zm<|zm<|zi<|zi<|zm<|zi ?_
              exact zx yx () trivial (zk rfl) (by rw [Pg.ce_no hz hfin]) (ho:=(.n:PickO _ _ _)) (.n:SelR _ _ _)
             ·
              have hn3:=Pg.nd_snoc (e:=((T.getD i (0,0,0)).2.2,(T.getD i (0,0,0)).1)) hn2 (hs2.no hseen)
              have hs3:=hs2.step ((T.getD i (0,0,0)).2.2,(T.getD i (0,0,0)).1)
              refine zt<|zd<|za<|e_mv rfl<|e_ru (zc 0 ty103 rfl rfl (.t2 .nil))<|zLa 4 rfl rfl rfl (zKc (a0:=((T.getD i (0,0,0)).2.2,(T.getD i (0,0,0)).1)) (v:=true) ky103 yw rfl rfl rfl (⟨zq.2 om,zq.2 om⟩)) (fun _=>(.s (.s (.s (.s .z))))) (fun _ _=> ?_)
              refine zh<|zP<|zd<|za<|e_p (zI (z:=3) rfl rfl (w64 dd))<|e_mv rfl<|zh<|zxb<|zlb<|zg<|za<|e_p (zaa rfl rfl)<|zh<|zd<|zg<|zXa rfl rfl<|zla<|zj<|zj<|zr<|zP<|zd<|za<|e_p (zI (z:=(((i+1):Nat):Int)) rfl rfl (w64 om))<|e_mv rfl<|zh<|zha ((i+1),mput (mput (mput sm ((T.getD i (0,0,0)).1,(T.getD i (0,0,0)).2.1) true) ((T.getD i (0,0,0)).2.1,(T.getD i (0,0,0)).2.2) true) ((T.getD i (0,0,0)).2.2,(T.getD i (0,0,0)).1) true) (show (i+1)≤nt∧(∀j,j<(i+1)→Pg.okP n l (T.getD j (0,0,0)))∧Pg.Sn (mput (mput (mput sm ((T.getD i (0,0,0)).1,(T.getD i (0,0,0)).2.1) true) ((T.getD i (0,0,0)).2.1,(T.getD i (0,0,0)).2.2) true) ((T.getD i (0,0,0)).2.2,(T.getD i (0,0,0)).1) true) (Pg.eds (T.take (i+1)))∧(Pg.eds (T.take (i+1))).Nodup from by exact ⟨by omega,Ms.all_lt_succ hall ⟨hin,by show 0<Pg.sg l*(Pg.crs ((l.getD (((T.getD i (0,0,0)).1).toNat) (0,0)).1,(l.getD (((T.getD i (0,0,0)).1).toNat) (0,0)).2) ((l.getD (((T.getD i (0,0,0)).2.1).toNat) (0,0)).1,(l.getD (((T.getD i (0,0,0)).2.1).toNat) (0,0)).2) ((l.getD (((T.getD i (0,0,0)).2.2).toNat) (0,0)).1,(l.getD (((T.getD i (0,0,0)).2.2).toNat) (0,0)).2)).sign;omega⟩,by rw [Pg.eds_take om];exact hs3,by rw [Pg.eds_take om];exact hn3⟩) (by show nt - (i+1)<nt - i;omega) ((.of rfl):SubM _ _) (ho:=((.of [4,4] rfl):PickO _ _ _)) ((.of [4,5] rfl):SelR _ _ _)
   ·
    have hallN:∀j,j<nt→Pg.okP n l (T.getD j (0,0,0)):=fun j hj=>hall j om
    have hsmN:Pg.Sn sm (Pg.eds T):=by have h9:=hsm;rwa [List.take_of_length_le om] at h9
    have hndN:(Pg.eds T).Nodup:=by have h9:=hnd;rwa [List.take_of_length_le om] at h9
    refine zla<|zj<|zj<|zr<|zd<|zg<|zg<|za<|e_mv rfl<|zLa 0 rfl rfl rfl (zPf yw rfl) (fun _=> .z) (fun it25 _=> ?_)
    refine zh<|zd<|zv<|zqa (X:=(List (Pg.E2×Bool))) (fun x:(List (Pg.E2×Bool))=>Pg.MV n T sm x) (fun x=>[(92,.pointer (some ⟨it25,0,none⟩)),(8,.map (some b4)),(6,.int .i64 ((n:Nat):Int)),(0,.slice p n cap)]) (fun x=>[itA b4 it25 (fun z:Int×Int=> .agg #[.int .i64 z.1,.int .i64 z.2]) (fun z:Bool=> .bool z) (fun z=>InK .i64 z.1∧InK .i64 z.2) sm x,boxA b1 98 (rgC p n cap B2 N3 ((n:Nat):Int) (Pg.sg l))]) (fun x=>[slF (rI2 .i64) p cap l,slF (rI3 .i64) pt ct T]) (fun x:(List (Pg.E2×Bool))=>sm.length - x.length) ([]:List (Pg.E2×Bool)) (show Pg.MV n T sm ([]:List (Pg.E2×Bool)) from by exact Pg.MV.nil) ((.of rfl):SubM _ _) (ho:=((.e (i:=0) rfl (by first|rfl|(congr 1;omega)|simp_all) (.c (i:=0) rfl .n)):PickO _ _ _)) ((.of [0,1] rfl):SelR _ _ _) ?_
    rintro vis hJ
    replace hJ:Pg.MV n T sm vis:=hJ
    try dsimp only
    refine zg<|za<|r_next 0 rfl rfl rfl rfl (fun _=> .z) (fun e hem hen=> ?_) (fun hperm=> ?_)
    ·
     have he9:=hsmN.mem e hem
     have her:=Pg.eds_rng hnt hallN he9
     refine e_p (zC rfl rfl)<|zh<|zd<|zg<|zWa rfl rfl<|zt<|zd<|zv<|zg<|za<|e_ru (zQf (p:=e) 0 rfl rfl)<|e_p (zC rfl rfl)<|zO rfl rfl (zp zr103 rfl) (fun b26=> ?_)
     refine zo 0 rfl rfl rfl rfl rfl sz103 rfl (.t2 .nil) .z<|zh<|zd<|zFa (X:=Unit) (fun x=>True) (fun x=>[(114,.bool (decide ((e.1.2≠((e.1.1+1)%((n:Nat):Int)))∧((!((mget sm (e.1.2,e.1.1)).getD false))=true)))),(92,.pointer (some ⟨it25,0,none⟩)),(8,.map (some b4)),(6,.int .i64 ((n:Nat):Int)),(0,.slice p n cap)]) (fun x=>[boxA b26 103 [.int .i64 (e.1.1),.int .i64 (e.1.2)],itA b4 it25 (fun z:Int×Int=> .agg #[.int .i64 z.1,.int .i64 z.2]) (fun z:Bool=> .bool z) (fun z=>InK .i64 z.1∧InK .i64 z.2) sm (vis++[e]),boxA b1 98 (rgC p n cap B2 N3 ((n:Nat):Int) (Pg.sg l))]) (fun x=>[slF (rI2 .i64) p cap l,slF (rI3 .i64) pt ct T]) ?_ ?_
     ·
      refine zba (OW:=[]) (O:=[boxA b26 103 [.int .i64 (e.1.1),.int .i64 (e.1.2)],itA b4 it25 (fun z:Int×Int=> .agg #[.int .i64 z.1,.int .i64 z.2]) (fun z:Bool=> .bool z) (fun z=>InK .i64 z.1∧InK .i64 z.2) sm (vis++[e]),boxA b1 98 (rgC p n cap B2 N3 ((n:Nat):Int) (Pg.sg l))]) 100000 mixed (.then (.block (.then (.block (.then .ret))))) kr<|e_pv 0 rfl rfl (zna (i:=1) yv sz3 rfl rfl dd rfl)<|e_u 1 rfl rfl (ze 0 ty3 rfl rfl rfl)<|e_pv 2 rfl rfl (zna (i:=0) yv sz3 rfl rfl dd rfl)<|e_u 3 rfl rfl (ze 0 ty3 rfl rfl rfl)<|e_pv 4 rfl rfl (zI (z:=(e.1.1+1)) rfl rfl (w64 om))<|e_dm 5 rfl rfl rfl<|e_pv 6 rfl rfl (zya (z:=((e.1.1+1)%((n:Nat):Int))) rfl rfl om (remN om om))<|e_pv 7 rfl rfl (zQa rfl rfl)<|znb 8 rfl rfl kr kr rfl rfl (zV rfl) (fun h27=> ?_) (fun h27=> ?_)
      ·
       refine e_dm 9 rfl rfl rfl<|e_pv 10 rfl rfl (zna (i:=1) yv sz3 rfl rfl dd rfl)<|e_u 11 rfl rfl (ze 0 ty3 rfl rfl rfl)<|e_pv 12 rfl rfl (zna (i:=0) yv sz3 rfl rfl dd rfl)<|e_u 13 rfl rfl (ze 0 ty3 rfl rfl rfl)<|e_pv 14 rfl rfl (zsa zr103 rfl yv sz3 (.c rfl (.c rfl .n)) (.c rfl rfl rfl (.take .nil) (.c rfl rfl rfl (.skip (.take .nil)) .n)))<|e_u 15 rfl rfl (zic (z:=false) (a0:=(e.1.2,e.1.1)) (v:= .bool ((mget sm (e.1.2,e.1.1)).getD false)) 1 rfl ky103 yw zr4 rfl rfl (⟨zq.2 om,zq.2 om⟩) rfl)<|e_pv 16 rfl rfl (zJb rfl)<|e_pv 17 rfl rfl (zl rfl rfl)<|zX kr ?_
       exact zea () (show True from by first|trivial|omega|simp_all) ((.e rfl (congrArg Value.bool cbu) (.of rfl)):SubM _ _) (ho:=((.of [0,0,0] rfl):PickO _ _ _)) ((.of [0,1] rfl):SelR _ _ _)
      ·
       refine e_skip 9 rfl rfl<|e_skip 10 rfl rfl<|e_skip 11 rfl rfl<|e_skip 12 rfl rfl<|e_skip 13 rfl rfl<|e_skip 14 rfl rfl<|e_skip 15 rfl rfl<|e_skip 16 rfl rfl<|e_pv 17 rfl rfl (zl rfl rfl)<|zX kr ?_
       exact zea () (show True from by first|trivial|omega|simp_all) ((.e rfl (congrArg Value.bool cbu) (.of rfl)):SubM _ _) (ho:=((.of [0,0,0] rfl):PickO _ _ _)) ((.of [0,1] rfl):SelR _ _ _)
     ·
      rintro ⟨⟩ -
      try dsimp only
      refine zG rfl (fun hx=> ?_) (fun hx=> ?_)
      ·
       refine zg<|za<|e_p (zb rfl)<|zh<|zd<|zK<|zm<|zi<|zm<|zi ?_
       exact zx yx () trivial (zk rfl) (by rw [Pg.ce_no hz (fun h=>hsmN.no (by simpa using hx.2) (((Pg.acP_n hnt).1 h).2.2.2.1 e.1 he9 hx.1))]) (ho:=(.n:PickO _ _ _)) (.n:SelR _ _ _)
      ·
       refine zt<|zP<|zha (vis++[e]) (show Pg.MV n T sm (vis++[e]) from by exact hJ.step hem hen (Pg.MV.test hsmN hx)) (by exact hJ.mu hem hen) ((.of rfl):SubM _ _) (ho:=((.of [1,1] rfl):PickO _ _ _)) ((.of [0,1] rfl):SelR _ _ _)
    ·
     have hrevN:=hJ.fin hsmN hperm
     refine e_p (zC rfl rfl)<|zh<|zd<|zg<|zXa rfl rfl<|zla<|zj<|zj<|zr<|zd<|zg<|zg<|za<|e_mv rfl<|e_p (zQ yu rfl)<|e_mv rfl<|zh<|zd<|zv<|zqa (X:=Nat) (fun x:Nat=>x≤n∧∀j:Nat,j<x→((j:Int),(((j+1)%n:Nat):Int))∈Pg.eds T) (fun x=>[(117,.int .i64 ((x:Nat):Int)),(116,.int .i64 ((n:Nat):Int)),(8,.map (some b4)),(6,.int .i64 ((n:Nat):Int))]) (fun x=>[itA b4 it25 (fun z:Int×Int=> .agg #[.int .i64 z.1,.int .i64 z.2]) (fun z:Bool=> .bool z) (fun z=>InK .i64 z.1∧InK .i64 z.2) sm vis,boxA b1 98 (rgC p n cap B2 N3 ((n:Nat):Int) (Pg.sg l))]) (fun x=>[slF (rI2 .i64) p cap l,slF (rI3 .i64) pt ct T]) (fun x:Nat=>n - x) 0 (show 0≤n∧∀j:Nat,j<0→((j:Int),(((j+1)%n:Nat):Int))∈Pg.eds T from by exact ⟨Nat.zero_le _,fun j h=>by omega⟩) ((.e rfl (by first|rfl|(congr 1;omega)|simp_all) (.of rfl)):SubM _ _) (ho:=((.of [0,0] rfl):PickO _ _ _)) ((.of [0,1] rfl):SelR _ _ _) ?_
     rintro k hK
     replace hK:k≤n∧∀j:Nat,j<k→((j:Int),(((j+1)%n:Nat):Int))∈Pg.eds T:=hK
     try dsimp only
     obtain ⟨hk,hall5⟩:=hK
     refine zg<|za<|e_p (zaa rfl rfl)<|zh<|zd<|zg<|zG rfl (fun h28=> ?_) (fun h28=> ?_)
     ·
      refine zt<|zd<|zg<|zv<|zg<|za<|e_mv rfl<|e_p (zb rfl)<|zh<|zd<|zg<|za ?_
      have hmd:=Nat.mod_lt (k+1) (show 0<n by omega)
      refine e_mv rfl<|e_mv rfl<|e_mv rfl<|e_p (zI (z:=(((k+1):Nat):Int)) rfl rfl (w64 om))<|e_mv rfl<|e_p (zya (z:=((((k+1)%n):Nat):Int)) rfl rfl om (remN om om))<|e_p (zsa zr103 rfl yv sz3 (.c rfl (.c rfl .n)) (.c rfl rfl rfl (.take .nil) (.c rfl rfl rfl (.skip (.take .nil)) .n)))<|e_ru (zic (z:=false) (a0:=(((k:Nat):Int),((((k+1)%n):Nat):Int))) (v:= .bool ((mget sm (((k:Nat):Int),((((k+1)%n):Nat):Int))).getD false)) 0 rfl ky103 yw zr4 rfl rfl (⟨zq.2 om,zq.2 om⟩) rfl)<|e_p (zJb rfl)<|zh<|zd<|zZa rfl (fun hy=> ?_) (fun hy=> ?_)
      ·
       refine zg<|za<|e_p (zb rfl)<|zh<|zd<|zK<|zm<|zi<|zi<|zm<|zi ?_
       exact zx yx () trivial (zk rfl) (by rw [Pg.ce_no hz (fun h=>hsmN.no (by simpa using hy) (((Pg.acP_n hnt).1 h).2.2.2.2 k om))]) (ho:=(.n:PickO _ _ _)) (.n:SelR _ _ _)
      ·
       refine zt<|zP<|zd<|za<|e_p (zI (z:=(((k+1):Nat):Int)) rfl rfl (w64 om))<|e_mv rfl<|zh<|zha (k+1) (show (k+1)≤n∧∀j:Nat,j<(k+1)→((j:Int),(((j+1)%n:Nat):Int))∈Pg.eds T from by exact ⟨by omega,Ms.all_lt_succ (P:=fun j:Nat=>((j:Int),(((j+1)%n:Nat):Int))∈Pg.eds T) hall5 (hsmN.yes (by simpa using hy))⟩) (by show n - (k+1)<n - k;omega) ((.of rfl):SubM _ _) (ho:=((.of [0,0] rfl):PickO _ _ _)) ((.of [0,1] rfl):SelR _ _ _)
     ·
      refine zla<|zj<|zj<|zr<|zd<|zg<|za<|e_p (zb rfl)<|zh<|zd<|zK ?_
      exact zx yx () trivial (zk rfl) (by rw [Pg.ce_yes hz ((Pg.acP_n hnt).2 ⟨by omega,hallN,hndN,hrevN,fun j hj=>hall5 j om⟩)]) (ho:=(.n:PickO _ _ _)) (.n:SelR _ _ _)
end Go.Proofs.YtjcpbhlijoigfaaGreat.Sp
namespace Go.Proofs.YtjcpbhlijoigfaaGreat.Sp
open Go
set_option linter.unusedVariables false
set_option maxRecDepth 100000
set_option maxHeartbeats 8000000
theorem zDg {p:Option Addr} {n:Nat} {cap:Nat} {l:List Pg.P2} (hn:l.length=n):Con yh 12 [.slice p n cap] [] [slF (rI2 .i64) p cap l] (Y:=Unit) (fun y=>True) (fun y=> .bool (decide (((n:Nat):Int)≤70∧(((n:Nat):Int)≤12∨64<((n:Nat):Int))))) (fun y=>[]) (fun y=>[]):=by
 refine zn Tryz.func12 rfl rfl rfl (fun c=> ?_)
 show RunC _ _ _ _ _ [(0,.slice p n cap)] [] [slF (rI2 .i64) p cap l]
 refine zia 0 rfl (fun hL0=> ?_)
 refine zg<|za<|e_p (zb rfl)<|zh<|zd<|zFa (X:=Unit) (fun x=>True) (fun x=>[(2,.bool (decide ((((n:Nat):Int)≤70)∧((((n:Nat):Int)≤12)∨(64<((n:Nat):Int))))))]) (fun x=>[]) (fun x=>[slF (rI2 .i64) p cap l]) ?_ ?_
 ·
  refine za<|e_mv rfl<|e_p (zQ yu rfl)<|e_p (zJa rfl rfl)<|zW rfl rfl (zV rfl) (fun h1=> ?_) (fun h1=> ?_)
  ·
   refine e_mv rfl<|e_p (zQ yu rfl)<|e_p (zJa rfl rfl)<|zW rfl rfl (zV rfl) (fun h2=> ?_) (fun h2=> ?_)
   ·
    refine e_no<|e_no<|e_no<|e_p (zl rfl rfl)<|e_p (zl rfl rfl)<|e_p (zb rfl)<|zh ?_
    exact zea () (show True from by first|trivial|omega|simp_all) ((.e rfl (congrArg Value.bool cbu) .n):SubM _ _) (ho:=(.n:PickO _ _ _)) ((.c (j:=0) rfl .n):SelR _ _ _)
   ·
    refine e_mv rfl<|e_p (zQ yu rfl)<|e_p (zBa rfl rfl)<|e_p (zl rfl rfl)<|e_p (zl rfl rfl)<|e_p (zb rfl)<|zh ?_
    exact zea () (show True from by first|trivial|omega|simp_all) ((.e rfl (congrArg Value.bool cbu) .n):SubM _ _) (ho:=(.n:PickO _ _ _)) ((.c (j:=0) rfl .n):SelR _ _ _)
  ·
   refine e_no<|e_no<|e_no<|e_no<|e_no<|e_no<|e_no<|e_no<|e_p (zl rfl rfl)<|e_p (zb rfl)<|zh ?_
   exact zea () (show True from by first|trivial|omega|simp_all) ((.e rfl (congrArg Value.bool cbu) .n):SubM _ _) (ho:=(.n:PickO _ _ _)) ((.c (j:=0) rfl .n):SelR _ _ _)
 ·
  rintro ⟨⟩ -
  try dsimp only
  refine zK ?_
  exact zx Tryz.results12 () trivial (zk rfl) (congrArg Value.bool (by first|rfl|(simp;omega)|simp_all)) (ho:=(.n:PickO _ _ _)) (.n:SelR _ _ _)
end Go.Proofs.YtjcpbhlijoigfaaGreat.Sp
namespace Go.Proofs.YtjcpbhlijoigfaaGreat.Sp
open Go
set_option linter.unusedVariables false
set_option maxRecDepth 100000
set_option maxHeartbeats 1000000
theorem zYc {p:Option Addr} {n:Nat} {cap:Nat} {l:List Pg.P2} (hn:l.length=n):Con yh 7 [.slice p n cap] [] [slF (rI2 .i64) p cap l] (Y:=Unit) (fun y=>True) (fun y=> .bool true) (fun y=>[]) (fun y=>[]):=by
 refine zn Tryz.func7 rfl rfl rfl (fun c=> ?_)
 show RunC _ _ _ _ _ [(0,.slice p n cap)] [] [slF (rI2 .i64) p cap l]
 refine zia 0 rfl (fun hL0=> ?_)
 refine zg<|za<|e_p (zb rfl)<|zh<|zd<|zg<|zg<|za<|zN rfl rfl (.n) ce11 (zMf) (.n)<|e_p (zJb rfl)<|zh<|zd<|zXa rfl rfl<|zt<|zd<|zg<|zg<|za<|e_mv rfl<|zN rfl rfl (.c rfl .n) ce12 (zDg (p:=p) (n:=n) (cap:=cap) (l:=l) (hn:=ass)) (.c (j:=0) rfl .n)<|e_p (ztb rfl)<|zh<|zd<|zG rfl (fun h1=> ?_) (fun h1=> ?_)
 ·
  refine zg<|za<|e_p (zb rfl)<|zh<|zd<|zK<|zi ?_
  exact zx Tryz.results7 () trivial (zk rfl) rfl (ho:=(.n:PickO _ _ _)) (.n:SelR _ _ _)
 ·
  refine zt<|zd<|zg<|za<|e_mv rfl<|zJ rfl rfl (.c rfl .n) ce30 (zve (p:=p) (n:=n) (cap:=cap) (l:=l) (hn:=ass)) (.c (j:=0) rfl .n) ?_
  rintro ⟨p22,c23⟩ -
  dsimp only [aq,nq,cq]
  refine e_mv rfl<|e_p (zC rfl rfl)<|e_p (zC rfl rfl)<|e_p (zb rfl)<|e_p (zb rfl)<|zh<|zd<|zg<|zg<|za<|e_mv rfl<|zN rfl rfl (.c rfl .n) ce16 (zKe (p:=p) (n:=n) (cap:=cap) (l:=l) (hn:=ass)) (.c (j:=0) rfl .n)<|e_p (zb rfl)<|zh<|zd<|zg<|zpe 0 rfl .z<|za<|e_mv rfl<|e_p (zQa rfl rfl)<|zh<|zd<|zG rfl (fun h19=> ?_) (fun h19=> ?_)
  ·
   obtain ⟨hv1,hv2⟩:=Pg.er_bad h19
   have hvl:(Pg.erV l).length=0:=by rw [hv1];rfl
   refine zFa (X:=Unit) (fun x=>True) (fun x=>[(2,.bool true),(4,.int .i64 (Pg.erC l)),(3,.slice p22 ((Pg.erV l).length) c23),(0,.slice p n cap)]) (fun x=>[]) (fun x=>[slF (rI3 .i64) p22 c23 (Pg.erV l),slF (rI2 .i64) p cap l]) ?_ ?_
   ·
    refine za<|e_mv rfl<|e_mv rfl<|e_p (zCa rfl rfl) ?_
    rw [show (decide ((Pg.erC l)=Pg.ck l))=true from by exact decide_eq_true hv2]
    refine e_mv rfl<|e_mv rfl<|e_p (zQ yt rfl)<|e_p (zCa rfl rfl) ?_
    rw [show (decide ((((Pg.erV l).length:Nat):Int)=0))=true from by exact decide_eq_true om]
    refine e_p (zl rfl rfl)<|e_mv rfl<|e_mv rfl<|e_mv rfl<|zN rfl rfl (.c rfl (.c rfl .n)) ce31 (zrc (p:=p) (n:=n) (cap:=cap) (l:=l) (pt:=p22) (nt:=(Pg.erV l).length) (ct:=c23) (T:=(Pg.erV l)) (hn:=ass) (hnt:=cbo) (hb:=cbo)) (.c (j:=1) rfl (.c (j:=0) rfl .n))<|e_mv rfl<|e_p (zCa rfl rfl) ?_
    rw [show (decide ((Pg.ceC n l (Pg.erV l))=Pg.ck l))=true from by exact decide_eq_true (Pg.ce_bad h19)]
    refine e_p (zl rfl rfl)<|e_p (zb rfl)<|zh ?_
    exact zea () (show True from by first|trivial|omega|simp_all) ((.of rfl):SubM _ _) (ho:=(.n:PickO _ _ _)) ((.of [0,1] rfl):SelR _ _ _)
   ·
    rintro ⟨⟩ -
    try dsimp only
    refine zK<|zi ?_
    exact zx Tryz.results7 () trivial (zk rfl) rfl (ho:=(.n:PickO _ _ _)) (.n:SelR _ _ _)
  ·
   have hz:=Decidable.not_not.1 h19
   obtain ⟨he1,he2,he3⟩:=Er.er_all hz hn
   refine zt<|zd<|zFa (X:=Unit) (fun x=>True) (fun x=>[(2,.bool true)]) (fun x=>[]) (fun x=>[slF (rI3 .i64) p22 c23 (Pg.erV l),slF (rI2 .i64) p cap l]) ?_ ?_
   ·
    refine za<|e_mv rfl<|e_p (zCa rfl rfl) ?_
    rw [show (decide ((Pg.erC l)=0))=true from by exact decide_eq_true he1]
    refine e_mv rfl<|e_mv rfl<|e_mv rfl<|zJ rfl rfl (.c rfl .n) ce33 (zwf (p:=p) (n:=n) (cap:=cap) (l:=l) (hn:=ass) (hz:=cbo)) (.c (j:=1) rfl .n) ?_
    rintro ⟨p24,c25⟩ -
    dsimp only [aq,nq,cq]
    refine zma 0 rfl .z<|zN rfl rfl (.c rfl (.c rfl .n)) ce32 (zkd (p1:=p22) (n1:=(Pg.erV l).length) (c1:=c23) (l1:=(Pg.erV l)) (p2:=p24) (n2:=(Pg.erV l).length) (c2:=c25) (l2:=(Pg.erV l)) (hn1:=cbo) (hn2:=cbo)) (.c (j:=1) rfl (.c (j:=0) rfl .n)) ?_
    rw [show (decide ((Pg.erV l)=(Pg.erV l)))=true from by exact decide_eq_true rfl]
    refine e_p (zl rfl rfl)<|e_mv rfl<|e_mv rfl<|e_mv rfl<|zN rfl rfl (.c rfl (.c rfl .n)) ce31 (zrc (p:=p) (n:=n) (cap:=cap) (l:=l) (pt:=p22) (nt:=(Pg.erV l).length) (ct:=c23) (T:=(Pg.erV l)) (hn:=ass) (hnt:=cbo) (hb:=cbo)) (.c (j:=2) rfl (.c (j:=1) rfl .n))<|e_p (zCa rfl rfl) ?_
    rw [show (decide ((Pg.ceC n l (Pg.erV l))=0))=true from by exact decide_eq_true (Pg.ce_yes hz he2)]
    refine e_p (zl rfl rfl)<|e_p (zb rfl)<|zh ?_
    exact zea () (show True from by first|trivial|omega|simp_all) ((.c rfl .n):SubM _ _) (ho:=(.n:PickO _ _ _)) ((.of [1,2] rfl):SelR _ _ _)
   ·
    rintro ⟨⟩ -
    try dsimp only
    refine zK ?_
    exact zx Tryz.results7 () trivial (zk rfl) rfl (ho:=(.n:PickO _ _ _)) (.n:SelR _ _ _)
end Go.Proofs.YtjcpbhlijoigfaaGreat.Sp
