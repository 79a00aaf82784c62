/- Lemmas on the walk and plain lemmas that the claim of this folder uses; each states its own conditions. Lines were printed by a program of ours. -/
import Derived.Test.YtjeahiahjgifgaaGreatDoorZ5D
set_option linter.unusedVariables false
set_option linter.unusedSimpArgs false
set_option linter.unusedSectionVars false
open Go.Value renaming int → yc, pointer → ye
open Go.IntKind renaming i64 → yd
open Go.Proofs.YtjeahiahjgifgaaGreatDoor.Big renaming digs → yf, raw → yg, valL → yk, ln → yn, digs_ok → yq, okL_getD → yt, zZ → yu, raw_big → yv, okL → yw, sg → yz, ln_mono' → yA, fq → yB, valL_digs → yC, valL_nonneg → yE, zgb → yF, trimL → yH, len_digs_nil → yI, nn → yK, pw → yL, hq → yM, cmp_ge → yQ, hq_num → yR, hq_den → yS, sg_abs → yT, fr → yV
open Go.Proofs.Tryz renaming underlying40 → yh, underlying42 → yi, prog → yj, underlying130 → yl, underlying131 → ym, underlying44 → yo, underlying46 → yr, underlying35 → yx, underlying37 → yD, results93 → yG, underlying4 → yJ, results14 → yP
open Go.Proofs.YtjeahiahjgifgaaGreatDoor.Sh renaming ay → yp, Cc → yN, Gc → yO, inb → yU
namespace Go.Proofs.YtjeahiahjgifgaaGreatDoor.Sp
open Go
set_option linter.unusedVariables false
set_option maxRecDepth 100000
set_option maxHeartbeats 8000000
theorem zSa {s:Bool} {p:Option Addr} {n:Nat} {cap:Nat} {l:List Int} (hn:l.length=n) (ho:yw l) (hln:n≤4398046511104):Con yj 91 [.bool s,.slice p n cap] [] [slF (rI .u32) p cap l] (Y:=(Option Addr)×Nat) (fun y=>True) (fun y=> .agg #[.bool (decide ((yz s (yk l))<0)),.slice (y.1) ((yf ((yz s (yk l)).natAbs)).length) (y.2)]) (fun y=>[]) (fun y=>[slF (rI .u32) (y.1) (y.2) (yf ((yz s (yk l)).natAbs))]):=by
 refine zx Tryz.func91 rfl rfl rfl (fun c=> ?_)
 show RunC _ _ _ _ _ [(0,.bool s),(1,.slice p n cap)] [] [slF (rI .u32) p cap l]
 refine zpa 0 rfl (fun hL0=> ?_)
 refine zj<|zc<|zJ rfl rfl (zp zr42 rfl) (fun b1=> ?_)
 refine zk<|zf<|zj<|zc<|e_mv rfl<|e_p (zea yh rfl)<|e_p (zh rfl)<|zk<|zf<|zj<|zu<|zza (X:=Nat) (fun x:Nat=>x≤n∧yH (l.take x)=yH l) (fun x=>[(5,yc yd ((x:Nat):Int)),(4,ye (some ⟨b1,0,none⟩)),(0,.bool s),(1,.slice p n cap)]) (fun x=>[boxA b1 42 [wz.b,wz.l]]) (fun x=>[slF (rI .u32) p cap l]) (fun x:Nat=>x) n (show n≤n∧yH (l.take n)=yH l from by exact ⟨by omega,by rw [List.take_of_length_le om]⟩) ((.of rfl):SubM _ _) (ho:=((.c (i:=0) rfl .n):PickO _ _ _)) ((.c (j:=0) rfl .n):SelR _ _ _) ?_
 rintro k hI
 replace hI:k≤n∧yH (l.take k)=yH l:=hI
 try dsimp only
 obtain ⟨hk,hT⟩:=hI
 refine zj<|zIa (X:=Unit) (fun x=>True) (fun x=>[(17,.bool (decide (0<k∧l.getD (k - 1) 0=0))),(5,yc yd ((k:Nat):Int)),(4,ye (some ⟨b1,0,none⟩)),(0,.bool s),(1,.slice p n cap)]) (fun x=>[boxA b1 42 [wz.b,wz.l]]) (fun x=>[slF (rI .u32) p cap l]) ?_ ?_
 ·
  refine zc<|e_mv rfl<|e_p (zZa rfl rfl)<|zsa rfl rfl (zva rfl) (fun h2=> ?_) (fun h2=> ?_)
  ·
   refine e_mv rfl<|e_mv rfl<|e_p (zma (z:=(((k:Nat):Int) - 1)) rfl rfl (w64 om))<|zP (x0:=(l.getD ((((k:Nat):Int) - 1).toNat) 0)) 0 ((((k:Nat):Int) - 1).toNat) rfl yh sz131 rfl rfl rfl cbs rfl om (gD (d:=0) om) (fun b3 o4 hok5=> ?_)
   replace hok5:=zE.1 hok5
   refine e_ru (zA (j:=0) 0 ty131 rfl rfl rfl rfl)<|e_p (zMa rfl rfl)<|e_p (zU rfl rfl)<|zk ?_
   exact zna () (show True from by first|trivial|omega|simp_all) ((.e rfl (congrArg Value.bool (by have h1:0<k:=om;have h2:((k:Int) - 1).toNat=k - 1:=om;simp [h1,h2])) (.of rfl)):SubM _ _) (ho:=((.c (i:=0) rfl .n):PickO _ _ _)) ((.c (j:=1) rfl .n):SelR _ _ _)
  ·
   refine e_no<|e_no<|e_no<|e_no<|e_no<|e_no<|e_p (zU rfl rfl)<|zk ?_
   exact zna () (show True from by first|trivial|omega|simp_all) ((.e rfl (congrArg Value.bool (by have h1:¬0<k:=om;simp [h1])) (.of rfl)):SubM _ _) (ho:=((.c (i:=0) rfl .n):PickO _ _ _)) ((.c (j:=0) rfl .n):SelR _ _ _)
 ·
  rintro ⟨⟩ -
  try dsimp only
  refine zT rfl (fun hc=> ?_) (fun hc=> ?_)
  ·
   refine zB<|zf<|zu<|zc<|e_mv rfl<|e_p (zma (z:=(((k - 1):Nat):Int)) rfl rfl (w64 om))<|e_p (zh rfl)<|zk<|zK<|zwa (k - 1) (show (k - 1)≤n∧yH (l.take (k - 1))=yH l from by exact ⟨by omega,by rw [← hT,Big.trim_go l hc.1 om hc.2]⟩) (by show k - 1<k;omega) ((.e rfl (by first|rfl|(congr 1;omega)|simp_all) (.of rfl)):SubM _ _) (ho:=((.c (i:=0) rfl .n):PickO _ _ _)) ((.c (j:=0) rfl .n):SelR _ _ _)
  ·
   have htr:l.take k=yf (yz s (yk l)).natAbs:=by rw [yT (yE ho),←Big.digs_valL ho,←hT];exact (Big.trim_stop l om hc).symm
   have hlt:(l.take k).length=k:=by rw [List.length_take];omega
   have hsg:=Big.made_sign (s:=s) ho htr hlt
   refine zla<|zn<|zn<|zC<|zf<|zj<|zc<|e_mv rfl<|r_pv_b rfl rfl (zva rfl) (fun hs=> ?_) (fun hs=> ?_)
   ·
    refine e_mv rfl<|e_p (zZa rfl rfl)<|e_p (zU rfl rfl)<|zJa rfl rfl (zAa (rI .u32) yh inf131) (fun b6 _=> ?_)
    refine e_mv rfl<|e_mv rfl<|e_p (zQb (hi:=k) yh sz131 rfl (.s rfl) (.inr ⟨_,rfl⟩) om)<|zxc (zGc 0 rfl k om) (fun _ _=> ?_)
    refine zWa 0 rfl rfl rfl (zNa 0 rfl yh inf131 dd rfl rfl cbs rfl cbs om om) (fun _=> .z) ?_
    rintro ⟨p7,c8⟩ -
    dsimp only [aq,nq,cq]
    refine e_p (zv zr42 rfl yi (.c sz4 (.c sz40 .n)) (.c rfl (.c rfl .n)) (.c rfl rfl rfl (.take .nil) (.c rfl rfl rfl (.skip (.take .nil)) .n)))<|zl 1 rfl rfl rfl rfl rfl sz42 rfl (.t2 .nil) (.s .z)<|zk<|zf<|zR ?_
    subst hs
    refine zUb 0 rfl .z ?_
    exact zL Tryz.results91 (p7,c8) trivial (zr 1 ty42 rfl rfl (.t2 .nil)) (by rw [hsg,←htr,hlt,Nat.zero_add] <;> simp) (ho:=(.n:PickO _ _ _)) ((.e (j:=0) rfl (by rw [htr] <;> rfl) .n):SelR _ _ _)
   ·
    refine e_no<|e_no<|e_p (zU rfl rfl)<|zJa rfl rfl (zAa (rI .u32) yh inf131) (fun b9 _=> ?_)
    refine e_mv rfl<|e_mv rfl<|e_p (zQb (hi:=k) yh sz131 rfl (.s rfl) (.inr ⟨_,rfl⟩) om)<|zxc (zGc 0 rfl k om) (fun _ _=> ?_)
    refine zWa 0 rfl rfl rfl (zNa 0 rfl yh inf131 dd rfl rfl cbs rfl cbs om om) (fun _=> .z) ?_
    rintro ⟨p10,c11⟩ -
    dsimp only [aq,nq,cq]
    refine e_p (zv zr42 rfl yi (.c sz4 (.c sz40 .n)) (.c rfl (.c rfl .n)) (.c rfl rfl rfl (.take .nil) (.c rfl rfl rfl (.skip (.take .nil)) .n)))<|zl 1 rfl rfl rfl rfl rfl sz42 rfl (.t2 .nil) (.s .z)<|zk<|zf<|zR ?_
    subst hs
    refine zUb 0 rfl .z ?_
    exact zL Tryz.results91 (p10,c11) trivial (zr 1 ty42 rfl rfl (.t2 .nil)) (by rw [hsg,←htr,hlt,Nat.zero_add] <;> simp) (ho:=(.n:PickO _ _ _)) ((.e (j:=0) rfl (by rw [htr] <;> rfl) .n):SelR _ _ _)
theorem ztb {s:Bool} {a:Nat} {p:Option Addr} {cap:Nat} (hln:(yf (a)).length≤4398046511104):Con yj 91 [.bool (s),.slice (p) ((yf (a)).length) (cap)] [] [slF (rI .u32) (p) (cap) (yf (a))] (Y:=(Option Addr)×(Nat)) (fun y=>True) (fun y=> .agg #[.bool (decide ((yz s (a:Int))<0)),.slice (y.1) ((yf ((yz s (a:Int)).natAbs)).length) (y.2)]) (fun y=>[]) (fun y=>[slF (rI .u32) (y.1) (y.2) (yf ((yz s (a:Int)).natAbs))]):=by
  have h:= @zSa s p (yf a).length cap (yf a) rfl (yq a) hln
  rw [yC] at h
  exact h
theorem zib {p:Option Addr} {n:Nat} {cap:Nat} {l:List Int} {i:Nat} (hn:l.length=n) (hi:i≤4611686018427387904):Con yj 109 [.slice p n cap,yc yd ((i:Nat):Int)] [] [slF (rI .u32) p cap l] (Y:=Unit) (fun y=>True) (fun y=> .int .u64 (l.getD i 0)) (fun y=>[]) (fun y=>[]):=by
 refine zx Tryz.func109 rfl rfl rfl (fun c=> ?_)
 show RunC _ _ _ _ _ [(0,.slice p n cap),(1,yc yd ((i:Nat):Int))] [] [slF (rI .u32) p cap l]
 refine zpa 0 rfl (fun hL0=> ?_)
 refine zj<|zc<|e_p (zh rfl)<|zk<|zf<|zj<|zj<|zc<|e_mv rfl<|e_mv rfl<|e_p (zea yh rfl)<|e_p (zS rfl rfl)<|zk<|zf<|zT rfl (fun h1=> ?_) (fun h1=> ?_)
 ·
  refine zj<|zc<|e_mv rfl<|e_mv rfl<|zP (x0:=(l.getD i 0)) 0 i rfl yh sz131 rfl rfl rfl cbs rfl rfl (gD (d:=0) om) (fun b2 o3 hok4=> ?_)
  replace hok4:=zE.1 hok4
  refine e_ru (zA (j:=0) 0 ty131 rfl rfl rfl rfl)<|e_p (zH (z:=(l.getD i 0)) rfl (by rw [ym];rfl) yl (wu64 om))<|e_p (zh rfl)<|zk<|zf<|zR<|zq ?_
  exact zL Tryz.results109 () trivial (zD rfl) rfl (ho:=(.n:PickO _ _ _)) (.n:SelR _ _ _)
 ·
  refine zB<|zf<|zj<|zc<|e_p (zh rfl)<|zk<|zf<|zR ?_
  exact zL Tryz.results109 () trivial (zD rfl) (by rw [show l.getD i 0=0 by simp [List.getD,List.getElem?_eq_none (show l.length≤i by omega)]]) (ho:=(.n:PickO _ _ _)) (.n:SelR _ _ _)
theorem zvc {s:Bool} {p:Option Addr} {n:Nat} {cap:Nat} {l:List Int} (hn:l.length=n):Con yj 65 [.agg #[.bool s,.slice p n cap]] [] [slF (rI .u32) p cap l] (Y:=Unit) (fun y=>True) (fun y=> .bool (decide (Big.canon s l))) (fun y=>[]) (fun y=>[]):=by
 refine zx Tryz.func65 rfl rfl rfl (fun c=> ?_)
 show RunC _ _ _ _ _ [(0,.agg #[.bool s,.slice p n cap])] [] [slF (rI .u32) p cap l]
 refine zpa 0 rfl (fun hL0=> ?_)
 refine zj<|zc<|zJ rfl rfl (zda rfl rfl) (fun b1=> ?_)
 refine e_p (zh rfl)<|zk<|zf<|zj<|zc<|e_p (zg yi rfl sz40 rfl rfl)<|e_ru (ze 0 ty40 rfl rfl rfl)<|e_p (zea yh rfl)<|e_p (zh rfl)<|zk<|zf<|zj<|zj<|zc<|e_p (zh rfl)<|zk<|zf<|zu<|zza (X:=Nat) (fun x:Nat=>x≤n∧∀j,j<x→l.getD j 0<1000000000) (fun x=>[(4,yc yd ((x:Nat):Int)),(3,yc yd ((n:Nat):Int)),(1,ye (some ⟨b1,0,none⟩))]) (fun x=>[boxA b1 42 [.bool s,.slice p n cap]]) (fun x=>[slF (rI .u32) p cap l]) (fun x:Nat=>n - x) 0 (show 0≤n∧∀j,j<0→l.getD j 0<1000000000 from by exact ⟨by omega,fun j h=>by omega⟩) ((.e rfl (by first|rfl|(congr 1;omega)|simp_all) (.c rfl (.c rfl .n))):SubM _ _) (ho:=((.c (i:=0) rfl .n):PickO _ _ _)) ((.c (j:=0) rfl .n):SelR _ _ _) ?_
 rintro i hI
 replace hI:i≤n∧∀j,j<i→l.getD j 0<1000000000:=hI
 try dsimp only
 obtain ⟨hi,hall⟩:=hI
 refine zj<|zj<|zc<|e_mv rfl<|e_mv rfl<|e_p (zS rfl rfl)<|zk<|zf<|zT rfl (fun h2=> ?_) (fun h2=> ?_)
 ·
  refine zB<|zf<|zj<|zu<|zj<|zc<|e_p (zg yi rfl sz40 rfl rfl)<|e_ru (ze 0 ty40 rfl rfl rfl)<|e_mv rfl<|zP (x0:=(l.getD i 0)) 0 i rfl yh sz131 rfl rfl rfl cbs rfl rfl (gD (d:=0) om) (fun b3 o4 hok5=> ?_)
  replace hok5:=zE.1 hok5
  refine e_ru (zA (j:=0) 0 ty131 rfl rfl rfl rfl)<|e_p (zpb rfl rfl)<|zk<|zf<|zT rfl (fun hb=> ?_) (fun hb=> ?_)
  ·
   refine zj<|zc<|e_p (zh rfl)<|zk<|zf<|zR<|zca<|zq<|zq<|zca<|zq ?_
   exact zL Tryz.results65 () trivial (zD rfl) (congrArg Value.bool (decide_eq_false (fun h=>((Big.canon_more om).1 h).2 ⟨_,Big.getD_mem om,hb⟩))) (ho:=(.n:PickO _ _ _)) (.n:SelR _ _ _)
  ·
   refine zB<|zK<|zf<|zc<|e_mv rfl<|e_p (zI (z:=(((i+1):Nat):Int)) rfl rfl (w64 om))<|e_p (zh rfl)<|zk<|zwa (i+1) (show (i+1)≤n∧∀j,j<(i+1)→l.getD j 0<1000000000 from by refine ⟨by omega,fun j hj=> ?_⟩;by_cases e:j=i;subst e;omega;exact hall j om) (by show n - (i+1)<n - i;omega) ((.of rfl):SubM _ _) (ho:=((.c (i:=0) rfl .n):PickO _ _ _)) ((.c (j:=1) rfl .n):SelR _ _ _)
 ·
  refine zla<|zn<|zn<|zC<|zf<|zj<|zj<|zc<|e_mv rfl<|e_p (zMa rfl rfl)<|zk<|zf<|zT rfl (fun h0=> ?_) (fun h0=> ?_)
  ·
   refine zj<|zc<|e_p (zg yi rfl sz4 rfl rfl)<|e_ru (ze 0 ty4 rfl rfl rfl)<|e_p (zic rfl)<|e_p (zh rfl)<|zk<|zf<|zR<|zq ?_
   exact zL Tryz.results65 () trivial (zD rfl) (congrArg Value.bool (by have:l.length=0:=om;cases s <;> simp [Big.canon,this])) (ho:=(.n:PickO _ _ _)) (.n:SelR _ _ _)
  ·
   refine zB<|zf<|zj<|zc<|e_p (zg yi rfl sz40 rfl rfl)<|e_ru (ze 0 ty40 rfl rfl rfl)<|e_mv rfl<|e_p (zma (z:=(((n:Nat):Int) - 1)) rfl rfl (w64 om))<|zP (x0:=(l.getD ((((n:Nat):Int) - 1).toNat) 0)) 0 ((((n:Nat):Int) - 1).toNat) rfl yh sz131 rfl rfl rfl cbs rfl om (gD (d:=0) om) (fun b6 o7 hok8=> ?_)
   replace hok8:=zE.1 hok8
   refine e_ru (zA (j:=0) 0 ty131 rfl rfl rfl rfl)<|e_p (zvb rfl rfl)<|e_p (zh rfl)<|zk<|zf<|zR ?_
   exact zL Tryz.results65 () trivial (zD rfl) (congrArg Value.bool (decide_eq_decide.2 (by rw [Big.canon_more om,hn];have e:((n:Int) - 1).toNat=n - 1:=om;rw [e];exact ⟨fun h=>h.1,fun h=>⟨h,fun ⟨g,hg,hb⟩=>by obtain ⟨j,hj,e⟩:=Big.mem_getD hg;have:=hall j om;omega⟩⟩))) (ho:=(.n:PickO _ _ _)) (.n:SelR _ _ _)
theorem zYa {s:Bool} {p:Option Addr} {n:Nat} {cap:Nat} {l:List Int} (hn:l.length=n) (hln:n≤1099511627776):Con yj 90 [.agg #[.bool s,.slice p n cap]] [] [slF (rI .u32) p cap l] (Y:=(Option Addr)×Nat) (fun y=>True) (fun y=> .agg #[.bool (decide ((yg s l)<0)),.slice (y.1) ((yf ((yg s l).natAbs)).length) (y.2)]) (fun y=>[]) (fun y=>[slF (rI .u32) (y.1) (y.2) (yf ((yg s l).natAbs))]):=by
 refine zx Tryz.func90 rfl rfl rfl (fun c=> ?_)
 show RunC _ _ _ _ _ [(0,.agg #[.bool s,.slice p n cap])] [] [slF (rI .u32) p cap l]
 refine zpa 0 rfl (fun hL0=> ?_)
 refine zfb 0 rfl (fun hE0=> ?_)
 have hnn:yK l:=fun g hg=>(zE.1 (hE0 g hg)).1
 refine zj<|zc<|zJ rfl rfl (zda rfl rfl) (fun b1=> ?_)
 refine zJ rfl rfl (zp zr42 rfl) (fun b2=> ?_)
 refine zk<|zf<|zj<|zj<|zc<|e_ru (zd 1 ty42 rfl rfl (.t2 .nil))<|zV rfl rfl (.c rfl .n) ce65 (zvc (s:=s) (p:=p) (n:=n) (cap:=cap) (l:=l) (hn:=ass)) (.c (j:=0) rfl .n)<|e_p (zKa rfl)<|zk<|zf<|zT rfl (fun hc=> ?_) (fun hc=> ?_)
 ·
  refine zj<|zc<|e_p (zv zr42 rfl yi (.c sz4 (.c sz40 .n)) .n .n)<|zl 0 rfl rfl rfl rfl rfl sz42 rfl (.t2 .nil) .z<|zk<|zf<|zR<|zq ?_
  have hz:yg s l=0:=by unfold yg;rw [if_neg hc]
  refine zCd (rI .u32) ?_
  exact zL Tryz.results90 (none,0) trivial (zr 0 ty42 rfl rfl (.t2 .nil)) (by rw [hz];rfl) (ho:=(.n:PickO _ _ _)) ((.e (j:=0) rfl (by rw [hz];rfl) .n):SelR _ _ _)
 ·
  refine zB<|zf<|zj<|zO (OW:=[boxA b2 42 [wz.b,wz.l]]) (O:=[boxA b1 42 [.bool s,.slice p n cap]]) 5 mixed (.then .ret) kr<|e_pv 0 rfl rfl (zg yi rfl sz4 rfl rfl)<|e_u 1 rfl rfl (ze 0 ty4 rfl rfl rfl)<|e_pv 3 rfl rfl (zg yi rfl sz40 rfl rfl)<|e_uw 4 rfl rfl (ze 1 ty40 rfl rfl rfl)<|e_one 2 (zya rfl rfl rfl rfl (zAa (rI .u32) yh inf131) (fun b3 _=> ?_))
  refine e_one 5 (zDf (A':=fun v:Option Addr×Nat=>rowA 131 (rI .u32) v.1 v.2 (([])++l)) kr rfl rfl rfl (zNa 0 rfl yh inf131 dd rfl rfl cbs rfl cbs om om) ?_)
  rintro ⟨p4,c5⟩ -
  dsimp only [aq,nq,cq]
  refine e_pv 6 rfl rfl (zv zr42 rfl yi (.c sz4 (.c sz40 .n)) (.c rfl (.c rfl .n)) (.c rfl rfl rfl (.take .nil) (.c rfl rfl rfl (.skip (.take .nil)) .n)))<|zcb (zta (i:=1) rfl)<|e_one 7 (zo kr rfl rfl rfl rfl rfl sz42 rfl (.t2 .nil) ?_)
  refine zM kr<|zf<|zR ?_
  have hcc:Big.canon s l:=Decidable.not_not.1 hc
  have hd:yf (yg s l).natAbs=l:=by rw [Big.raw_digs hnn,if_pos hcc]
  have hs:=Big.raw_sign hnn hcc
  refine zUb 1 rfl (.s .z) ?_
  exact zL Tryz.results90 (p4,c5) trivial (zr 0 ty42 rfl rfl (.t2 .nil)) (by rw [hs,hd,hn,Nat.zero_add]) (ho:=(.n:PickO _ _ _)) ((.e (j:=0) rfl (by rw [hd] <;> rfl) .n):SelR _ _ _)
theorem zUc {z:Int} {p:Option Addr} {cap:Nat} (hln:yn z≤1099511627776):Con yj 90 [.agg #[.bool (decide ((z)<0)),.slice (p) ((yf ((z).natAbs)).length) (cap)]] [] [slF (rI .u32) (p) (cap) (yf ((z).natAbs))] (Y:=(Option Addr)×(Nat)) (fun y=>True) (fun y=> .agg #[.bool (decide ((z)<0)),.slice (y.1) ((yf ((z).natAbs)).length) (y.2)]) (fun y=>[]) (fun y=>[slF (rI .u32) (y.1) (y.2) (yf ((z).natAbs))]):=by
  have h:= @zYa (decide ((z)<0)) p (yf (z).natAbs).length cap (yf (z).natAbs) rfl hln
  rw [yv] at h
  exact h
theorem zXe {z:Int} (hz: -9223372036854775808≤z∧z≤9223372036854775807):Con yj 87 [yc yd z] [] [] (Y:=(Option Addr)×Nat) (fun y=>True) (fun y=> .agg #[.bool (decide (z<0)),.slice (y.1) ((yf ((z).natAbs)).length) (y.2)]) (fun y=>[]) (fun y=>[slF (rI .u32) (y.1) (y.2) (yf ((z).natAbs))]):=by
 refine zx Tryz.func87 rfl rfl rfl (fun c=> ?_)
 show RunC _ _ _ _ _ [(0,yc yd z)] [] []
 refine zj<|zc<|zJ rfl rfl (zp zr42 rfl) (fun b1=> ?_)
 refine zk<|zf<|zj<|zc<|e_mv rfl<|e_p (zH (z:=(z%18446744073709551616)) rfl (by rw [Tryz.underlying3];rfl) yl (wu64m om))<|e_p (zh rfl)<|zk<|zf<|zIa (X:=Unit) (fun x=>True) (fun x=>[(3,.int .u64 ((z.natAbs:Nat):Int)),(2,ye (some ⟨b1,0,none⟩)),(0,yc yd z)]) (fun x=>[boxA b1 42 [wz.b,wz.l]]) (fun x=>[]) ?_ ?_
 ·
  refine zj<|zc<|e_mv rfl<|e_p (zS rfl rfl)<|zk<|zf<|zT rfl (fun hs=> ?_) (fun hs=> ?_)
  ·
   refine zc<|e_mv rfl<|e_p (zI (z:=(z+1)) rfl rfl (w64 om))<|e_p (zhc (z:=(-(z+1))) rfl (w64 om))<|e_p (zH (z:=(-(z+1))) rfl (by rw [Tryz.underlying3];rfl) yl (wu64 om))<|e_p (zI (z:=((z.natAbs:Nat):Int)) rfl rfl (wu64 om))<|e_p (zh rfl)<|zk ?_
   exact zna () (show True from by first|trivial|omega|simp_all) ((.of rfl):SubM _ _) (ho:=((.c (i:=0) rfl .n):PickO _ _ _)) (.n:SelR _ _ _)
  ·
   have e2:((z%18446744073709551616):Int)=((z.natAbs:Nat):Int):=by omega
   rw [e2]
   refine zB ?_
   exact zna () (show True from by first|trivial|omega|simp_all) ((.of rfl):SubM _ _) (ho:=((.c (i:=0) rfl .n):PickO _ _ _)) (.n:SelR _ _ _)
 ·
  rintro ⟨⟩ -
  try dsimp only
  refine zj<|zc<|zJa rfl rfl (zAa (rI .u32) yh inf131) (fun b3 _=> ?_)
  refine e_p (zh rfl)<|zk<|zf<|zj<|zu<|zza (X:=Nat×(Option Addr)×Nat×(List Int)) (fun x:Nat×(Option Addr)×Nat×(List Int)=>x.1≤z.natAbs∧x.2.2.2++yf x.1=yf z.natAbs) (fun x=>[(4,.slice (x.2.1) (x.2.2.2.length) (x.2.2.1)),(3,.int .u64 ((x.1:Nat):Int)),(2,ye (some ⟨b1,0,none⟩)),(0,yc yd z)]) (fun x=>[rowA 131 (rI .u32) (x.2.1) (x.2.2.1) (x.2.2.2),boxA b1 42 [wz.b,wz.l]]) (fun x=>[]) (fun x:Nat×(Option Addr)×Nat×(List Int)=>x.1) (z.natAbs,some ⟨b3,0,none⟩,0,[]) (show z.natAbs≤z.natAbs∧([])++yf z.natAbs=yf z.natAbs from by exact ⟨Nat.le_refl _,rfl⟩) ((.e rfl (by first|rfl|(congr 1;omega)|simp_all) (.of rfl)):SubM _ _) (ho:=((.of [0,0] rfl):PickO _ _ _)) (.n:SelR _ _ _) ?_
  rintro ⟨m,p,c,os⟩ hI
  replace hI:m≤z.natAbs∧os++yf m=yf z.natAbs:=hI
  try dsimp only
  obtain ⟨hnn,hos⟩:=hI
  have hlen0:os.length+(yf m).length≤3:=by have:=congrArg List.length hos;rw [List.length_append] at this;have:=Big.zPe (show z.natAbs<18446744073709551616 by omega);omega
  refine zj<|zj<|zc<|e_mv rfl<|e_p (zZa rfl rfl)<|zk<|zf<|zT rfl (fun h4=> ?_) (fun h4=> ?_)
  ·
   refine zB<|zf<|zu<|zj<|zc<|e_mv rfl<|e_mv rfl<|e_p (zeb (z:=(((m%1000000000):Nat):Int)) rfl rfl om (remN om om))<|e_p (zH (z:=(((m%1000000000):Nat):Int)) rfl (by rw [yl];rfl) ym (wu32 om))<|zJa rfl rfl (zQ (enc:=fun z:Int=>[.int .u32 z]) (ok:=InK .u32) (h1:=fun _=>rfl) (h2:=fun _=>rfl) (k:=1) yh inf131 rfl dd dd dd (.c (x:=(((m%1000000000):Nat):Int)) rfl rfl (fun _ _=>by exact zE.2 om) .n)) (fun b5 _=> ?_)
   refine zqa 0 rfl .z<|zWa 1 rfl rfl rfl (zNa 0 rfl yh inf131 dd rfl rfl cbs rfl cbs om om) (fun _=>(.s .z)) ?_
   rintro ⟨p6,c7⟩ -
   dsimp only [aq,nq,cq]
   refine e_p (zh rfl)<|zk<|zf<|zc<|e_mv rfl<|e_p (zdb (z:=(((m / 1000000000):Nat):Int)) rfl rfl om (by rw [quoN (z:=(((m / 1000000000):Nat):Int)) om om];exact wu64 om))<|e_p (zh rfl)<|zk<|zK<|zwa ((m / 1000000000),p6,c7,os++[((m%1000000000:Nat):Int)]) (show (m / 1000000000)≤z.natAbs∧(os++[((m%1000000000:Nat):Int)])++yf (m / 1000000000)=yf z.natAbs from by exact ⟨by omega,Big.split_step om hos⟩) (by show m / 1000000000<m;omega) ((.e rfl (by simp) (.of rfl)):SubM _ _) (ho:=((.e (i:=1) rfl (by first|rfl|(congr 1;omega)|simp_all) (.c (i:=1) rfl .n)):PickO _ _ _)) (.n:SelR _ _ _)
  ·
   have hm0:m=0:=by omega
   subst hm0
   have hd:os=yf z.natAbs:=by simpa [Big.digs_zero] using hos
   have hok:yw os:=by rw [hd];exact yq _
   have hlen:os.length≤3:=by rw [hd];exact Big.zPe om
   have hsg:yz (decide (z<0)) (yk os)=z:=by rw [hd,yC];exact Big.sg_big z
   refine zla<|zn<|zn<|zC<|zf<|zj<|zc<|e_mv rfl<|e_p (zS rfl rfl)<|e_mv rfl<|zqa 0 rfl .z<|zG rfl rfl (.c rfl (.c rfl .n)) ce91 (zSa (s:=decide (z<0)) (p:=p) (n:=os.length) (cap:=c) (l:=os) (hn:=by first|rfl|omega) (ho:=by exact hok) (hln:=by first|rfl|omega)) (.c (j:=0) rfl .n) ?_
   rintro ⟨p28,c29⟩ -
   dsimp only [aq,nq,cq]
   refine zl 1 rfl rfl rfl rfl rfl sz42 rfl (.t2 .nil) (.s .z)<|zk<|zf<|zR ?_
   exact zL Tryz.results87 (p28,c29) trivial (zr 1 ty42 rfl rfl (.t2 .nil)) (by rw [hsg]) (ho:=(.n:PickO _ _ _)) ((.e (j:=0) rfl (by rw [hsg]) .n):SelR _ _ _)
theorem zYe {a:Nat} {b:Nat} {p1:Option Addr} {c1:Nat} {p2:Option Addr} {c2:Nat} (hb1:(yf a).length≤1099511627776) (hb2:(yf b).length≤1099511627776):Con yj 92 [.slice p1 ((yf a).length) c1,.slice p2 ((yf b).length) c2] [] [slF (rI .u32) p1 c1 (yf a),slF (rI .u32) p2 c2 (yf b)] (Y:=(Option Addr)×Nat) (fun y=>True) (fun y=> .slice (y.1) ((yf (a+b)).length) (y.2)) (fun y=>[]) (fun y=>[slF (rI .u32) (y.1) (y.2) (yf (a+b))]):=by
 refine zx Tryz.func92 rfl rfl rfl (fun c=> ?_)
 show RunC _ _ _ _ _ [(0,.slice p1 ((yf a).length) c1),(1,.slice p2 ((yf b).length) c2)] [] [slF (rI .u32) p1 c1 (yf a),slF (rI .u32) p2 c2 (yf b)]
 refine zpa 0 rfl (fun hL0=> ?_)
 refine zpa 1 rfl (fun hL1=> ?_)
 refine zj<|zc<|e_p (zh rfl)<|zk<|zf<|zj<|zc<|zJa rfl rfl (zAa (rI .u32) yh inf131) (fun b1 _=> ?_)
 refine e_p (zh rfl)<|zk<|zf<|zj<|zc<|e_p (zh rfl)<|zk<|zf<|zj<|zj<|zc<|e_p (zh rfl)<|zk<|zf<|zu<|zza (X:=Nat×(Option Addr)×Nat×(List Int)×Int) (fun x:Nat×(Option Addr)×Nat×(List Int)×Int=>x.1≤max (yf a).length (yf b).length∧x.2.2.2.1.length=x.1∧0≤x.2.2.2.2∧x.2.2.2.2≤1∧yw x.2.2.2.1∧yk x.2.2.2.1+yL x.1*x.2.2.2.2=yk ((yf a).take x.1)+yk ((yf b).take x.1)) (fun x=>[(6,.int .u64 (x.2.2.2.2)),(5,.slice (x.2.1) (x.2.2.2.1.length) (x.2.2.1)),(7,yc yd ((x.1:Nat):Int)),(4,.slice none 0 0),(0,.slice p1 ((yf a).length) c1),(1,.slice p2 ((yf b).length) c2)]) (fun x=>[rowA 131 (rI .u32) (x.2.1) (x.2.2.1) (x.2.2.2.1)]) (fun x=>[slF (rI .u32) p1 c1 (yf a),slF (rI .u32) p2 c2 (yf b)]) (fun x:Nat×(Option Addr)×Nat×(List Int)×Int=>max (yf a).length (yf b).length - x.1) (0,some ⟨b1,0,none⟩,0,[],0) (show 0≤max (yf a).length (yf b).length∧([]).length=0∧0≤0∧0≤1∧yw ([])∧yk ([])+yL 0*0=yk ((yf a).take 0)+yk ((yf b).take 0) from by exact ⟨by omega,rfl,by decide,by decide,Big.okL_nil,by simp [yk]⟩) ((.c rfl (.e rfl (by first|rfl|(congr 1;omega)|simp_all) (.e rfl (by first|rfl|(congr 1;omega)|simp_all) (.of rfl)))):SubM _ _) (ho:=((.c (i:=0) rfl .n):PickO _ _ _)) ((.of [0,1] rfl):SelR _ _ _) ?_
 rintro ⟨i,p,c,os,cy⟩ hI
 replace hI:i≤max (yf a).length (yf b).length∧os.length=i∧0≤cy∧cy≤1∧yw os∧yk os+yL i*cy=yk ((yf a).take i)+yk ((yf b).take i):=hI
 try dsimp only
 obtain ⟨hi,hol,hc0,hc1,hok,hv⟩:=hI
 have hg1:=yt (yq a) i
 have hg2:=yt (yq b) i
 refine zj<|zIa (X:=Unit) (fun x=>True) (fun x=>[(19,.bool (decide (i<(yf a).length∨i<(yf b).length))),(6,.int .u64 cy),(5,.slice p (os.length) c),(7,yc yd ((i:Nat):Int)),(4,.slice none 0 0),(0,.slice p1 ((yf a).length) c1),(1,.slice p2 ((yf b).length) c2)]) (fun x=>[rowA 131 (rI .u32) p c os]) (fun x=>[slF (rI .u32) p1 c1 (yf a),slF (rI .u32) p2 c2 (yf b)]) ?_ ?_
 ·
  refine zc<|e_mv rfl<|e_mv rfl<|e_p (zea yh rfl)<|e_p (zS rfl rfl)<|zsa rfl rfl (zva rfl) (fun h2=> ?_) (fun h2=> ?_)
  ·
   refine e_no<|e_no<|e_no<|e_no<|e_p (zU rfl rfl)<|zk ?_
   exact zna () (show True from by first|trivial|omega|simp_all) ((.e rfl (congrArg Value.bool (by simp;omega)) (.of rfl)):SubM _ _) (ho:=((.c (i:=0) rfl .n):PickO _ _ _)) ((.of [0,1] rfl):SelR _ _ _)
  ·
   refine e_mv rfl<|e_mv rfl<|e_p (zea yh rfl)<|e_p (zS rfl rfl)<|e_p (zU rfl rfl)<|zk ?_
   exact zna () (show True from by first|trivial|omega|simp_all) ((.e rfl (congrArg Value.bool (by simp;omega)) (.of rfl)):SubM _ _) (ho:=((.c (i:=0) rfl .n):PickO _ _ _)) ((.of [0,1] rfl):SelR _ _ _)
 ·
  rintro ⟨⟩ -
  try dsimp only
  refine zT rfl (fun hc=> ?_) (fun hc=> ?_)
  ·
   refine zB<|zf<|zj<|zu<|zj<|zc<|e_mv rfl<|e_mv rfl<|zV rfl rfl (.c rfl (.c rfl .n)) ce109 (zib (p:=p1) (n:=(yf a).length) (cap:=c1) (l:=yf a) (i:=i) (hn:=cbb) (hi:=cbb)) (.c (j:=0) rfl .n)<|e_mv rfl<|e_mv rfl<|zV rfl rfl (.c rfl (.c rfl .n)) ce109 (zib (p:=p2) (n:=(yf b).length) (cap:=c2) (l:=yf b) (i:=i) (hn:=cbb) (hi:=cbb)) (.c (j:=1) rfl .n)<|e_p (zI (z:=((yf a).getD i 0+(yf b).getD i 0)) rfl rfl (wu64 om))<|e_mv rfl<|e_p (zI (z:=(((yf a).getD i 0+(yf b).getD i 0)+cy)) rfl rfl (wu64 om))<|e_p (zh rfl)<|zk<|zf<|zj<|zc<|e_mv rfl<|e_mv rfl<|e_p (zeb (z:=((((yf a).getD i 0+(yf b).getD i 0)+cy)%1000000000)) rfl rfl om (remN om om))<|e_p (zH (z:=((((yf a).getD i 0+(yf b).getD i 0)+cy)%1000000000)) rfl (by rw [yl];rfl) ym (wu32 om))<|zJa rfl rfl (zQ (enc:=fun z:Int=>[.int .u32 z]) (ok:=InK .u32) (h1:=fun _=>rfl) (h2:=fun _=>rfl) (k:=1) yh inf131 rfl dd dd dd (.c (x:=((((yf a).getD i 0+(yf b).getD i 0)+cy)%1000000000)) rfl rfl (fun _ _=>by exact zE.2 om) .n)) (fun b3 _=> ?_)
   refine zqa 0 rfl .z<|zWa 1 rfl rfl rfl (zNa 0 rfl yh inf131 dd rfl rfl cbs rfl cbs om om) (fun _=>(.s .z)) ?_
   rintro ⟨p4,c5⟩ -
   dsimp only [aq,nq,cq]
   refine e_p (zh rfl)<|zk<|zf<|zc<|e_mv rfl<|e_p (zdb (z:=((((yf a).getD i 0+(yf b).getD i 0)+cy) / 1000000000)) rfl rfl om (by rw [quoN (z:=((((yf a).getD i 0+(yf b).getD i 0)+cy) / 1000000000)) om om];exact wu64 om))<|e_p (zh rfl)<|zk<|zK<|zf<|zc<|e_mv rfl<|e_p (zI (z:=(((i+1):Nat):Int)) rfl rfl (w64 om))<|e_p (zh rfl)<|zk<|zwa ((i+1),p4,c5,os++[((yf a).getD i 0+(yf b).getD i 0+cy)%1000000000],((yf a).getD i 0+(yf b).getD i 0+cy) / 1000000000) (show (i+1)≤max (yf a).length (yf b).length∧(os++[((yf a).getD i 0+(yf b).getD i 0+cy)%1000000000]).length=(i+1)∧0≤(((yf a).getD i 0+(yf b).getD i 0+cy) / 1000000000)∧(((yf a).getD i 0+(yf b).getD i 0+cy) / 1000000000)≤1∧yw (os++[((yf a).getD i 0+(yf b).getD i 0+cy)%1000000000])∧yk (os++[((yf a).getD i 0+(yf b).getD i 0+cy)%1000000000])+yL (i+1)*(((yf a).getD i 0+(yf b).getD i 0+cy) / 1000000000)=yk ((yf a).take (i+1))+yk ((yf b).take (i+1)) from by exact ⟨by omega,by simp [hol],by omega,by omega,Big.okL_snoc hok om om,Big.plus_step hol hv om⟩) (by show max (yf a).length (yf b).length - (i+1)<max (yf a).length (yf b).length - i;omega) ((.e rfl (by first|rfl|(congr 1;omega)|simp_all) (.e rfl (by simp) (.of rfl))):SubM _ _) (ho:=((.e (i:=1) rfl (by first|rfl|(congr 1;omega)|simp_all) .n):PickO _ _ _)) ((.of [1,2] rfl):SelR _ _ _)
  ·
   have hok2:=Big.okL_snoc hok hc0 (show cy<1000000000 by omega)
   have hfin:=Big.plus_end (a:=a) (b:=b) hol om om hv
   refine zla<|zn<|zn<|zC<|zf<|zj<|zc<|e_mv rfl<|e_mv rfl<|e_p (zH (z:=cy) rfl (by rw [yl];rfl) ym (wu32 om))<|zJa rfl rfl (zQ (enc:=fun z:Int=>[.int .u32 z]) (ok:=InK .u32) (h1:=fun _=>rfl) (h2:=fun _=>rfl) (k:=1) yh inf131 rfl dd dd dd (.c (x:=cy) rfl rfl (fun _ _=>by exact zE.2 om) .n)) (fun b6 _=> ?_)
   refine zqa 0 rfl .z<|zWa 1 rfl rfl rfl (zNa 0 rfl yh inf131 dd rfl rfl cbs rfl cbs om om) (fun _=>(.s .z)) ?_
   rintro ⟨p7,c8⟩ -
   dsimp only [aq,nq,cq]
   refine zqa 1 rfl (.s .z)<|zG rfl rfl (.c rfl (.c rfl .n)) ce91 (zSa (s:=false) (p:=p7) (n:=os.length+1) (cap:=c8) (l:=(os++([cy]))) (hn:=by first|rfl|omega|(simp;done)|(simp;omega)) (ho:=by exact hok2) (hln:=by first|rfl|omega|(simp;done)|(simp;omega))) (.c (j:=0) rfl .n) ?_
   rintro ⟨p29,c210⟩ -
   dsimp only [aq,nq,cq]
   refine e_p (zFa yi rfl ty40 rfl rfl)<|e_p (zh rfl)<|zk<|zf<|zR ?_
   exact zL Tryz.results92 (p29,c210) trivial (zD rfl) (by rw [hfin]) (ho:=(.n:PickO _ _ _)) ((.e (j:=0) rfl (by rw [hfin]) .n):SelR _ _ _)
theorem zXb {a:Nat} {b:Nat} {p1:Option Addr} {c1:Nat} {p2:Option Addr} {c2:Nat} (hb1:(yf a).length≤1099511627776) (hb2:(yf b).length≤1099511627776) (hab:b≤a):Con yj 94 [.slice p1 ((yf a).length) c1,.slice p2 ((yf b).length) c2] [] [slF (rI .u32) p1 c1 (yf a),slF (rI .u32) p2 c2 (yf b)] (Y:=(Option Addr)×Nat) (fun y=>True) (fun y=> .slice (y.1) ((yf (a - b)).length) (y.2)) (fun y=>[]) (fun y=>[slF (rI .u32) (y.1) (y.2) (yf (a - b))]):=by
 refine zx Tryz.func94 rfl rfl rfl (fun c=> ?_)
 show RunC _ _ _ _ _ [(0,.slice p1 ((yf a).length) c1),(1,.slice p2 ((yf b).length) c2)] [] [slF (rI .u32) p1 c1 (yf a),slF (rI .u32) p2 c2 (yf b)]
 refine zpa 0 rfl (fun hL0=> ?_)
 refine zpa 1 rfl (fun hL1=> ?_)
 refine zj<|zc<|e_p (zh rfl)<|zk<|zf<|zj<|zc<|zJa rfl rfl (zAa (rI .u32) yh inf131) (fun b1 _=> ?_)
 refine e_p (zh rfl)<|zk<|zf<|zj<|zc<|e_p (zh rfl)<|zk<|zf<|zj<|zj<|zc<|e_p (zh rfl)<|zk<|zf<|zu<|zza (X:=Nat×(Option Addr)×Nat×(List Int)×Int) (fun x:Nat×(Option Addr)×Nat×(List Int)×Int=>x.1≤(yf a).length∧x.2.2.2.1.length=x.1∧0≤x.2.2.2.2∧x.2.2.2.2≤1∧yw x.2.2.2.1∧yk x.2.2.2.1+yk ((yf b).take x.1)=yk ((yf a).take x.1)+yL x.1*x.2.2.2.2) (fun x=>[(6,.int .u64 (x.2.2.2.2)),(5,.slice (x.2.1) (x.2.2.2.1.length) (x.2.2.1)),(7,yc yd ((x.1:Nat):Int)),(4,.slice none 0 0),(0,.slice p1 ((yf a).length) c1),(1,.slice p2 ((yf b).length) c2)]) (fun x=>[rowA 131 (rI .u32) (x.2.1) (x.2.2.1) (x.2.2.2.1)]) (fun x=>[slF (rI .u32) p1 c1 (yf a),slF (rI .u32) p2 c2 (yf b)]) (fun x:Nat×(Option Addr)×Nat×(List Int)×Int=>(yf a).length - x.1) (0,some ⟨b1,0,none⟩,0,[],0) (show 0≤(yf a).length∧([]).length=0∧0≤0∧0≤1∧yw ([])∧yk ([])+yk ((yf b).take 0)=yk ((yf a).take 0)+yL 0*0 from by exact ⟨by omega,rfl,by decide,by decide,Big.okL_nil,by simp [yk]⟩) ((.c rfl (.e rfl (by first|rfl|(congr 1;omega)|simp_all) (.e rfl (by first|rfl|(congr 1;omega)|simp_all) (.of rfl)))):SubM _ _) (ho:=((.c (i:=0) rfl .n):PickO _ _ _)) ((.of [0,1] rfl):SelR _ _ _) ?_
 rintro ⟨i,p,c,os,bo⟩ hI
 replace hI:i≤(yf a).length∧os.length=i∧0≤bo∧bo≤1∧yw os∧yk os+yk ((yf b).take i)=yk ((yf a).take i)+yL i*bo:=hI
 try dsimp only
 obtain ⟨hi,hol,hc0,hc1,hok,hv⟩:=hI
 have hg1:=yt (yq a) i
 have hg2:=yt (yq b) i
 refine zj<|zj<|zc<|e_mv rfl<|e_mv rfl<|e_p (zea yh rfl)<|e_p (zS rfl rfl)<|zk<|zf<|zT rfl (fun h2=> ?_) (fun h2=> ?_)
 ·
  refine zB<|zf<|zj<|zu<|zj<|zc<|e_mv rfl<|e_mv rfl<|zV rfl rfl (.c rfl (.c rfl .n)) ce109 (zib (p:=p1) (n:=(yf a).length) (cap:=c1) (l:=yf a) (i:=i) (hn:=cbb) (hi:=cbb)) (.c (j:=0) rfl .n)<|e_p (zI (z:=(1000000000+(yf a).getD i 0)) rfl rfl (wu64 om))<|e_mv rfl<|e_mv rfl<|zV rfl rfl (.c rfl (.c rfl .n)) ce109 (zib (p:=p2) (n:=(yf b).length) (cap:=c2) (l:=yf b) (i:=i) (hn:=cbb) (hi:=cbb)) (.c (j:=1) rfl .n)<|e_p (zma (z:=((1000000000+(yf a).getD i 0) - (yf b).getD i 0)) rfl rfl (wu64 om))<|e_mv rfl<|e_p (zma (z:=(((1000000000+(yf a).getD i 0) - (yf b).getD i 0) - bo)) rfl rfl (wu64 om))<|e_p (zh rfl)<|zk<|zf<|zj<|zc<|e_mv rfl<|e_mv rfl<|e_p (zeb (z:=((((1000000000+(yf a).getD i 0) - (yf b).getD i 0) - bo)%1000000000)) rfl rfl om (remN om om))<|e_p (zH (z:=((((1000000000+(yf a).getD i 0) - (yf b).getD i 0) - bo)%1000000000)) rfl (by rw [yl];rfl) ym (wu32 om))<|zJa rfl rfl (zQ (enc:=fun z:Int=>[.int .u32 z]) (ok:=InK .u32) (h1:=fun _=>rfl) (h2:=fun _=>rfl) (k:=1) yh inf131 rfl dd dd dd (.c (x:=((((1000000000+(yf a).getD i 0) - (yf b).getD i 0) - bo)%1000000000)) rfl rfl (fun _ _=>by exact zE.2 om) .n)) (fun b3 _=> ?_)
  refine zqa 0 rfl .z<|zWa 1 rfl rfl rfl (zNa 0 rfl yh inf131 dd rfl rfl cbs rfl cbs om om) (fun _=>(.s .z)) ?_
  rintro ⟨p4,c5⟩ -
  dsimp only [aq,nq,cq]
  refine e_p (zh rfl)<|zk<|zf<|zc<|e_mv rfl<|e_p (zdb (z:=((((1000000000+(yf a).getD i 0) - (yf b).getD i 0) - bo) / 1000000000)) rfl rfl om (by rw [quoN (z:=((((1000000000+(yf a).getD i 0) - (yf b).getD i 0) - bo) / 1000000000)) om om];exact wu64 om))<|e_p (zma (z:=(1 - ((((1000000000+(yf a).getD i 0) - (yf b).getD i 0) - bo) / 1000000000))) rfl rfl (wu64 om))<|e_p (zh rfl)<|zk<|zK<|zf<|zc<|e_mv rfl<|e_p (zI (z:=(((i+1):Nat):Int)) rfl rfl (w64 om))<|e_p (zh rfl)<|zk<|zwa ((i+1),p4,c5,os++[(1000000000+(yf a).getD i 0 - (yf b).getD i 0 - bo)%1000000000],1 - (1000000000+(yf a).getD i 0 - (yf b).getD i 0 - bo) / 1000000000) (show (i+1)≤(yf a).length∧(os++[(1000000000+(yf a).getD i 0 - (yf b).getD i 0 - bo)%1000000000]).length=(i+1)∧0≤(1 - (1000000000+(yf a).getD i 0 - (yf b).getD i 0 - bo) / 1000000000)∧(1 - (1000000000+(yf a).getD i 0 - (yf b).getD i 0 - bo) / 1000000000)≤1∧yw (os++[(1000000000+(yf a).getD i 0 - (yf b).getD i 0 - bo)%1000000000])∧yk (os++[(1000000000+(yf a).getD i 0 - (yf b).getD i 0 - bo)%1000000000])+yk ((yf b).take (i+1))=yk ((yf a).take (i+1))+yL (i+1)*(1 - (1000000000+(yf a).getD i 0 - (yf b).getD i 0 - bo) / 1000000000) from by exact ⟨by omega,by simp [hol],by omega,by omega,Big.okL_snoc hok om om,Big.minus_step hol hv om⟩) (by show (yf a).length - (i+1)<(yf a).length - i;omega) ((.e rfl (by first|rfl|(congr 1;omega)|simp_all) (.e rfl (by simp) (.of rfl))):SubM _ _) (ho:=((.e (i:=1) rfl (by first|rfl|(congr 1;omega)|simp_all) .n):PickO _ _ _)) ((.of [1,2] rfl):SelR _ _ _)
 ·
  have htr:yH os=yf (a - b):=Big.minus_fin hab hok hc0 hol om hv
  have hfin:(yz false (yk os)).natAbs=a - b:=by rw [yT (yE hok)];have:=congrArg yk htr;rw [Big.valL_trim,yC] at this;omega
  refine zla<|zn<|zn<|zC<|zf<|zj<|zc<|e_mv rfl<|zqa 0 rfl .z<|zG rfl rfl (.c rfl (.c rfl .n)) ce91 (zSa (s:=false) (p:=p) (n:=os.length) (cap:=c) (l:=os) (hn:=by first|rfl|omega|(simp;done)|(simp;omega)) (ho:=by exact hok) (hln:=by first|rfl|omega|(simp;done)|(simp;omega))) (.c (j:=0) rfl .n) ?_
  rintro ⟨p26,c27⟩ -
  dsimp only [aq,nq,cq]
  refine e_p (zFa yi rfl ty40 rfl rfl)<|e_p (zh rfl)<|zk<|zf<|zR ?_
  exact zL Tryz.results94 (p26,c27) trivial (zD rfl) (by rw [hfin]) (ho:=(.n:PickO _ _ _)) ((.e (j:=0) rfl (by rw [hfin]) .n):SelR _ _ _)
theorem zVc {a:Nat} {b:Nat} {p1:Option Addr} {c1:Nat} {p2:Option Addr} {c2:Nat}:Con yj 93 [.slice p1 ((yf a).length) c1,.slice p2 ((yf b).length) c2] [] [slF (rI .u32) p1 c1 (yf a),slF (rI .u32) p2 c2 (yf b)] (Y:=Unit) (fun y=>True) (fun y=> yc yd (Big.cmp (a:Int) (b:Int))) (fun y=>[]) (fun y=>[]):=by
 refine zx Tryz.func93 rfl rfl rfl (fun c=> ?_)
 show RunC _ _ _ _ _ [(0,.slice p1 ((yf a).length) c1),(1,.slice p2 ((yf b).length) c2)] [] [slF (rI .u32) p1 c1 (yf a),slF (rI .u32) p2 c2 (yf b)]
 refine zpa 0 rfl (fun hL0=> ?_)
 refine zpa 1 rfl (fun hL1=> ?_)
 refine zj<|zc<|e_p (zh rfl)<|zk<|zf<|zj<|zj<|zc<|e_mv rfl<|e_p (zea yh rfl)<|e_mv rfl<|e_p (zea yh rfl)<|e_p (zvb rfl rfl)<|zk<|zf<|zT rfl (fun hlen=> ?_) (fun hlen=> ?_)
 ·
  refine zj<|zj<|zc<|e_mv rfl<|e_p (zea yh rfl)<|e_mv rfl<|e_p (zea yh rfl)<|e_p (zS rfl rfl)<|zk<|zf<|zT rfl (fun hll=> ?_) (fun hll=> ?_)
  ·
   refine zj<|zc<|e_p (zh rfl)<|zk<|zf<|zR<|zq<|zq ?_
   exact zL yG () trivial (zD rfl) (by rw [← Big.cmp_len om,Big.cmp_lt om]) (ho:=(.n:PickO _ _ _)) (.n:SelR _ _ _)
  ·
   refine zB<|zf<|zj<|zc<|e_p (zh rfl)<|zk<|zf<|zR<|zq ?_
   exact zL yG () trivial (zD rfl) (by rw [← Big.cmp_len om,Big.cmp_gt om]) (ho:=(.n:PickO _ _ _)) (.n:SelR _ _ _)
 ·
  replace hlen:(yf a).length=(yf b).length:=by omega
  refine zB<|zf<|zj<|zj<|zc<|e_mv rfl<|e_p (zea yh rfl)<|e_p (zma (z:=((((yf a).length:Nat):Int) - 1)) rfl rfl (w64 om))<|e_p (zh rfl)<|zk<|zf<|zu<|zza (X:=Nat) (fun x:Nat=>x≤(yf a).length∧(yf a).drop x=(yf b).drop x) (fun x=>[(5,yc yd (((x:Nat):Int) - 1)),(0,.slice p1 ((yf a).length) c1),(1,.slice p2 ((yf b).length) c2)]) (fun x=>[]) (fun x=>[slF (rI .u32) p1 c1 (yf a),slF (rI .u32) p2 c2 (yf b)]) (fun x:Nat=>x) ((yf a).length) (show ((yf a).length)≤(yf a).length∧(yf a).drop ((yf a).length)=(yf b).drop ((yf a).length) from by exact ⟨Nat.le_refl _,by rw [List.drop_length,hlen,List.drop_length]⟩) ((.e rfl (by first|rfl|(congr 1;omega)|simp_all) (.c rfl (.c rfl .n))):SubM _ _) (ho:=(.n:PickO _ _ _)) ((.of [0,1] rfl):SelR _ _ _) ?_
  rintro j hI
  replace hI:j≤(yf a).length∧(yf a).drop j=(yf b).drop j:=hI
  try dsimp only
  obtain ⟨hj,hd⟩:=hI
  refine zj<|zj<|zc<|e_mv rfl<|e_p (zpb rfl rfl)<|zk<|zf<|zT rfl (fun h1=> ?_) (fun h1=> ?_)
  ·
   obtain ⟨k,rfl⟩:∃k,j=k+1:=⟨j - 1,by omega⟩
   have e2:(((((k+1):Nat):Int) - 1):Int)=((k:Nat):Int):=by omega
   rw [e2]
   refine zB<|zf<|zj<|zu<|zj<|zj<|zO (OW:=[]) (O:=[]) 100000 mixed (.then (.then (.block (.then (.then (.block (.then .ret))))))) kr<|e_dm 0 rfl rfl rfl<|e_dm 1 rfl rfl rfl<|zOa (x0:=((yf a).getD k 0)) 2 rfl rfl kr kr 0 k rfl yh sz131 rfl rfl rfl cbs rfl rfl (gD (d:=0) om) (fun b3 o4 hok5=> ?_)
   replace hok5:=zE.1 hok5
   refine e_u 3 rfl rfl (zA (j:=0) 0 ty131 rfl rfl rfl rfl)<|e_dm 4 rfl rfl rfl<|e_dm 5 rfl rfl rfl<|zOa (x0:=((yf b).getD k 0)) 6 rfl rfl kr kr 2 k rfl yh sz131 rfl rfl rfl cbs rfl rfl (gD (d:=0) om) (fun b6 o7 hok8=> ?_)
   replace hok8:=zE.1 hok8
   refine e_u 7 rfl rfl (zA (j:=0) 0 ty131 rfl rfl rfl rfl)<|e_pv 8 rfl rfl (zS rfl rfl)<|zM kr<|zf<|zT rfl (fun hlt=> ?_) (fun hlt=> ?_)
   ·
    refine zj<|zc<|e_p (zh rfl)<|zk<|zf<|zR<|zq<|zca<|zq<|zq<|zca<|zq ?_
    exact zL yG () trivial (zD rfl) (by rw [← Big.cmp_at hlen om hd om,Big.cmp_lt om]) (ho:=(.n:PickO _ _ _)) (.n:SelR _ _ _)
   ·
    refine zB<|zf<|zj<|zO (OW:=[]) (O:=[]) 100000 mixed (.then (.block (.then (.then (.block (.then .ret)))))) kr<|e_dm 0 rfl rfl rfl<|e_dm 1 rfl rfl rfl<|zOa (x0:=((yf a).getD k 0)) 2 rfl rfl kr kr 2 k rfl yh sz131 rfl rfl rfl cbs rfl rfl (gD (d:=0) om) (fun b9 o10 hok11=> ?_)
    replace hok11:=zE.1 hok11
    refine e_u 3 rfl rfl (zA (j:=0) 0 ty131 rfl rfl rfl rfl)<|e_dm 4 rfl rfl rfl<|e_dm 5 rfl rfl rfl<|zOa (x0:=((yf b).getD k 0)) 6 rfl rfl kr kr 4 k rfl yh sz131 rfl rfl rfl cbs rfl rfl (gD (d:=0) om) (fun b12 o13 hok14=> ?_)
    replace hok14:=zE.1 hok14
    refine e_u 7 rfl rfl (zA (j:=0) 0 ty131 rfl rfl rfl rfl)<|e_pv 8 rfl rfl (zZa rfl rfl)<|zM kr<|zf<|zT rfl (fun hgt=> ?_) (fun hgt=> ?_)
    ·
     refine zj<|zc<|e_p (zh rfl)<|zk<|zf<|zR<|zca<|zq<|zq<|zca<|zq ?_
     exact zL yG () trivial (zD rfl) (by rw [← Big.cmp_at hlen om hd om,Big.cmp_gt om]) (ho:=(.n:PickO _ _ _)) (.n:SelR _ _ _)
    ·
     refine zB<|zK<|zf<|zc<|e_mv rfl<|e_p (zma (z:=(((k:Nat):Int) - 1)) rfl rfl (w64 om))<|e_p (zh rfl)<|zk<|zwa k (show k≤(yf a).length∧(yf a).drop k=(yf b).drop k from by exact ⟨by omega,Big.drop_more om om hd om⟩) (by show k<k+1;omega) ((.of rfl):SubM _ _) (ho:=(.n:PickO _ _ _)) ((.of [4,5] rfl):SelR _ _ _)
  ·
   refine zla<|zn<|zn<|zC<|zf<|zj<|zc<|e_p (zh rfl)<|zk<|zf<|zR ?_
   have hj0:j=0:=by omega
   subst hj0
   have heq:=Big.cmp_eq (show yf a=yf b by simpa using hd)
   exact zL yG () trivial (zD rfl) (by rw [heq] <;> simp [Big.cmp]) (ho:=(.n:PickO _ _ _)) (.n:SelR _ _ _)
theorem zoe {s:Bool} {p:Option Addr} {n:Nat} {cap:Nat} {l:List Int} (hn:l.length=n) (hln:n≤1099511627776):Con yj 88 [.agg #[.bool s,.slice p n cap]] [] [slF (rI .u32) p cap l] (Y:=(Option Addr)×Nat) (fun y=>True) (fun y=> .agg #[.bool (decide ((- yg s l)<0)),.slice (y.1) ((yf ((- yg s l).natAbs)).length) (y.2)]) (fun y=>[]) (fun y=>[slF (rI .u32) (y.1) (y.2) (yf ((- yg s l).natAbs))]):=by
 refine zx Tryz.func88 rfl rfl rfl (fun c=> ?_)
 show RunC _ _ _ _ _ [(0,.agg #[.bool s,.slice p n cap])] [] [slF (rI .u32) p cap l]
 refine zpa 0 rfl (fun hL0=> ?_)
 refine zfb 0 rfl (fun hE0=> ?_)
 have hnn:yK l:=fun g hg=>(zE.1 (hE0 g hg)).1
 have hb:yn (yg s l)≤n:=by have:=yF (s:=s) hnn;omega
 unfold yn at hb
 refine zj<|zc<|zJ rfl rfl (zda rfl rfl) (fun b1=> ?_)
 refine zJ rfl rfl (zp zr42 rfl) (fun b2=> ?_)
 refine zk<|zf<|zj<|zc<|e_ru (zd 1 ty42 rfl rfl (.t2 .nil))<|zG rfl rfl (.c rfl .n) ce90 (zYa (s:=s) (p:=p) (n:=n) (cap:=cap) (l:=l) (hn:=ass) (hln:=ass)) (.c (j:=0) rfl .n) ?_
 rintro ⟨p23,c24⟩ -
 dsimp only [aq,nq,cq]
 refine zl 1 rfl rfl rfl rfl rfl sz42 rfl (.t2 .nil) (.s .z)<|zk<|zf<|zj<|zc<|e_p (zg yi rfl sz4 rfl rfl)<|e_ru (ze 1 ty4 rfl rfl rfl)<|e_p (zic rfl)<|e_p (zg yi rfl sz40 rfl rfl)<|e_ru (ze 1 ty40 rfl rfl rfl)<|zG rfl rfl (.c rfl (.c rfl .n)) ce91 (ztb (s:= !(decide ((yg s l)<0))) (a:=(yg s l).natAbs) (p:=p23) (cap:=c24) (hln:=cbb)) (.c (j:=0) rfl .n) ?_
 rintro ⟨p25,c26⟩ -
 dsimp only [aq,nq,cq]
 refine zl 0 rfl rfl rfl rfl rfl sz42 rfl (.t2 .nil) .z<|zk<|zf<|zR ?_
 have hz:yz (!decide (yg s l<0)) ((yg s l).natAbs:Int)= - yg s l:=by rw [Big.sg_not,Big.sg_big]
 exact zL Tryz.results88 (p25,c26) trivial (zr 0 ty42 rfl rfl (.t2 .nil)) (by rw [hz]) (ho:=(.n:PickO _ _ _)) ((.e (j:=0) rfl (by rw [hz]) .n):SelR _ _ _)
theorem zZe {z:Int} {p:Option Addr} {cap:Nat} (hln:yn z≤1099511627776):Con yj 88 [.agg #[.bool (decide ((z)<0)),.slice (p) ((yf ((z).natAbs)).length) (cap)]] [] [slF (rI .u32) (p) (cap) (yf ((z).natAbs))] (Y:=(Option Addr)×(Nat)) (fun y=>True) (fun y=> .agg #[.bool (decide ((- z)<0)),.slice (y.1) ((yf ((- z).natAbs)).length) (y.2)]) (fun y=>[]) (fun y=>[slF (rI .u32) (y.1) (y.2) (yf ((- z).natAbs))]):=by
  have h:= @zoe (decide ((z)<0)) p (yf (z).natAbs).length cap (yf (z).natAbs) rfl hln
  rw [yv] at h
  exact h
theorem zOd {w1:Wd} {x1:Int} (hln:yn x1≤1099511627776):Con yj 88 [.agg #[w1.b,w1.l]] [] [zF w1 (x1)] (Y:=(Wd)) (fun y=>True) (fun y=> .agg #[y.b,y.l]) (fun y=>[]) (fun y=>[zF y (- x1)]):=by
  exact zac (zGd (fun p c=>zZe hln))
theorem zPd {s:Bool} {p:Option Addr} {n:Nat} {cap:Nat} {l:List Int} (hn:l.length=n) (hln:n≤1099511627776):Con yj 66 [.agg #[.bool s,.slice p n cap]] [] [slF (rI .u32) p cap l] (Y:=Unit) (fun y=>True) (fun y=> yc yd ((yg s l).sign)) (fun y=>[]) (fun y=>[]):=by
 refine zx Tryz.func66 rfl rfl rfl (fun c=> ?_)
 show RunC _ _ _ _ _ [(0,.agg #[.bool s,.slice p n cap])] [] [slF (rI .u32) p cap l]
 refine zpa 0 rfl (fun hL0=> ?_)
 refine zfb 0 rfl (fun hE0=> ?_)
 have hnn:yK l:=fun g hg=>(zE.1 (hE0 g hg)).1
 refine zj<|zc<|zJ rfl rfl (zda rfl rfl) (fun b1=> ?_)
 refine e_p (zh rfl)<|zk<|zf<|zj<|zc<|e_ru (zd 0 ty42 rfl rfl (.t2 .nil))<|zG rfl rfl (.c rfl .n) ce90 (zYa (s:=s) (p:=p) (n:=n) (cap:=cap) (l:=l) (hn:=ass) (hln:=ass)) (.c (j:=0) rfl .n) ?_
 rintro ⟨p22,c23⟩ -
 dsimp only [aq,nq,cq]
 refine zl 0 rfl rfl rfl rfl rfl sz42 rfl (.t2 .nil) .z<|zk<|zf<|zj<|zj<|zc<|e_p (zg yi rfl sz40 rfl rfl)<|e_ru (ze 0 ty40 rfl rfl rfl)<|e_p (zea yh rfl)<|e_p (zMa rfl rfl)<|zk<|zf<|zT rfl (fun h0=> ?_) (fun h0=> ?_)
 ·
  refine zj<|zc<|e_p (zh rfl)<|zk<|zf<|zR<|zq ?_
  exact zL Tryz.results66 () trivial (zD rfl) (by rw [show yg s l=0 by have:=yI.1 (show (yf (yg s l).natAbs).length=0 by omega);omega];rfl) (ho:=(.n:PickO _ _ _)) (.n:SelR _ _ _)
 ·
  refine zB<|zf<|zj<|zj<|zc<|e_p (zg yi rfl sz4 rfl rfl)<|e_ru (ze 0 ty4 rfl rfl rfl)<|zk<|zf<|zhb rfl (fun hs=> ?_) (fun hs=> ?_)
  ·
   refine zj<|zc<|e_p (zh rfl)<|zk<|zf<|zR<|zq ?_
   exact zL Tryz.results66 () trivial (zD rfl) (by rw [Int.sign_eq_neg_one_of_neg (by simpa using hs)]) (ho:=(.n:PickO _ _ _)) (.n:SelR _ _ _)
  ·
   refine zB<|zf<|zj<|zc<|e_p (zh rfl)<|zk<|zf<|zR ?_
   exact zL Tryz.results66 () trivial (zD rfl) (by rw [Int.sign_eq_one_of_pos (by have h2:¬yg s l<0:=(by simpa using hs);have:(yg s l).natAbs≠0:=(fun e=>h0 (by rw [e];rfl));omega)]) (ho:=(.n:PickO _ _ _)) (.n:SelR _ _ _)
theorem zjd {z:Int} {p:Option Addr} {cap:Nat} (hln:yn z≤1099511627776):Con yj 66 [.agg #[.bool (decide ((z)<0)),.slice (p) ((yf ((z).natAbs)).length) (cap)]] [] [slF (rI .u32) (p) (cap) (yf ((z).natAbs))] (Y:=Unit) (fun y=>True) (fun y=> yc yd ((z).sign)) (fun y=>[]) (fun y=>[]):=by
  have h:= @zPd (decide ((z)<0)) p (yf (z).natAbs).length cap (yf (z).natAbs) rfl hln
  rw [yv] at h
  exact h
theorem zwc {w1:Wd} {x1:Int} (hln:yn x1≤1099511627776):Con yj 66 [.agg #[w1.b,w1.l]] [] [zF w1 (x1)] (Y:=Unit) (fun y=>True) (fun y=> yc yd ((x1).sign)) (fun y=>[]) (fun y=>[]):=by
  exact zGd (fun p c=>zjd hln)
theorem zpe {s:Bool} {p1:Option Addr} {n1:Nat} {c1:Nat} {l1:List Int} {t:Bool} {p2:Option Addr} {n2:Nat} {c2:Nat} {l2:List Int} (hn1:l1.length=n1) (hn2:l2.length=n2) (hm1:n1≤1099511627776) (hm2:n2≤1099511627776):Con yj 59 [.agg #[.bool s,.slice p1 n1 c1],.agg #[.bool t,.slice p2 n2 c2]] [] [slF (rI .u32) p1 c1 l1,slF (rI .u32) p2 c2 l2] (Y:=(Option Addr)×Nat) (fun y=>True) (fun y=> .agg #[.bool (decide ((yg s l1+yg t l2)<0)),.slice (y.1) ((yf ((yg s l1+yg t l2).natAbs)).length) (y.2)]) (fun y=>[]) (fun y=>[slF (rI .u32) (y.1) (y.2) (yf ((yg s l1+yg t l2).natAbs))]):=by
 refine zx Tryz.func59 rfl rfl rfl (fun c=> ?_)
 show RunC _ _ _ _ _ [(0,.agg #[.bool s,.slice p1 n1 c1]),(1,.agg #[.bool t,.slice p2 n2 c2])] [] [slF (rI .u32) p1 c1 l1,slF (rI .u32) p2 c2 l2]
 refine zpa 0 rfl (fun hL0=> ?_)
 refine zfb 0 rfl (fun hE0=> ?_)
 refine zpa 1 rfl (fun hL1=> ?_)
 refine zfb 1 rfl (fun hE1=> ?_)
 have hnn1:yK l1:=fun g hg=>(zE.1 (hE0 g hg)).1
 have hnn2:yK l2:=fun g hg=>(zE.1 (hE1 g hg)).1
 have hb1:yn (yg s l1)≤n1:=by have:=yF (s:=s) hnn1;omega
 have hb2:yn (yg t l2)≤n2:=by have:=yF (s:=t) hnn2;omega
 unfold yn at hb1 hb2
 refine zj<|zc<|zJ rfl rfl (zda rfl rfl) (fun b1=> ?_)
 refine zJ rfl rfl (zda rfl rfl) (fun b2=> ?_)
 refine zJ rfl rfl (zp zr42 rfl) (fun b3=> ?_)
 refine zk<|zf<|zj<|zba (.c (i:=2) rfl (.c (i:=1) rfl (.c (i:=0) rfl .n)))<|zO (OW:=[boxA b1 42 [.bool s,.slice p1 n1 c1],boxA b2 42 [.bool t,.slice p2 n2 c2]]) (O:=[boxA b3 42 [wz.b,wz.l]]) 4 mixed (.then .ret) kr<|e_uw 0 rfl rfl (zd 0 ty42 rfl rfl (.t2 .nil))<|e_uw 2 rfl rfl (zd 1 ty42 rfl rfl (.t2 .nil))<|e_one 1 (zm rfl rfl rfl rfl (.c rfl .n) ce90 (zYa (s:=s) (p:=p1) (n:=n1) (cap:=c1) (l:=l1) (hn:=ass) (hln:=ass)) (.c (j:=0) rfl .n) ?_)
 rintro ⟨p24,c25⟩ -
 dsimp only [aq,nq,cq]
 refine e_one 3 (zm rfl rfl rfl rfl (.c rfl .n) ce90 (zYa (s:=t) (p:=p2) (n:=n2) (cap:=c2) (l:=l2) (hn:=ass) (hln:=ass)) (.c (j:=2) rfl .n) ?_)
 rintro ⟨p26,c27⟩ -
 dsimp only [aq,nq,cq]
 refine e_one 4 (zo kr rfl rfl rfl rfl rfl sz42 rfl (.t2 .nil) ?_)
 refine zcb (zta (i:=1) rfl)<|e_one 5 (zo kr rfl rfl rfl rfl rfl sz42 rfl (.t2 .nil) ?_)
 refine zM kr<|zf<|zj<|zj<|zc<|e_p (zg yi rfl sz4 rfl rfl)<|e_ru (ze 1 ty4 rfl rfl rfl)<|e_p (zg yi rfl sz4 rfl rfl)<|e_ru (ze 0 ty4 rfl rfl rfl)<|e_p (zJc yJ rfl rfl)<|zk<|zf<|zT rfl (fun hst=> ?_) (fun hst=> ?_)
 ·
  refine zj<|zba (.c (i:=2) rfl (.c (i:=0) rfl (.c (i:=0) rfl .n)))<|zO (OW:=[boxA b3 42 [wz.b,wz.l]]) (O:=[boxA b2 42 [.bool (decide ((yg t l2)<0)),.slice p26 ((yf ((yg t l2).natAbs)).length) c27],boxA b1 42 [.bool (decide ((yg s l1)<0)),.slice p24 ((yf ((yg s l1).natAbs)).length) c25]]) 8 mixed (.then (.then .ret)) kr<|e_pv 0 rfl rfl (zg yi rfl sz4 rfl rfl)<|e_uw 1 rfl rfl (ze 2 ty4 rfl rfl rfl)<|e_pv 2 rfl rfl (zg yi rfl sz40 rfl rfl)<|e_uw 3 rfl rfl (ze 2 ty40 rfl rfl rfl)<|e_pv 4 rfl rfl (zg yi rfl sz40 rfl rfl)<|e_uw 5 rfl rfl (ze 1 ty40 rfl rfl rfl)<|e_one 6 (zm rfl rfl rfl rfl (.c rfl (.c rfl .n)) ce92 (zYe (a:=(yg s l1).natAbs) (b:=(yg t l2).natAbs) (p1:=p24) (c1:=c25) (p2:=p26) (c2:=c27) (hb1:=by first|rfl|assumption|omega|(unfold yn;omega)|(simp;done)|(simp;omega)|(simp_all;done)) (hb2:=by first|rfl|assumption|omega|(unfold yn;omega)|(simp;done)|(simp;omega)|(simp_all;done))) (.c (j:=1) rfl (.c (j:=0) rfl .n)) ?_)
  rintro ⟨p38,c39⟩ -
  dsimp only [aq,nq,cq]
  refine e_one 7 (zm rfl rfl rfl rfl (.c rfl (.c rfl .n)) ce91 (ztb (s:=decide ((yg s l1)<0)) (a:=((yg s l1).natAbs)+((yg t l2).natAbs)) (p:=p38) (cap:=c39) (hln:=by have:=Big.len_add (yg s l1).natAbs (yg t l2).natAbs;omega)) (.c (j:=0) rfl .n) ?_)
  rintro ⟨p210,c211⟩ -
  dsimp only [aq,nq,cq]
  refine e_one 8 (zo kr rfl rfl rfl rfl rfl sz42 rfl (.t2 .nil) ?_)
  refine zM kr<|zf<|zR<|zq ?_
  have hz:=Big.add_same hst
  exact zL Tryz.results59 (p210,c211) trivial (zr 0 ty42 rfl rfl (.t2 .nil)) (by rw [hz]) (ho:=(.n:PickO _ _ _)) ((.e (j:=0) rfl (by rw [hz]) .n):SelR _ _ _)
 ·
  refine zB<|zf<|zj<|zj<|zc<|e_p (zg yi rfl sz40 rfl rfl)<|e_ru (ze 1 ty40 rfl rfl rfl)<|e_p (zg yi rfl sz40 rfl rfl)<|e_ru (ze 0 ty40 rfl rfl rfl)<|zV rfl rfl (.c rfl (.c rfl .n)) ce93 (zVc (a:=(yg s l1).natAbs) (b:=(yg t l2).natAbs) (p1:=p24) (c1:=c25) (p2:=p26) (c2:=c27)) (.c (j:=1) rfl (.c (j:=0) rfl .n))<|e_p (zpb rfl rfl)<|zk<|zf<|zT rfl (fun hcmp=> ?_) (fun hcmp=> ?_)
  ·
   have hab:(yg t l2).natAbs≤(yg s l1).natAbs:=by have:=yQ.1 hcmp;omega
   refine zj<|zba (.c (i:=2) rfl (.c (i:=0) rfl (.c (i:=0) rfl .n)))<|zO (OW:=[boxA b3 42 [wz.b,wz.l]]) (O:=[boxA b2 42 [.bool (decide ((yg t l2)<0)),.slice p26 ((yf ((yg t l2).natAbs)).length) c27],boxA b1 42 [.bool (decide ((yg s l1)<0)),.slice p24 ((yf ((yg s l1).natAbs)).length) c25]]) 8 mixed (.then (.then .ret)) kr<|e_pv 0 rfl rfl (zg yi rfl sz4 rfl rfl)<|e_uw 1 rfl rfl (ze 2 ty4 rfl rfl rfl)<|e_pv 2 rfl rfl (zg yi rfl sz40 rfl rfl)<|e_uw 3 rfl rfl (ze 2 ty40 rfl rfl rfl)<|e_pv 4 rfl rfl (zg yi rfl sz40 rfl rfl)<|e_uw 5 rfl rfl (ze 1 ty40 rfl rfl rfl)<|e_one 6 (zm rfl rfl rfl rfl (.c rfl (.c rfl .n)) ce94 (zXb (a:=(yg s l1).natAbs) (b:=(yg t l2).natAbs) (p1:=p24) (c1:=c25) (p2:=p26) (c2:=c27) (hb1:=by first|rfl|assumption|omega|(unfold yn;omega)|(simp;done)|(simp;omega)|(simp_all;done)) (hb2:=by first|rfl|assumption|omega|(unfold yn;omega)|(simp;done)|(simp;omega)|(simp_all;done)) (hab:=by first|rfl|assumption|omega|(unfold yn;omega)|(simp;done)|(simp;omega)|(simp_all;done))) (.c (j:=1) rfl (.c (j:=0) rfl .n)) ?_)
   rintro ⟨p312,c313⟩ -
   dsimp only [aq,nq,cq]
   refine e_one 7 (zm rfl rfl rfl rfl (.c rfl (.c rfl .n)) ce91 (ztb (s:=decide ((yg s l1)<0)) (a:=((yg s l1).natAbs) - ((yg t l2).natAbs)) (p:=p312) (cap:=c313) (hln:=by have:=Big.len_sub (yg s l1).natAbs (yg t l2).natAbs;omega)) (.c (j:=0) rfl .n) ?_)
   rintro ⟨p214,c215⟩ -
   dsimp only [aq,nq,cq]
   refine e_one 8 (zo kr rfl rfl rfl rfl rfl sz42 rfl (.t2 .nil) ?_)
   refine zM kr<|zf<|zR<|zq ?_
   have hz:=Big.add_ge hst hab
   exact zL Tryz.results59 (p214,c215) trivial (zr 0 ty42 rfl rfl (.t2 .nil)) (by rw [hz]) (ho:=(.n:PickO _ _ _)) ((.e (j:=0) rfl (by rw [hz]) .n):SelR _ _ _)
  ·
   have hab:(yg s l1).natAbs≤(yg t l2).natAbs:=by have:¬((yg t l2).natAbs:Int)≤(yg s l1).natAbs:=fun h=>hcmp (yQ.2 h);omega
   refine zB<|zf<|zj<|zba (.c (i:=2) rfl (.c (i:=0) rfl (.c (i:=0) rfl .n)))<|zO (OW:=[boxA b3 42 [wz.b,wz.l]]) (O:=[boxA b2 42 [.bool (decide ((yg t l2)<0)),.slice p26 ((yf ((yg t l2).natAbs)).length) c27],boxA b1 42 [.bool (decide ((yg s l1)<0)),.slice p24 ((yf ((yg s l1).natAbs)).length) c25]]) 8 mixed (.then .ret) kr<|e_pv 0 rfl rfl (zg yi rfl sz4 rfl rfl)<|e_uw 1 rfl rfl (ze 1 ty4 rfl rfl rfl)<|e_pv 2 rfl rfl (zg yi rfl sz40 rfl rfl)<|e_uw 3 rfl rfl (ze 1 ty40 rfl rfl rfl)<|e_pv 4 rfl rfl (zg yi rfl sz40 rfl rfl)<|e_uw 5 rfl rfl (ze 2 ty40 rfl rfl rfl)<|e_one 6 (zm rfl rfl rfl rfl (.c rfl (.c rfl .n)) ce94 (zXb (a:=(yg t l2).natAbs) (b:=(yg s l1).natAbs) (p1:=p26) (c1:=c27) (p2:=p24) (c2:=c25) (hb1:=by first|rfl|assumption|omega|(unfold yn;omega)|(simp;done)|(simp;omega)|(simp_all;done)) (hb2:=by first|rfl|assumption|omega|(unfold yn;omega)|(simp;done)|(simp;omega)|(simp_all;done)) (hab:=by first|rfl|assumption|omega|(unfold yn;omega)|(simp;done)|(simp;omega)|(simp_all;done))) (.c (j:=0) rfl (.c (j:=1) rfl .n)) ?_)
   rintro ⟨p316,c317⟩ -
   dsimp only [aq,nq,cq]
   refine e_one 7 (zm rfl rfl rfl rfl (.c rfl (.c rfl .n)) ce91 (ztb (s:=decide ((yg t l2)<0)) (a:=((yg t l2).natAbs) - ((yg s l1).natAbs)) (p:=p316) (cap:=c317) (hln:=by have:=Big.len_sub (yg t l2).natAbs (yg s l1).natAbs;omega)) (.c (j:=0) rfl .n) ?_)
   rintro ⟨p218,c219⟩ -
   dsimp only [aq,nq,cq]
   refine e_one 8 (zo kr rfl rfl rfl rfl rfl sz42 rfl (.t2 .nil) ?_)
   refine zM kr<|zf<|zR ?_
   have hz:=Big.add_lt hst hab
   exact zL Tryz.results59 (p218,c219) trivial (zr 0 ty42 rfl rfl (.t2 .nil)) (by rw [hz]) (ho:=(.n:PickO _ _ _)) ((.e (j:=0) rfl (by rw [hz]) .n):SelR _ _ _)
theorem zaf {x1:Int} {x2:Int} {p1:Option Addr} {c1:Nat} {p2:Option Addr} {c2:Nat} (hb1:yn x1≤1099511627776) (hb2:yn x2≤1099511627776):Con yj 59 [.agg #[.bool (decide ((x1)<0)),.slice (p1) ((yf ((x1).natAbs)).length) (c1)],.agg #[.bool (decide ((x2)<0)),.slice (p2) ((yf ((x2).natAbs)).length) (c2)]] [] [slF (rI .u32) (p1) (c1) (yf ((x1).natAbs)),slF (rI .u32) (p2) (c2) (yf ((x2).natAbs))] (Y:=(Option Addr)×(Nat)) (fun y=>True) (fun y=> .agg #[.bool (decide ((x1+x2)<0)),.slice (y.1) ((yf ((x1+x2).natAbs)).length) (y.2)]) (fun y=>[]) (fun y=>[slF (rI .u32) (y.1) (y.2) (yf ((x1+x2).natAbs))]):=by
  have h:= @zpe (decide ((x1)<0)) p1 (yf (x1).natAbs).length c1 (yf (x1).natAbs) (decide ((x2)<0)) p2 (yf (x2).natAbs).length c2 (yf (x2).natAbs) rfl rfl hb1 hb2
  rw [yv,yv] at h
  exact h
theorem zbf {w1:Wd} {w2:Wd} {x1:Int} {x2:Int} (hb1:yn x1≤1099511627776) (hb2:yn x2≤1099511627776):Con yj 59 [.agg #[w1.b,w1.l],.agg #[w2.b,w2.l]] [] [zF w1 (x1),zF w2 (x2)] (Y:=(Wd)) (fun y=>True) (fun y=> .agg #[y.b,y.l]) (fun y=>[]) (fun y=>[zF y (x1+x2)]):=by
  exact zac (zBc (fun p1 c1 p2 c2=>zaf hb1 hb2))
theorem zqe {s:Bool} {p1:Option Addr} {n1:Nat} {c1:Nat} {l1:List Int} {t:Bool} {p2:Option Addr} {n2:Nat} {c2:Nat} {l2:List Int} (hn1:l1.length=n1) (hn2:l2.length=n2) (hm1:n1≤1099511627776) (hm2:n2≤1099511627776):Con yj 98 [.agg #[.bool s,.slice p1 n1 c1],.agg #[.bool t,.slice p2 n2 c2]] [] [slF (rI .u32) p1 c1 l1,slF (rI .u32) p2 c2 l2] (Y:=(Option Addr)×Nat) (fun y=>True) (fun y=> .agg #[.bool (decide ((yg s l1 - yg t l2)<0)),.slice (y.1) ((yf ((yg s l1 - yg t l2).natAbs)).length) (y.2)]) (fun y=>[]) (fun y=>[slF (rI .u32) (y.1) (y.2) (yf ((yg s l1 - yg t l2).natAbs))]):=by
 refine zx Tryz.func98 rfl rfl rfl (fun c=> ?_)
 show RunC _ _ _ _ _ [(0,.agg #[.bool s,.slice p1 n1 c1]),(1,.agg #[.bool t,.slice p2 n2 c2])] [] [slF (rI .u32) p1 c1 l1,slF (rI .u32) p2 c2 l2]
 refine zpa 0 rfl (fun hL0=> ?_)
 refine zfb 0 rfl (fun hE0=> ?_)
 refine zpa 1 rfl (fun hL1=> ?_)
 refine zfb 1 rfl (fun hE1=> ?_)
 have hnn1:yK l1:=fun g hg=>(zE.1 (hE0 g hg)).1
 have hnn2:yK l2:=fun g hg=>(zE.1 (hE1 g hg)).1
 have hb1:yn (yg s l1)≤n1:=by have:=yF (s:=s) hnn1;omega
 have hb2:yn (yg t l2)≤n2:=by have:=yF (s:=t) hnn2;omega
 unfold yn at hb1 hb2
 refine zj<|zc<|zJ rfl rfl (zda rfl rfl) (fun b1=> ?_)
 refine zJ rfl rfl (zda rfl rfl) (fun b2=> ?_)
 refine zJ rfl rfl (zp zr42 rfl) (fun b3=> ?_)
 refine zk<|zf<|zj<|zO (OW:=[boxA b3 42 [wz.b,wz.l]]) (O:=[boxA b2 42 [.bool t,.slice p2 n2 c2],boxA b1 42 [.bool s,.slice p1 n1 c1]]) 4 mixed (.then .ret) kr<|e_uw 0 rfl rfl (zd 2 ty42 rfl rfl (.t2 .nil))<|e_uw 1 rfl rfl (zd 1 ty42 rfl rfl (.t2 .nil))<|e_one 2 (zm rfl rfl rfl rfl (.c rfl .n) ce88 (zoe (s:=t) (p:=p2) (n:=n2) (cap:=c2) (l:=l2) (hn:=ass) (hln:=ass)) (.c (j:=1) rfl .n) ?_)
 rintro ⟨p24,c25⟩ -
 dsimp only [aq,nq,cq]
 refine e_one 3 (zm rfl rfl rfl rfl (.c rfl (.c rfl .n)) ce59 (zpe (s:=s) (p1:=p1) (n1:=n1) (c1:=c1) (l1:=l1) (t:=decide ((- yg t l2)<0)) (p2:=p24) (n2:=(yf ((- yg t l2).natAbs)).length) (c2:=c25) (l2:=yf ((- yg t l2).natAbs)) (hn1:=ass) (hn2:=by first|rfl|assumption|omega|(rw [Int.natAbs_neg];omega)) (hm1:=ass) (hm2:=by first|rfl|assumption|omega|(rw [Int.natAbs_neg];omega))) (.c (j:=1) rfl (.c (j:=0) rfl .n)) ?_)
 rintro ⟨p36,c37⟩ -
 dsimp only [aq,nq,cq]
 refine e_one 4 (zo kr rfl rfl rfl rfl rfl sz42 rfl (.t2 .nil) ?_)
 refine zM kr<|zf<|zR ?_
 have hz:yg s l1+yg (decide ((- yg t l2)<0)) (yf (- yg t l2).natAbs)=yg s l1 - yg t l2:=by rw [yv];omega
 exact zL Tryz.results98 (p36,c37) trivial (zr 0 ty42 rfl rfl (.t2 .nil)) (by rw [hz]) (ho:=(.n:PickO _ _ _)) ((.e (j:=0) rfl (by rw [hz]) .n):SelR _ _ _)
theorem zrc {x1:Int} {x2:Int} {p1:Option Addr} {c1:Nat} {p2:Option Addr} {c2:Nat} (hb1:yn x1≤1099511627776) (hb2:yn x2≤1099511627776):Con yj 98 [.agg #[.bool (decide ((x1)<0)),.slice (p1) ((yf ((x1).natAbs)).length) (c1)],.agg #[.bool (decide ((x2)<0)),.slice (p2) ((yf ((x2).natAbs)).length) (c2)]] [] [slF (rI .u32) (p1) (c1) (yf ((x1).natAbs)),slF (rI .u32) (p2) (c2) (yf ((x2).natAbs))] (Y:=(Option Addr)×(Nat)) (fun y=>True) (fun y=> .agg #[.bool (decide ((x1 - x2)<0)),.slice (y.1) ((yf ((x1 - x2).natAbs)).length) (y.2)]) (fun y=>[]) (fun y=>[slF (rI .u32) (y.1) (y.2) (yf ((x1 - x2).natAbs))]):=by
  have h:= @zqe (decide ((x1)<0)) p1 (yf (x1).natAbs).length c1 (yf (x1).natAbs) (decide ((x2)<0)) p2 (yf (x2).natAbs).length c2 (yf (x2).natAbs) rfl rfl hb1 hb2
  rw [yv,yv] at h
  exact h
theorem zwf {s:Bool} {p1:Option Addr} {n1:Nat} {c1:Nat} {l1:List Int} {t:Bool} {p2:Option Addr} {n2:Nat} {c2:Nat} {l2:List Int} (hn1:l1.length=n1) (hn2:l2.length=n2) (hm1:n1≤1099511627776) (hm2:n2≤1099511627776):Con yj 60 [.agg #[.bool s,.slice p1 n1 c1],.agg #[.bool t,.slice p2 n2 c2]] [] [slF (rI .u32) p1 c1 l1,slF (rI .u32) p2 c2 l2] (Y:=(Option Addr)×Nat) (fun y=>True) (fun y=> .agg #[.bool (decide ((yg s l1*yg t l2)<0)),.slice (y.1) ((yf ((yg s l1*yg t l2).natAbs)).length) (y.2)]) (fun y=>[]) (fun y=>[slF (rI .u32) (y.1) (y.2) (yf ((yg s l1*yg t l2).natAbs))]):=by
 refine zx Tryz.func60 rfl rfl rfl (fun c=> ?_)
 show RunC _ _ _ _ _ [(0,.agg #[.bool s,.slice p1 n1 c1]),(1,.agg #[.bool t,.slice p2 n2 c2])] [] [slF (rI .u32) p1 c1 l1,slF (rI .u32) p2 c2 l2]
 refine zpa 0 rfl (fun hL0=> ?_)
 refine zfb 0 rfl (fun hE0=> ?_)
 refine zpa 1 rfl (fun hL1=> ?_)
 refine zfb 1 rfl (fun hE1=> ?_)
 have hnn1:yK l1:=fun g hg=>(zE.1 (hE0 g hg)).1
 have hnn2:yK l2:=fun g hg=>(zE.1 (hE1 g hg)).1
 have hb1:yn (yg s l1)≤n1:=by have:=yF (s:=s) hnn1;omega
 have hb2:yn (yg t l2)≤n2:=by have:=yF (s:=t) hnn2;omega
 unfold yn at hb1 hb2
 have hoa:=yq (yg s l1).natAbs
 have hob:=yq (yg t l2).natAbs
 refine zj<|zc<|zJ rfl rfl (zda rfl rfl) (fun b1=> ?_)
 refine zJ rfl rfl (zda rfl rfl) (fun b2=> ?_)
 refine zJ rfl rfl (zp zr42 rfl) (fun b3=> ?_)
 refine zk<|zf<|zj<|zba (.c (i:=2) rfl (.c (i:=1) rfl (.c (i:=0) rfl .n)))<|zO (OW:=[boxA b1 42 [.bool s,.slice p1 n1 c1],boxA b2 42 [.bool t,.slice p2 n2 c2]]) (O:=[boxA b3 42 [wz.b,wz.l]]) 4 mixed (.then .ret) kr<|e_uw 0 rfl rfl (zd 0 ty42 rfl rfl (.t2 .nil))<|e_uw 2 rfl rfl (zd 1 ty42 rfl rfl (.t2 .nil))<|e_one 1 (zm rfl rfl rfl rfl (.c rfl .n) ce90 (zYa (s:=s) (p:=p1) (n:=n1) (cap:=c1) (l:=l1) (hn:=ass) (hln:=ass)) (.c (j:=0) rfl .n) ?_)
 rintro ⟨p24,c25⟩ -
 dsimp only [aq,nq,cq]
 refine e_one 3 (zm rfl rfl rfl rfl (.c rfl .n) ce90 (zYa (s:=t) (p:=p2) (n:=n2) (cap:=c2) (l:=l2) (hn:=ass) (hln:=ass)) (.c (j:=2) rfl .n) ?_)
 rintro ⟨p26,c27⟩ -
 dsimp only [aq,nq,cq]
 refine e_one 4 (zo kr rfl rfl rfl rfl rfl sz42 rfl (.t2 .nil) ?_)
 refine zcb (zta (i:=1) rfl)<|e_one 5 (zo kr rfl rfl rfl rfl rfl sz42 rfl (.t2 .nil) ?_)
 refine zM kr<|zf<|zj<|zc<|e_p (zg yi rfl sz40 rfl rfl)<|e_ru (ze 1 ty40 rfl rfl rfl)<|e_p (zea yh rfl)<|e_p (zg yi rfl sz40 rfl rfl)<|e_ru (ze 0 ty40 rfl rfl rfl)<|e_p (zea yh rfl)<|e_p (zI (z:=(((((yf ((yg s l1).natAbs)).length)+((yf ((yg t l2).natAbs)).length)):Nat):Int)) rfl rfl (w64 om))<|zJa rfl rfl (zFb (r:=rI .u32) (k:=(((yf ((yg s l1).natAbs)).length)+((yf ((yg t l2).natAbs)).length))) (x0:=0) (γ0:=()) yh inf131 rfl rfl rfl rfl om om rfl (fun _ _=>by exact zE.2 dd) dd) (fun b8 _=> ?_)
 refine e_p (zh rfl)<|zk<|zf<|zj<|zj<|zc<|e_p (zh rfl)<|zk<|zf<|zu<|zza (X:=Nat×(List Int)) (fun x:Nat×(List Int)=>x.1≤(yf (yg s l1).natAbs).length∧x.2.length=(yf (yg s l1).natAbs).length+(yf (yg t l2).natAbs).length∧yw x.2∧(∀k,x.1+(yf (yg t l2).natAbs).length≤k→x.2.getD k 0=0)∧yk x.2=yk ((yf (yg s l1).natAbs).take x.1)*yk (yf (yg t l2).natAbs)) (fun x=>[(6,yc yd ((x.1:Nat):Int)),(5,.slice (some ⟨b8,0,none⟩) (((yf ((yg s l1).natAbs)).length)+((yf ((yg t l2).natAbs)).length)) (((yf ((yg s l1).natAbs)).length)+((yf ((yg t l2).natAbs)).length))),(4,ye (some ⟨b3,0,none⟩)),(3,ye (some ⟨b2,0,none⟩)),(2,ye (some ⟨b1,0,none⟩))]) (fun x=>[rowA 131 (rI .u32) (some ⟨b8,0,none⟩) (((yf ((yg s l1).natAbs)).length)+((yf ((yg t l2).natAbs)).length)) (x.2),boxA b2 42 [.bool (decide ((yg t l2)<0)),.slice p26 ((yf ((yg t l2).natAbs)).length) c27],boxA b1 42 [.bool (decide ((yg s l1)<0)),.slice p24 ((yf ((yg s l1).natAbs)).length) c25],boxA b3 42 [wz.b,wz.l]]) (fun x=>[slF (rI .u32) p26 c27 (yf ((yg t l2).natAbs)),slF (rI .u32) p24 c25 (yf ((yg s l1).natAbs)),slF (rI .u32) p1 c1 l1,slF (rI .u32) p2 c2 l2]) (fun x:Nat×(List Int)=>(yf (yg s l1).natAbs).length - x.1) (0,List.replicate ((yf (yg s l1).natAbs).length+(yf (yg t l2).natAbs).length) 0) (show 0≤(yf (yg s l1).natAbs).length∧(List.replicate ((yf (yg s l1).natAbs).length+(yf (yg t l2).natAbs).length) 0).length=(yf (yg s l1).natAbs).length+(yf (yg t l2).natAbs).length∧yw (List.replicate ((yf (yg s l1).natAbs).length+(yf (yg t l2).natAbs).length) 0)∧(∀k,0+(yf (yg t l2).natAbs).length≤k→(List.replicate ((yf (yg s l1).natAbs).length+(yf (yg t l2).natAbs).length) 0).getD k 0=0)∧yk (List.replicate ((yf (yg s l1).natAbs).length+(yf (yg t l2).natAbs).length) 0)=yk ((yf (yg s l1).natAbs).take 0)*yk (yf (yg t l2).natAbs) from by exact ⟨by omega,by simp,Big.okL_zeros _,fun k _=>Big.getD_zeros _ k,by simp [Big.valL_zeros,yk]⟩) ((.e rfl (by first|rfl|(congr 1;omega)|simp_all) (.of rfl)):SubM _ _) (ho:=((.e (i:=0) rfl (by first|rfl|(congr 1;omega)|simp_all) (.of [0,0,0] rfl)):PickO _ _ _)) ((.of [0,1,2,3] rfl):SelR _ _ _) ?_
 rintro ⟨i,os⟩ hI
 replace hI:i≤(yf (yg s l1).natAbs).length∧os.length=(yf (yg s l1).natAbs).length+(yf (yg t l2).natAbs).length∧yw os∧(∀k,i+(yf (yg t l2).natAbs).length≤k→os.getD k 0=0)∧yk os=yk ((yf (yg s l1).natAbs).take i)*yk (yf (yg t l2).natAbs):=hI
 try dsimp only
 obtain ⟨hi,hol,hok,hz,hv⟩:=hI
 have hg1:=yt hoa i
 refine zj<|zj<|zc<|e_mv rfl<|e_p (zg yi rfl sz40 rfl rfl)<|e_ru (ze 2 ty40 rfl rfl rfl)<|e_p (zea yh rfl)<|e_p (zS rfl rfl)<|zk<|zf<|zT rfl (fun h9=> ?_) (fun h9=> ?_)
 ·
  refine zB<|zf<|zj<|zu<|zj<|zc<|e_p (zh rfl)<|zk<|zf<|zj<|zj<|zc<|e_p (zh rfl)<|zk<|zf<|zu<|zza (X:=Nat×(List Int)×Int) (fun x:Nat×(List Int)×Int=>x.1≤(yf (yg t l2).natAbs).length∧x.2.1.length=(yf (yg s l1).natAbs).length+(yf (yg t l2).natAbs).length∧yw x.2.1∧0≤x.2.2∧x.2.2<1000000000∧(∀k,i+(yf (yg t l2).natAbs).length≤k→x.2.1.getD k 0=0)∧yk x.2.1+yL (i+x.1)*x.2.2=yk ((yf (yg s l1).natAbs).take i)*yk (yf (yg t l2).natAbs)+yL i*(yf (yg s l1).natAbs).getD i 0*yk ((yf (yg t l2).natAbs).take x.1)) (fun x=>[(7,.int .u64 (x.2.2)),(8,yc yd ((x.1:Nat):Int)),(6,yc yd ((i:Nat):Int)),(5,.slice (some ⟨b8,0,none⟩) (((yf ((yg s l1).natAbs)).length)+((yf ((yg t l2).natAbs)).length)) (((yf ((yg s l1).natAbs)).length)+((yf ((yg t l2).natAbs)).length))),(4,ye (some ⟨b3,0,none⟩)),(3,ye (some ⟨b2,0,none⟩)),(2,ye (some ⟨b1,0,none⟩))]) (fun x=>[rowA 131 (rI .u32) (some ⟨b8,0,none⟩) (((yf ((yg s l1).natAbs)).length)+((yf ((yg t l2).natAbs)).length)) (x.2.1),boxA b2 42 [.bool (decide ((yg t l2)<0)),.slice p26 ((yf ((yg t l2).natAbs)).length) c27],boxA b1 42 [.bool (decide ((yg s l1)<0)),.slice p24 ((yf ((yg s l1).natAbs)).length) c25],boxA b3 42 [wz.b,wz.l]]) (fun x=>[slF (rI .u32) p26 c27 (yf ((yg t l2).natAbs)),slF (rI .u32) p24 c25 (yf ((yg s l1).natAbs)),slF (rI .u32) p1 c1 l1,slF (rI .u32) p2 c2 l2]) (fun x:Nat×(List Int)×Int=>(yf (yg t l2).natAbs).length - x.1) (0,os,0) (show 0≤(yf (yg t l2).natAbs).length∧os.length=(yf (yg s l1).natAbs).length+(yf (yg t l2).natAbs).length∧yw os∧0≤0∧0<1000000000∧(∀k,i+(yf (yg t l2).natAbs).length≤k→os.getD k 0=0)∧yk os+yL (i+0)*0=yk ((yf (yg s l1).natAbs).take i)*yk (yf (yg t l2).natAbs)+yL i*(yf (yg s l1).natAbs).getD i 0*yk ((yf (yg t l2).natAbs).take 0) from by exact ⟨by omega,hol,hok,by decide,by decide,hz,by rw [hv];simp [yk]⟩) ((.c rfl (.e rfl (by first|rfl|(congr 1;omega)|simp_all) (.of rfl))):SubM _ _) (ho:=((.of [0,0,0,0] rfl):PickO _ _ _)) ((.of [0,1,2,3] rfl):SelR _ _ _) ?_
  rintro ⟨j,os2,cy⟩ hJ
  replace hJ:j≤(yf (yg t l2).natAbs).length∧os2.length=(yf (yg s l1).natAbs).length+(yf (yg t l2).natAbs).length∧yw os2∧0≤cy∧cy<1000000000∧(∀k,i+(yf (yg t l2).natAbs).length≤k→os2.getD k 0=0)∧yk os2+yL (i+j)*cy=yk ((yf (yg s l1).natAbs).take i)*yk (yf (yg t l2).natAbs)+yL i*(yf (yg s l1).natAbs).getD i 0*yk ((yf (yg t l2).natAbs).take j):=hJ
  try dsimp only
  obtain ⟨hj,hol2,hok2,hcy0,hcy1,hz2,hv2⟩:=hJ
  have hg2:=yt hob j
  have hg3:=yt hok2 (i+j)
  have hpq:=Big.mul_lim hg1 hg2
  refine zj<|zj<|zc<|e_mv rfl<|e_p (zg yi rfl sz40 rfl rfl)<|e_ru (ze 1 ty40 rfl rfl rfl)<|e_p (zea yh rfl)<|e_p (zS rfl rfl)<|zk<|zf<|zT rfl (fun h10=> ?_) (fun h10=> ?_)
  ·
   refine zB<|zf<|zj<|zu<|zj<|zO (OW:=[]) (O:=[rowA 131 (rI .u32) (some ⟨b8,0,none⟩) (((yf ((yg s l1).natAbs)).length)+((yf ((yg t l2).natAbs)).length)) os2,boxA b2 42 [.bool (decide ((yg t l2)<0)),.slice p26 ((yf ((yg t l2).natAbs)).length) c27],boxA b1 42 [.bool (decide ((yg s l1)<0)),.slice p24 ((yf ((yg s l1).natAbs)).length) c25],boxA b3 42 [wz.b,wz.l]]) 100000 mixed (.then (.block (.then (.then (.block (.then (.block (.then (.then (.block (.then .ret))))))))))) kr<|e_dm 0 rfl rfl rfl<|e_dm 1 rfl rfl rfl<|e_dm 2 rfl rfl rfl<|e_pv 3 rfl rfl (zI (z:=(((i+j):Nat):Int)) rfl rfl (w64 om))<|e_pv 4 rfl rfl (zja (j:=(i+j)) yh sz131 rfl rfl rfl om)<|d_vl 5 rfl rfl kr kr rfl rfl (zra 0 (i+j) rfl ty131 rfl rfl (gD (d:=0) om) rfl) (fun _ hok11=> ?_)
   replace hok11:=zE.1 hok11
   refine e_pv 6 rfl rfl (zH (z:=(os2.getD (i+j) 0)) rfl (by rw [ym];rfl) yl (wu64 om))<|e_pv 7 rfl rfl (zg yi rfl sz40 rfl rfl)<|e_u 8 rfl rfl (ze 2 ty40 rfl rfl rfl)<|e_dm 9 rfl rfl rfl<|zOa (x0:=((yf ((yg s l1).natAbs)).getD i 0)) 10 rfl rfl kr kr 1 i rfl yh sz131 rfl rfl rfl (by first|rfl|assumption|(simp;omega)|omega) rfl rfl (gD (d:=0) om) (fun b12 o13 hok14=> ?_)
   replace hok14:=zE.1 hok14
   refine e_u 11 rfl rfl (zA (j:=0) 0 ty131 rfl rfl rfl rfl)<|e_pv 12 rfl rfl (zH (z:=((yf ((yg s l1).natAbs)).getD i 0)) rfl (by rw [ym];rfl) yl (wu64 om))<|e_pv 13 rfl rfl (zg yi rfl sz40 rfl rfl)<|e_u 14 rfl rfl (ze 1 ty40 rfl rfl rfl)<|e_dm 15 rfl rfl rfl<|zOa (x0:=((yf ((yg t l2).natAbs)).getD j 0)) 16 rfl rfl kr kr 1 j rfl yh sz131 rfl rfl rfl (by first|rfl|assumption|(simp;omega)|omega) rfl rfl (gD (d:=0) om) (fun b15 o16 hok17=> ?_)
   replace hok17:=zE.1 hok17
   refine e_u 17 rfl rfl (zA (j:=0) 0 ty131 rfl rfl rfl rfl)<|e_pv 18 rfl rfl (zH (z:=((yf ((yg t l2).natAbs)).getD j 0)) rfl (by rw [ym];rfl) yl (wu64 om))<|e_pv 19 rfl rfl (zGa (z:=(((yf ((yg s l1).natAbs)).getD i 0)*((yf ((yg t l2).natAbs)).getD j 0))) rfl rfl (wu64 om))<|e_pv 20 rfl rfl (zI (z:=((os2.getD (i+j) 0)+(((yf ((yg s l1).natAbs)).getD i 0)*((yf ((yg t l2).natAbs)).getD j 0)))) rfl rfl (wu64 om))<|e_dm 21 rfl rfl rfl<|e_pv 22 rfl rfl (zI (z:=(((os2.getD (i+j) 0)+(((yf ((yg s l1).natAbs)).getD i 0)*((yf ((yg t l2).natAbs)).getD j 0)))+cy)) rfl rfl (wu64 om))<|e_pv 23 rfl rfl (zh rfl)<|zM kr<|zf<|zj<|zc<|e_mv rfl<|e_mv rfl<|e_mv rfl<|e_p (zI (z:=(((i+j):Nat):Int)) rfl rfl (w64 om))<|e_mv rfl<|e_p (zeb (z:=((((os2.getD (i+j) 0)+(((yf ((yg s l1).natAbs)).getD i 0)*((yf ((yg t l2).natAbs)).getD j 0)))+cy)%1000000000)) rfl rfl om (remN om om))<|e_p (zH (z:=((((os2.getD (i+j) 0)+(((yf ((yg s l1).natAbs)).getD i 0)*((yf ((yg t l2).natAbs)).getD j 0)))+cy)%1000000000)) rfl (by rw [yl];rfl) ym (wu32 om))<|e_p (zja (j:=(i+j)) yh sz131 rfl rfl rfl om)<|zWa 0 rfl rfl rfl (zha (j:=(i+j)) (x0:=((((os2.getD (i+j) 0)+(((yf ((yg s l1).natAbs)).getD i 0)*((yf ((yg t l2).natAbs)).getD j 0)))+cy)%1000000000)) (γ0:=()) rfl rfl (by first|omega|(rw [List.length_map];omega)|(simp only [List.length_set];omega)|(simp;done)|(simp;omega)) rfl rfl sz131 (fun _ _=>by exact zE.2 om)) (fun _=> .z) (fun _ _=> ?_)
   refine zk<|zf<|zc<|e_mv rfl<|e_p (zdb (z:=((((os2.getD (i+j) 0)+(((yf ((yg s l1).natAbs)).getD i 0)*((yf ((yg t l2).natAbs)).getD j 0)))+cy) / 1000000000)) rfl rfl om (by rw [quoN (z:=((((os2.getD (i+j) 0)+(((yf ((yg s l1).natAbs)).getD i 0)*((yf ((yg t l2).natAbs)).getD j 0)))+cy) / 1000000000)) om om];exact wu64 om))<|e_p (zh rfl)<|zk<|zK<|zf<|zc<|e_mv rfl<|e_p (zI (z:=(((j+1):Nat):Int)) rfl rfl (w64 om))<|e_p (zh rfl)<|zk<|zwa ((j+1),os2.set (i+j) ((os2.getD (i+j) 0+(yf (yg s l1).natAbs).getD i 0*(yf (yg t l2).natAbs).getD j 0+cy)%1000000000),(os2.getD (i+j) 0+(yf (yg s l1).natAbs).getD i 0*(yf (yg t l2).natAbs).getD j 0+cy) / 1000000000) (show (j+1)≤(yf (yg t l2).natAbs).length∧(os2.set (i+j) ((os2.getD (i+j) 0+(yf (yg s l1).natAbs).getD i 0*(yf (yg t l2).natAbs).getD j 0+cy)%1000000000)).length=(yf (yg s l1).natAbs).length+(yf (yg t l2).natAbs).length∧yw (os2.set (i+j) ((os2.getD (i+j) 0+(yf (yg s l1).natAbs).getD i 0*(yf (yg t l2).natAbs).getD j 0+cy)%1000000000))∧0≤((os2.getD (i+j) 0+(yf (yg s l1).natAbs).getD i 0*(yf (yg t l2).natAbs).getD j 0+cy) / 1000000000)∧((os2.getD (i+j) 0+(yf (yg s l1).natAbs).getD i 0*(yf (yg t l2).natAbs).getD j 0+cy) / 1000000000)<1000000000∧(∀k,i+(yf (yg t l2).natAbs).length≤k→(os2.set (i+j) ((os2.getD (i+j) 0+(yf (yg s l1).natAbs).getD i 0*(yf (yg t l2).natAbs).getD j 0+cy)%1000000000)).getD k 0=0)∧yk (os2.set (i+j) ((os2.getD (i+j) 0+(yf (yg s l1).natAbs).getD i 0*(yf (yg t l2).natAbs).getD j 0+cy)%1000000000))+yL (i+(j+1))*((os2.getD (i+j) 0+(yf (yg s l1).natAbs).getD i 0*(yf (yg t l2).natAbs).getD j 0+cy) / 1000000000)=yk ((yf (yg s l1).natAbs).take i)*yk (yf (yg t l2).natAbs)+yL i*(yf (yg s l1).natAbs).getD i 0*yk ((yf (yg t l2).natAbs).take (j+1)) from by exact ⟨by omega,by simpa using hol2,Big.okL_set hok2 om om,by omega,by omega,fun k hk=>by rw [Big.getD_set_ne om];exact hz2 k om,Big.mul_step hv2 om om⟩) (by show (yf (yg t l2).natAbs).length - (j+1)<(yf (yg t l2).natAbs).length - j;omega) ((.e rfl (by first|rfl|(congr 1;omega)|simp_all) (.of rfl)):SubM _ _) (ho:=((.e (i:=0) rfl (by first|rfl|(congr 1;omega)|simp_all) (.of [0,0,0] rfl)):PickO _ _ _)) ((.of [2,3,4,5] rfl):SelR _ _ _)
  ·
   have hjb:j=(yf (yg t l2).natAbs).length:=by omega
   subst hjb
   have hv3:=hv2
   refine zla<|zn<|zn<|zC<|zf<|zc<|e_mv rfl<|e_mv rfl<|e_p (zg yi rfl sz40 rfl rfl)<|e_ru (ze 1 ty40 rfl rfl rfl)<|e_p (zea yh rfl)<|e_p (zI (z:=(((i+((yf ((yg t l2).natAbs)).length)):Nat):Int)) rfl rfl (w64 om))<|e_mv rfl<|e_p (zH (z:=cy) rfl (by rw [yl];rfl) ym (wu32 om))<|e_p (zja (j:=(i+((yf ((yg t l2).natAbs)).length))) yh sz131 rfl rfl rfl om)<|zWa 0 rfl rfl rfl (zha (j:=(i+((yf ((yg t l2).natAbs)).length))) (x0:=cy) (γ0:=()) rfl rfl (by first|omega|(rw [List.length_map];omega)|(simp only [List.length_set];omega)|(simp;done)|(simp;omega)) rfl rfl sz131 (fun _ _=>by exact zE.2 om)) (fun _=> .z) (fun _ _=> ?_)
   refine zk<|zK<|zf<|zc<|e_mv rfl<|e_p (zI (z:=(((i+1):Nat):Int)) rfl rfl (w64 om))<|e_p (zh rfl)<|zk<|zwa ((i+1),os2.set (i+(yf (yg t l2).natAbs).length) cy) (show (i+1)≤(yf (yg s l1).natAbs).length∧(os2.set (i+(yf (yg t l2).natAbs).length) cy).length=(yf (yg s l1).natAbs).length+(yf (yg t l2).natAbs).length∧yw (os2.set (i+(yf (yg t l2).natAbs).length) cy)∧(∀k,(i+1)+(yf (yg t l2).natAbs).length≤k→(os2.set (i+(yf (yg t l2).natAbs).length) cy).getD k 0=0)∧yk (os2.set (i+(yf (yg t l2).natAbs).length) cy)=yk ((yf (yg s l1).natAbs).take (i+1))*yk (yf (yg t l2).natAbs) from by exact ⟨by omega,by simpa using hol2,Big.okL_set hok2 om om,fun k hk=>by rw [Big.getD_set_ne om];exact hz2 k om,Big.mul_round hv3 om (hz2 _ (Nat.le_refl _))⟩) (by show (yf (yg s l1).natAbs).length - (i+1)<(yf (yg s l1).natAbs).length - i;omega) ((.of rfl):SubM _ _) (ho:=((.e (i:=0) rfl (by first|rfl|(congr 1;omega)|simp_all) (.of [0,0,0] rfl)):PickO _ _ _)) ((.of [0,1,2,3] rfl):SelR _ _ _)
 ·
  have hia:i=(yf (yg s l1).natAbs).length:=by omega
  have hfin:yz (decide (decide (yg s l1<0)≠decide (yg t l2<0))) (yk os)=yg s l1*yg t l2:=by rw [hv,hia,List.take_length,yC,yC,←Int.natCast_mul,Big.sg_mul,Big.sg_big,Big.sg_big]
  refine zla<|zn<|zn<|zC<|zf<|zj<|zc<|e_p (zg yi rfl sz4 rfl rfl)<|e_ru (ze 2 ty4 rfl rfl rfl)<|e_p (zg yi rfl sz4 rfl rfl)<|e_ru (ze 1 ty4 rfl rfl rfl)<|e_p (zUa yJ rfl rfl)<|e_mv rfl<|zqa 0 rfl .z<|zG rfl rfl (.c rfl (.c rfl .n)) ce91 (zSa (s:=decide (decide ((yg s l1)<0)≠decide ((yg t l2)<0))) (p:=some ⟨b8,0,none⟩) (n:=(((yf ((yg s l1).natAbs)).length)+((yf ((yg t l2).natAbs)).length))) (cap:=(((yf ((yg s l1).natAbs)).length)+((yf ((yg t l2).natAbs)).length))) (l:=os) (hn:=by first|rfl|assumption|omega|(unfold yn;omega)|(simp;done)|(simp;omega)|(simp_all;done)) (ho:=by exact hok) (hln:=by first|rfl|assumption|omega|(unfold yn;omega)|(simp;done)|(simp;omega)|(simp_all;done))) (.c (j:=0) rfl .n) ?_
  rintro ⟨p218,c219⟩ -
  dsimp only [aq,nq,cq]
  refine zl 3 rfl rfl rfl rfl rfl sz42 rfl (.t2 .nil) (.s (.s (.s .z)))<|zk<|zf<|zR ?_
  exact zL Tryz.results60 (p218,c219) trivial (zr 3 ty42 rfl rfl (.t2 .nil)) (by rw [hfin]) (ho:=(.n:PickO _ _ _)) ((.e (j:=0) rfl (by rw [hfin]) .n):SelR _ _ _)
theorem zsc {x1:Int} {x2:Int} {p1:Option Addr} {c1:Nat} {p2:Option Addr} {c2:Nat} (hb1:yn x1≤1099511627776) (hb2:yn x2≤1099511627776):Con yj 60 [.agg #[.bool (decide ((x1)<0)),.slice (p1) ((yf ((x1).natAbs)).length) (c1)],.agg #[.bool (decide ((x2)<0)),.slice (p2) ((yf ((x2).natAbs)).length) (c2)]] [] [slF (rI .u32) (p1) (c1) (yf ((x1).natAbs)),slF (rI .u32) (p2) (c2) (yf ((x2).natAbs))] (Y:=(Option Addr)×(Nat)) (fun y=>True) (fun y=> .agg #[.bool (decide ((x1*x2)<0)),.slice (y.1) ((yf ((x1*x2).natAbs)).length) (y.2)]) (fun y=>[]) (fun y=>[slF (rI .u32) (y.1) (y.2) (yf ((x1*x2).natAbs))]):=by
  have h:= @zwf (decide ((x1)<0)) p1 (yf (x1).natAbs).length c1 (yf (x1).natAbs) (decide ((x2)<0)) p2 (yf (x2).natAbs).length c2 (yf (x2).natAbs) rfl rfl hb1 hb2
  rw [yv,yv] at h
  exact h
theorem zWc {w1:Wd} {w2:Wd} {x1:Int} {x2:Int} (hb1:yn x1≤1099511627776) (hb2:yn x2≤1099511627776):Con yj 60 [.agg #[w1.b,w1.l],.agg #[w2.b,w2.l]] [] [zF w1 (x1),zF w2 (x2)] (Y:=(Wd)) (fun y=>True) (fun y=> .agg #[y.b,y.l]) (fun y=>[]) (fun y=>[zF y (x1*x2)]):=by
  exact zac (zBc (fun p1 c1 p2 c2=>zsc hb1 hb2))
end Go.Proofs.YtjeahiahjgifgaaGreatDoor.Sp
namespace Go.Proofs.YtjeahiahjgifgaaGreatDoor.Sp
open Go
set_option linter.unusedVariables false
set_option maxRecDepth 100000
set_option maxHeartbeats 8000000
theorem zfc {a:Nat} {d:Nat} {p0:Option Addr} {cap:Nat} (hb:(yf a).length≤1099511627776) (hd:d<1000000000):Con yj 114 [.slice p0 ((yf a).length) cap,.int .u64 ((d:Nat):Int)] [] [slF (rI .u32) p0 cap (yf a)] (Y:=(Option Addr)×Nat) (fun y=>True) (fun y=> .slice (y.1) ((yf (a*d)).length) (y.2)) (fun y=>[]) (fun y=>[slF (rI .u32) (y.1) (y.2) (yf (a*d))]):=by
 refine zx Tryz.func114 rfl rfl rfl (fun c=> ?_)
 show RunC _ _ _ _ _ [(0,.slice p0 ((yf a).length) cap),(1,.int .u64 ((d:Nat):Int))] [] [slF (rI .u32) p0 cap (yf a)]
 refine zpa 0 rfl (fun hL0=> ?_)
 refine zj<|zc<|e_p (zh rfl)<|zk<|zf<|zj<|zc<|zJa rfl rfl (zAa (rI .u32) yh inf131) (fun b1 _=> ?_)
 refine e_p (zh rfl)<|zk<|zf<|zj<|zc<|e_p (zh rfl)<|zk<|zf<|zj<|zj<|zc<|e_p (zh rfl)<|zk<|zf<|zu<|zza (X:=Nat×(Option Addr)×Nat×(List Int)×Int) (fun x:Nat×(Option Addr)×Nat×(List Int)×Int=>Big.ScI (yf a) (d:Int) x.1 x.2.2.2.1 x.2.2.2.2) (fun x=>[(6,.int .u64 (x.2.2.2.2)),(5,.slice (x.2.1) (x.2.2.2.1.length) (x.2.2.1)),(7,yc yd ((x.1:Nat):Int)),(4,.slice none 0 0),(0,.slice p0 ((yf a).length) cap),(1,.int .u64 ((d:Nat):Int))]) (fun x=>[rowA 131 (rI .u32) (x.2.1) (x.2.2.1) (x.2.2.2.1)]) (fun x=>[slF (rI .u32) p0 cap (yf a)]) (fun x:Nat×(Option Addr)×Nat×(List Int)×Int=>(yf a).length - x.1) (0,some ⟨b1,0,none⟩,0,[],0) (show Big.ScI (yf a) (d:Int) 0 ([]) 0 from by exact Big.ScI.start _ _) ((.c rfl (.e rfl (by first|rfl|(congr 1;omega)|simp_all) (.e rfl (by first|rfl|(congr 1;omega)|simp_all) (.of rfl)))):SubM _ _) (ho:=((.c (i:=0) rfl .n):PickO _ _ _)) ((.c (j:=0) rfl .n):SelR _ _ _) ?_
 rintro ⟨i,p,c,os,cy⟩ hI
 replace hI:Big.ScI (yf a) (d:Int) i os cy:=hI
 try dsimp only
 have hi:=hI.le
 have hol:=hI.len
 have hc0:=hI.c0
 have hc1:=hI.c1
 have hg:=yt (yq a) i
 have hsl:=Big.sc_lim hg (show 0≤(d:Int)∧(d:Int)<1000000000 by omega) ⟨hc0,hc1⟩
 refine zj<|zj<|zc<|e_mv rfl<|e_mv rfl<|e_p (zea yh rfl)<|e_p (zS rfl rfl)<|zk<|zf<|zT rfl (fun h2=> ?_) (fun h2=> ?_)
 ·
  refine zB<|zf<|zj<|zu<|zj<|zc<|e_mv rfl<|e_mv rfl<|zP (x0:=((yf a).getD i 0)) 0 i rfl yh sz131 rfl rfl rfl (by first|rfl|assumption|(simp;done)|(simp;omega)|omega) rfl rfl (gD (d:=0) om) (fun b3 o4 hok5=> ?_)
  replace hok5:=zE.1 hok5
  refine e_ru (zA (j:=0) 0 ty131 rfl rfl rfl rfl)<|e_p (zH (z:=((yf a).getD i 0)) rfl (by rw [ym];rfl) yl (wu64 om))<|e_mv rfl<|e_p (zGa (z:=(((yf a).getD i 0)*((d:Nat):Int))) rfl rfl (wu64 om))<|e_mv rfl<|e_p (zI (z:=((((yf a).getD i 0)*((d:Nat):Int))+cy)) rfl rfl (wu64 om))<|e_p (zh rfl)<|zk<|zf<|zj<|zc<|e_mv rfl<|e_mv rfl<|e_p (zeb (z:=(((((yf a).getD i 0)*((d:Nat):Int))+cy)%1000000000)) rfl rfl om (remN om om))<|e_p (zH (z:=(((((yf a).getD i 0)*((d:Nat):Int))+cy)%1000000000)) rfl (by rw [yl];rfl) ym (wu32 om))<|zJa rfl rfl (zQ (enc:=fun z:Int=>[.int .u32 z]) (ok:=InK .u32) (h1:=fun _=>rfl) (h2:=fun _=>rfl) (k:=1) yh inf131 rfl dd dd dd (.c (x:=(((((yf a).getD i 0)*((d:Nat):Int))+cy)%1000000000)) rfl rfl (fun _ _=>by exact zE.2 om) .n)) (fun b6 _=> ?_)
  refine zqa 0 rfl .z<|zWa 1 rfl rfl rfl (zNa 0 rfl yh inf131 dd rfl rfl (by first|rfl|assumption|(simp;done)|(simp;omega)|omega) rfl (by first|rfl|assumption|(simp;done)|(simp;omega)|omega) om om) (fun _=>(.s .z)) ?_
  rintro ⟨p7,c8⟩ -
  dsimp only [aq,nq,cq]
  refine e_p (zh rfl)<|zk<|zf<|zc<|e_mv rfl<|e_p (zdb (z:=(((((yf a).getD i 0)*((d:Nat):Int))+cy) / 1000000000)) rfl rfl om (by rw [quoN (z:=(((((yf a).getD i 0)*((d:Nat):Int))+cy) / 1000000000)) om om];exact wu64 om))<|e_p (zh rfl)<|zk<|zK<|zf<|zc<|e_mv rfl<|e_p (zI (z:=(((i+1):Nat):Int)) rfl rfl (w64 om))<|e_p (zh rfl)<|zk<|zwa ((i+1),p7,c8,os++[((yf a).getD i 0*(d:Int)+cy)%1000000000],((yf a).getD i 0*(d:Int)+cy) / 1000000000) (show Big.ScI (yf a) (d:Int) (i+1) (os++[((yf a).getD i 0*(d:Int)+cy)%1000000000]) (((yf a).getD i 0*(d:Int)+cy) / 1000000000) from by exact hI.step (yq a) om om) (by show (yf a).length - (i+1)<(yf a).length - i;omega) ((.e rfl (by first|rfl|(congr 1;omega)|simp_all) (.e rfl (by simp) (.of rfl))):SubM _ _) (ho:=((.e (i:=1) rfl (by first|rfl|(congr 1;omega)|simp_all) .n):PickO _ _ _)) ((.c (j:=2) rfl .n):SelR _ _ _)
 ·
  obtain ⟨hok2,hfin⟩:=hI.fin om
  refine zla<|zn<|zn<|zC<|zf<|zj<|zc<|e_mv rfl<|e_mv rfl<|e_p (zH (z:=cy) rfl (by rw [yl];rfl) ym (wu32 om))<|zJa rfl rfl (zQ (enc:=fun z:Int=>[.int .u32 z]) (ok:=InK .u32) (h1:=fun _=>rfl) (h2:=fun _=>rfl) (k:=1) yh inf131 rfl dd dd dd (.c (x:=cy) rfl rfl (fun _ _=>by exact zE.2 om) .n)) (fun b9 _=> ?_)
  refine zqa 0 rfl .z<|zWa 1 rfl rfl rfl (zNa 0 rfl yh inf131 dd rfl rfl (by first|rfl|assumption|(simp;done)|(simp;omega)|omega) rfl (by first|rfl|assumption|(simp;done)|(simp;omega)|omega) om om) (fun _=>(.s .z)) ?_
  rintro ⟨p10,c11⟩ -
  dsimp only [aq,nq,cq]
  refine zqa 1 rfl (.s .z)<|zG rfl rfl (.c rfl (.c rfl .n)) ce91 (zSa (s:=false) (p:=p10) (n:=os.length+1) (cap:=c11) (l:=(os++([cy]))) (hn:=by first|rfl|omega|(simp;done)|(simp;omega)) (ho:=by exact hok2) (hln:=by first|rfl|omega|(simp;done)|(simp;omega))) (.c (j:=0) rfl .n) ?_
  rintro ⟨p212,c213⟩ -
  dsimp only [aq,nq,cq]
  refine e_p (zFa yi rfl ty40 rfl rfl)<|e_p (zh rfl)<|zk<|zf<|zR ?_
  have hz:(yz false (yk (os++[cy]))).natAbs=a*d:=by rw [hfin];exact Int.natAbs_natCast _
  exact zL Tryz.results114 (p212,c213) trivial (zD rfl) (by rw [hz]) (ho:=(.n:PickO _ _ _)) ((.e (j:=0) rfl (by rw [hz]) .n):SelR _ _ _)
theorem zQd {a:Nat} {d:Nat} {p0:Option Addr} {cap:Nat} (hb:(yf a).length≤1099511627776) (hd:d<1000000000):Con yj 115 [.slice p0 ((yf a).length) cap,.int .u32 ((d:Nat):Int)] [] [slF (rI .u32) p0 cap (yf a)] (Y:=(Option Addr)×Nat) (fun y=>True) (fun y=> .slice (y.1) ((yf (a*1000000000+d)).length) (y.2)) (fun y=>[]) (fun y=>[slF (rI .u32) (y.1) (y.2) (yf (a*1000000000+d))]):=by
 refine zx Tryz.func115 rfl rfl rfl (fun c=> ?_)
 show RunC _ _ _ _ _ [(0,.slice p0 ((yf a).length) cap),(1,.int .u32 ((d:Nat):Int))] [] [slF (rI .u32) p0 cap (yf a)]
 refine zpa 0 rfl (fun hL0=> ?_)
 have hok2:yw ([((d:Nat):Int)]++yf a):=Big.okL_cons.2 ⟨by omega,yq a⟩
 have hz:(yz false (yk (((d:Nat):Int) :: yf a))).natAbs=a*1000000000+d:=by rw [yT (yE (l:=((d:Nat):Int) :: yf a) hok2)];simp only [yk,yC];omega
 refine zj<|zc<|e_p (zh rfl)<|zk<|zf<|zj<|zc<|e_mv rfl<|zJa rfl rfl (zQ (enc:=fun z:Int=>[.int .u32 z]) (ok:=InK .u32) (h1:=fun _=>rfl) (h2:=fun _=>rfl) (k:=1) yh inf131 rfl dd dd dd (.c (x:=((d:Nat):Int)) rfl rfl (fun _ _=>by exact zE.2 om) .n)) (fun b1 _=> ?_)
 refine e_mv rfl<|zWa 0 rfl rfl rfl (zNa 0 rfl yh inf131 dd rfl rfl (by first|rfl|assumption|(simp;done)|(simp;omega)|omega) rfl (by first|rfl|assumption|(simp;done)|(simp;omega)|omega) om om) (fun _=> .z) ?_
 rintro ⟨p2,c3⟩ -
 dsimp only [aq,nq,cq]
 refine zqa 0 rfl .z<|zG rfl rfl (.c rfl (.c rfl .n)) ce91 (zSa (s:=false) (p:=p2) (n:=1+((yf a).length)) (cap:=c3) (l:=(([((d:Nat):Int)])++(yf a))) (hn:=by first|rfl|omega|(simp;done)|(simp;omega)) (ho:=by exact hok2) (hln:=by first|rfl|omega|(simp;done)|(simp;omega))) (.c (j:=0) rfl .n) ?_
 rintro ⟨p24,c25⟩ -
 dsimp only [aq,nq,cq]
 refine e_p (zFa yi rfl ty40 rfl rfl)<|e_p (zh rfl)<|zk<|zf<|zR ?_
 exact zL Tryz.results115 (p24,c25) trivial (zD rfl) (by rw [hz]) (ho:=(.n:PickO _ _ _)) ((.e (j:=0) rfl (by rw [hz]) .n):SelR _ _ _)
theorem zkd {a:Nat} {mm:Nat} {p:Option Addr} {cap:Nat} (hb:(yf a).length≤1099511627776) (hm0:0<mm) (hm1:mm≤1000000000):Con yj 113 [.slice p ((yf a).length) cap,.int .u64 ((mm:Nat):Int)] [] [slF (rI .u32) p cap (yf a)] (Y:=(Option Addr)×Nat) (fun y=>True) (fun y=> .tuple #[.slice (y.1) ((yf (a / mm)).length) (y.2),.int .u64 (((a%mm):Nat):Int)]) (fun y=>[]) (fun y=>[slF (rI .u32) (y.1) (y.2) (yf (a / mm))]):=by
 refine zx Tryz.func113 rfl rfl rfl (fun c=> ?_)
 show RunC _ _ _ _ _ [(0,.slice p ((yf a).length) cap),(1,.int .u64 ((mm:Nat):Int))] [] [slF (rI .u32) p cap (yf a)]
 refine zpa 0 rfl (fun hL0=> ?_)
 refine zj<|zc<|e_p (zh rfl)<|e_p (zh rfl)<|zk<|zf<|zj<|zc<|e_mv rfl<|e_p (zea yh rfl)<|zJa rfl rfl (zFb (r:=rI .u32) (k:=(yf a).length) (x0:=0) (γ0:=()) yh inf131 rfl rfl rfl rfl om om rfl (fun _ _=>by exact zE.2 dd) dd) (fun b1 _=> ?_)
 refine e_p (zh rfl)<|zk<|zf<|zj<|zc<|e_p (zh rfl)<|zk<|zf<|zj<|zj<|zc<|e_mv rfl<|e_p (zea yh rfl)<|e_p (zma (z:=((((yf a).length:Nat):Int) - 1)) rfl rfl (w64 om))<|e_p (zh rfl)<|zk<|zf<|zu<|zza (X:=Nat×(List Int)×(List Int)×Int) (fun x:Nat×(List Int)×(List Int)×Int=>x.2.1=List.replicate x.1 0++x.2.2.1∧Big.ShI (yf a) (mm:Int) x.1 x.2.2.1 x.2.2.2) (fun x=>[(7,.int .u64 (x.2.2.2)),(8,yc yd (((x.1:Nat):Int) - 1)),(6,.slice (some ⟨b1,0,none⟩) ((yf a).length) ((yf a).length)),(5,.int .u64 0),(4,.slice none 0 0),(0,.slice p ((yf a).length) cap),(1,.int .u64 ((mm:Nat):Int))]) (fun x=>[rowA 131 (rI .u32) (some ⟨b1,0,none⟩) ((yf a).length) (x.2.1)]) (fun x=>[slF (rI .u32) p cap (yf a)]) (fun x:Nat×(List Int)×(List Int)×Int=>x.1) ((yf a).length,(List.replicate (yf a).length 0),([]:List Int),(0:Int)) (show (List.replicate (yf a).length 0)=List.replicate ((yf a).length) 0++([]:List Int)∧Big.ShI (yf a) (mm:Int) ((yf a).length) ([]:List Int) (0:Int) from by exact ⟨by simp,Big.ShI.start om⟩) ((.e rfl (by first|rfl|(congr 1;omega)|simp_all) (.e rfl (by first|rfl|(congr 1;omega)|simp_all) (.of rfl))):SubM _ _) (ho:=((.e (i:=0) rfl (by first|rfl|(congr 1;omega)|simp_all) .n):PickO _ _ _)) ((.c (j:=0) rfl .n):SelR _ _ _) ?_
 rintro ⟨jj,os,qs,z⟩ hI
 replace hI:os=List.replicate jj 0++qs∧Big.ShI (yf a) (mm:Int) jj qs z:=hI
 try dsimp only
 obtain ⟨hos,hS⟩:=hI
 have hz0:=hS.r0
 have hz1:=hS.r1
 have hkle:=hS.le
 refine zj<|zj<|zc<|e_mv rfl<|e_p (zpb rfl rfl)<|zk<|zf<|zT rfl (fun h2=> ?_) (fun h2=> ?_)
 ·
  obtain ⟨k,rfl⟩:∃k,jj=k+1:=⟨jj - 1,by omega⟩
  have e3:(((((k+1):Nat):Int) - 1):Int)=((k:Nat):Int):=by omega
  rw [e3]
  have hosl:os.length=(yf a).length:=by rw [hos,List.length_append,List.length_replicate,hS.len];omega
  have hg:=yt (yq a) k
  have hdg:=Big.sh_digit hz0 hz1 hg
  have hrm:=Int.emod_lt_of_pos (z*1000000000+(yf a).getD k 0) (show 0<(mm:Int) by omega)
  have hrm0:=Int.emod_nonneg (z*1000000000+(yf a).getD k 0) (show (mm:Int)≠0 by omega)
  refine zB<|zf<|zj<|zu<|zj<|zc<|e_mv rfl<|e_p (zGa (z:=(z*1000000000)) rfl rfl (wu64 om))<|e_mv rfl<|e_mv rfl<|zP (x0:=((yf a).getD k 0)) 0 k rfl yh sz131 rfl rfl rfl (by first|rfl|assumption|(simp;done)|(simp;omega)|omega) rfl rfl (gD (d:=0) om) (fun b4 o5 hok6=> ?_)
  replace hok6:=zE.1 hok6
  refine e_ru (zA (j:=0) 0 ty131 rfl rfl rfl rfl)<|e_p (zH (z:=((yf a).getD k 0)) rfl (by rw [ym];rfl) yl (wu64 om))<|e_p (zI (z:=((z*1000000000)+((yf a).getD k 0))) rfl rfl (wu64 om))<|e_p (zh rfl)<|zk<|zf<|zj<|zc<|e_mv rfl<|e_mv rfl<|e_mv rfl<|e_mv rfl<|e_p (zdb (z:=(((z*1000000000)+((yf a).getD k 0)) / ((mm:Nat):Int))) rfl rfl om (by rw [quoN (z:=(((z*1000000000)+((yf a).getD k 0)) / ((mm:Nat):Int))) om om];exact wu64 om))<|e_p (zH (z:=(((z*1000000000)+((yf a).getD k 0)) / ((mm:Nat):Int))) rfl (by rw [yl];rfl) ym (wu32 om))<|e_p (zja (j:=k) yh sz131 rfl rfl rfl om)<|zWa 0 rfl rfl rfl (zha (j:=k) (x0:=(((z*1000000000)+((yf a).getD k 0)) / ((mm:Nat):Int))) (γ0:=()) rfl rfl (by first|omega|(rw [List.length_map];omega)|(simp only [List.length_set];omega)|(simp;done)|(simp;omega)) rfl rfl sz131 (fun _ _=>by exact zE.2 om)) (fun _=> .z) (fun _ _=> ?_)
  refine zk<|zf<|zc<|e_mv rfl<|e_mv rfl<|e_p (zeb (z:=(((z*1000000000)+((yf a).getD k 0))%((mm:Nat):Int))) rfl rfl om (remN om om))<|e_p (zh rfl)<|zk<|zK<|zf<|zc<|e_mv rfl<|e_p (zma (z:=(((k:Nat):Int) - 1)) rfl rfl (w64 om))<|e_p (zh rfl)<|zk<|zwa (k,(os.set k (((z*1000000000)+((yf a).getD k 0)) / ((mm:Nat):Int))),((z*1000000000+(yf a).getD k 0) / (mm:Int) :: qs),((z*1000000000+(yf a).getD k 0)%(mm:Int))) (show (os.set k (((z*1000000000)+((yf a).getD k 0)) / ((mm:Nat):Int)))=List.replicate k 0++((z*1000000000+(yf a).getD k 0) / (mm:Int) :: qs)∧Big.ShI (yf a) (mm:Int) k ((z*1000000000+(yf a).getD k 0) / (mm:Int) :: qs) ((z*1000000000+(yf a).getD k 0)%(mm:Int)) from by exact ⟨by rw [hos];exact Big.pad_set _,hS.step (yq a)⟩) (by show k<k+1;omega) ((.e rfl (by first|rfl|(congr 1;omega)|simp_all) (.of rfl)):SubM _ _) (ho:=((.c (i:=0) rfl .n):PickO _ _ _)) ((.c (j:=1) rfl .n):SelR _ _ _)
 ·
  have hj0:jj=0:=by omega
  have hS0:Big.ShI (yf a) (mm:Int) 0 qs z:=hj0 ▸ hS
  obtain ⟨hf1,hf2⟩:=hS0.fin
  have hoq:os=qs:=by rw [hos,hj0];rfl
  have hok2:yw os:=by rw [hoq];exact hS.ok
  have hosl:os.length=(yf a).length:=by rw [hoq,hS0.len];omega
  have hz9:(yz false (yk os)).natAbs=a / mm:=by rw [hoq,yT (yE hS.ok),←Big.valL_trim,hf1,yC];exact Int.toNat_natCast _
  refine zla<|zn<|zn<|zC<|zf<|zj<|zc<|e_mv rfl<|zqa 0 rfl .z<|zG rfl rfl (.c rfl (.c rfl .n)) ce91 (zSa (s:=false) (p:=some ⟨b1,0,none⟩) (n:=(yf a).length) (cap:=(yf a).length) (l:=os) (hn:=by first|rfl|omega|(simp;done)|(simp;omega)) (ho:=by exact hok2) (hln:=by first|rfl|omega|(simp;done)|(simp;omega))) (.c (j:=0) rfl .n) ?_
  rintro ⟨p27,c28⟩ -
  dsimp only [aq,nq,cq]
  refine e_p (zFa yi rfl ty40 rfl rfl)<|e_mv rfl<|e_p (zh rfl)<|e_p (zh rfl)<|zk<|zf<|zR ?_
  exact zDa Tryz.results113 (p27,c28) trivial (zD rfl) (zD rfl) (by rw [hz9,hf2]) (ho:=(.n:PickO _ _ _)) ((.e (j:=0) rfl (by rw [hz9]) .n):SelR _ _ _)
theorem zRd {a:Nat} {p:Option Addr} {cap:Nat} (hb:(yf a).length≤2):Con yj 100 [.slice p ((yf a).length) cap] [] [slF (rI .u32) p cap (yf a)] (Y:=Unit) (fun y=>True) (fun y=> .int .u64 ((a:Nat):Int)) (fun y=>[]) (fun y=>[]):=by
 refine zx Tryz.func100 rfl rfl rfl (fun c=> ?_)
 show RunC _ _ _ _ _ [(0,.slice p ((yf a).length) cap)] [] [slF (rI .u32) p cap (yf a)]
 refine zpa 0 rfl (fun hL0=> ?_)
 have hpv:=Big.pair_val hb
 have hg0:=yt (yq a) 0
 have hg1:=yt (yq a) 1
 refine zj<|zc<|e_p (zh rfl)<|zk<|zf<|zj<|zc<|e_mv rfl<|zV rfl rfl (.c rfl (.c rfl .n)) ce109 (zib (p:=p) (n:=(yf a).length) (cap:=cap) (l:=yf a) (i:=1) (hn:=cbb) (hi:=cbb)) (.c (j:=0) rfl .n)<|e_p (zGa (z:=((yf a).getD 1 0*1000000000)) rfl rfl (wu64 om))<|e_mv rfl<|zV rfl rfl (.c rfl (.c rfl .n)) ce109 (zib (p:=p) (n:=(yf a).length) (cap:=cap) (l:=yf a) (i:=0) (hn:=cbb) (hi:=cbb)) (.c (j:=0) rfl .n)<|e_p (zI (z:=(((yf a).getD 1 0*1000000000)+(yf a).getD 0 0)) rfl rfl (wu64 om))<|e_p (zh rfl)<|zk<|zf<|zR ?_
 exact zL Tryz.results100 () trivial (zD rfl) (by rw [hpv]) (ho:=(.n:PickO _ _ _)) (.n:SelR _ _ _)
end Go.Proofs.YtjeahiahjgifgaaGreatDoor.Sp
namespace Go.Proofs.YtjeahiahjgifgaaGreatDoor.Sp
open Go
set_option linter.unusedVariables false
set_option maxRecDepth 100000
set_option maxHeartbeats 8000000
theorem zld {a:Nat} {b:Nat} {p1:Option Addr} {c1:Nat} {p2:Option Addr} {c2:Nat} (hb1:(yf a).length≤549755813888) (hb2:(yf b).length≤549755813888) (hb0:0<b):Con yj 99 [.slice p1 ((yf a).length) c1,.slice p2 ((yf b).length) c2] [] [slF (rI .u32) p1 c1 (yf a),slF (rI .u32) p2 c2 (yf b)] (Y:=(Option Addr)×Nat×(Option Addr)×Nat) (fun y=>True) (fun y=> .tuple #[.slice (y.1) ((yf (a / b)).length) (y.2.1),.slice (y.2.2.1) ((yf (a%b)).length) (y.2.2.2)]) (fun y=>[]) (fun y=>[slF (rI .u32) (y.1) (y.2.1) (yf (a / b)),slF (rI .u32) (y.2.2.1) (y.2.2.2) (yf (a%b))]):=by
 refine zx Tryz.func99 rfl rfl rfl (fun c=> ?_)
 show RunC _ _ _ _ _ [(0,.slice p1 ((yf a).length) c1),(1,.slice p2 ((yf b).length) c2)] [] [slF (rI .u32) p1 c1 (yf a),slF (rI .u32) p2 c2 (yf b)]
 refine zpa 0 rfl (fun hL0=> ?_)
 refine zpa 1 rfl (fun hL1=> ?_)
 have hln0:=Big.zQe hb0
 have hob:=yt (yq b) 0
 have hob1:=yt (yq b) ((yf b).length - 1)
 have hdv:=yA (Nat.div_le_self a b)
 have hdm:=Nat.mod_lt a hb0
 refine zj<|zc<|e_p (zh rfl)<|e_p (zh rfl)<|zk<|zf<|zj<|zc<|e_mv rfl<|e_p (zea yh rfl)<|e_p (zh rfl)<|zk<|zf<|zj<|zj<|zc<|e_mv rfl<|e_p (zMa rfl rfl)<|zk<|zf<|zT rfl (fun hl1=> ?_) (fun hl1=> ?_)
 ·
  have hbd:=Big.one_digit (by omega:(yf b).length=1)
  have hbl:b<1000000000:=by omega
  have hokt:yw [((a%b:Nat):Int)]:=Big.okL_cons.2 ⟨by omega,Big.okL_nil⟩
  have hz3:=Big.made_nat hokt (show yk [((a%b:Nat):Int)]=((a%b:Nat):Int) by simp only [yk];omega)
  refine zj<|zc<|e_mv rfl<|e_mv rfl<|zP (x0:=((yf b).getD 0 0)) 1 0 rfl yh sz131 rfl rfl rfl (by first|rfl|assumption|(simp;done)|(simp;omega)|omega) rfl rfl (gD (d:=0) om) (fun b1 o2 hok3=> ?_)
  replace hok3:=zE.1 hok3
  refine e_ru (zA (j:=0) 0 ty131 rfl rfl rfl rfl)<|e_p (zH (z:=((yf b).getD 0 0)) rfl (by rw [ym];rfl) yl (wu64 om)) ?_
  have e4:(((yf b).getD 0 0):Int)=((b:Nat):Int):=by exact hbd
  rw [e4]
  refine zG rfl rfl (.c rfl (.c rfl .n)) ce113 (zkd (a:=a) (mm:=b) (p:=p1) (cap:=c1) (hb:=by first|rfl|assumption|omega|(simp;done)) (hm0:=ass) (hm1:=by first|rfl|assumption|omega|(simp;done))) (.c (j:=1) rfl .n) ?_
  rintro ⟨p25,c26⟩ -
  dsimp only [aq,nq,cq]
  refine e_mv rfl<|e_p (zw rfl rfl)<|e_p (zw rfl rfl)<|e_p (zh rfl)<|e_p (zh rfl)<|zk<|zf<|zj<|zc<|e_mv rfl<|e_mv rfl<|e_p (zH (z:=(((a%b):Nat):Int)) rfl (by rw [yl];rfl) ym (wu32 om))<|zJa rfl rfl (zQ (enc:=fun z:Int=>[.int .u32 z]) (ok:=InK .u32) (h1:=fun _=>rfl) (h2:=fun _=>rfl) (k:=1) yh inf131 rfl dd dd dd (.c (x:=(((a%b):Nat):Int)) rfl rfl (fun _ _=>by exact zE.2 om) .n)) (fun b7 _=> ?_)
  refine zqa 0 rfl .z<|zG rfl rfl (.c rfl (.c rfl .n)) ce91 (zSa (s:=false) (p:=some ⟨b7,0,none⟩) (n:=1) (cap:=1) (l:=[(((a%b):Nat):Int)]) (hn:=by first|rfl|omega|(simp;done)|(simp;omega)) (ho:=by exact hokt) (hln:=by first|rfl|omega|(simp;done)|(simp;omega))) (.c (j:=0) rfl .n) ?_
  rintro ⟨p28,c29⟩ -
  dsimp only [aq,nq,cq]
  refine e_p (zFa yi rfl ty40 rfl rfl)<|e_p (zh rfl)<|e_p (zh rfl)<|zk<|zf<|zR<|zq ?_
  exact zDa Tryz.results99 (p25,c26,p28,c29) trivial (zD rfl) (zD rfl) (by rw [hz3]) (ho:=(.n:PickO _ _ _)) ((.c (j:=2) rfl (.e (j:=0) rfl (by rw [hz3]) .n)):SelR _ _ _)
 ·
  refine zB<|zf<|zj<|zj<|zc<|e_mv rfl<|e_mv rfl<|zV rfl rfl (.c rfl (.c rfl .n)) ce93 (zVc (a:=a) (b:=b) (p1:=p1) (c1:=c1) (p2:=p2) (c2:=c2)) (.c (j:=0) rfl (.c (j:=1) rfl .n))<|e_p (zS rfl rfl)<|zk<|zf<|zT rfl (fun hlt=> ?_) (fun hlt=> ?_)
  ·
   have hab9:¬(b:Int)≤a:=fun h=>by have:=yQ.2 h;omega
   have hab:a<b:=by omega
   refine zj<|zc<|zJa rfl rfl (zAa (rI .u32) yh inf131) (fun b10 _=> ?_)
   refine e_mv rfl<|e_p (zh rfl)<|e_p (zh rfl)<|zk<|zf<|zR<|zq ?_
   have hz1:a / b=0:=Nat.div_eq_of_lt hab
   have hz2:a%b=a:=Nat.mod_eq_of_lt hab
   refine zUb 0 rfl .z ?_
   exact zDa Tryz.results99 (some ⟨b10,0,none⟩,0,p1,c1) trivial (zD rfl) (zD rfl) (by rw [hz1,hz2];rfl) (ho:=(.n:PickO _ _ _)) ((.e (j:=0) rfl (by rw [hz1];rfl) (.e (j:=1) rfl (by rw [hz2]) .n)):SelR _ _ _)
  ·
   have hab:b≤a:=by have h9:=yQ.1 (by omega:0≤Big.cmp (a:Int) (b:Int));omega
   have hab2:=yA hab
   have hq1:0≤1000000000 / ((yf b).getD ((yf b).length - 1) 0+1):=Int.ediv_nonneg om om
   have hdt:=Big.digs_top (b:=b) (n:=(yf b).length - 1) om
   have hq2:1000000000 / ((yf b).getD ((yf b).length - 1) 0+1)≤500000000:=Int.ediv_le_of_le_mul om om
   refine zB<|zf<|zj<|zc<|e_mv rfl<|e_mv rfl<|e_p (zma (z:=((((yf b).length - 1):Nat):Int)) rfl rfl (w64 om))<|zP (x0:=((yf b).getD ((yf b).length - 1) 0)) 1 ((yf b).length - 1) rfl yh sz131 rfl rfl rfl (by first|rfl|assumption|(simp;done)|(simp;omega)|omega) rfl rfl (gD (d:=0) om) (fun b11 o12 hok13=> ?_)
   replace hok13:=zE.1 hok13
   refine e_ru (zA (j:=0) 0 ty131 rfl rfl rfl rfl)<|e_p (zH (z:=((yf b).getD ((yf b).length - 1) 0)) rfl (by rw [ym];rfl) yl (wu64 om))<|e_p (zI (z:=(((yf b).getD ((yf b).length - 1) 0)+1)) rfl rfl (wu64 om))<|e_p (zdb (z:=(1000000000 / (((yf b).getD ((yf b).length - 1) 0)+1))) rfl rfl om (by rw [quoN (z:=(1000000000 / (((yf b).getD ((yf b).length - 1) 0)+1))) om om];exact wu64 om))<|e_p (zh rfl)<|zk<|zf<|zj ?_
   obtain ⟨s,hs⟩:∃s:Nat,s=(1000000000 / ((yf b).getD ((yf b).length - 1) 0+1)).toNat:=⟨_,rfl⟩
   obtain ⟨hs1,hs2,hs3⟩:=Big.scale_len (n:=(yf b).length - 1) om hs
   have hsd:=Big.digs_one hs1 (by omega:s<1000000000)
   have hsl:(yf s).length=1:=by rw [hsd];rfl
   have e14:((1000000000 / (((yf b).getD ((yf b).length - 1) 0)+1)):Int)=((s:Nat):Int):=by omega
   rw [e14]
   refine zc<|e_mv rfl<|e_mv rfl<|zG rfl rfl (.c rfl (.c rfl .n)) ce114 (zfc (a:=a) (d:=s) (p0:=p1) (cap:=c1) (hb:=by first|rfl|assumption|omega|(simp;done)) (hd:=by first|rfl|assumption|omega|(simp;done))) (.c (j:=1) rfl .n) ?_
   rintro ⟨p315,c316⟩ -
   dsimp only [aq,nq,cq]
   refine e_mv rfl<|e_mv rfl<|zG rfl rfl (.c rfl (.c rfl .n)) ce114 (zfc (a:=b) (d:=s) (p0:=p2) (cap:=c2) (hb:=by first|rfl|assumption|omega|(simp;done)) (hd:=by first|rfl|assumption|omega|(simp;done))) (.c (j:=3) rfl .n) ?_
   rintro ⟨p317,c318⟩ -
   dsimp only [aq,nq,cq]
   refine e_p (zh rfl)<|e_p (zh rfl)<|zk<|zf<|zj ?_
   obtain ⟨A,hA⟩:∃z,z=a*s:=⟨_,rfl⟩
   rw [← hA]
   obtain ⟨V,hV⟩:∃z,z=b*s:=⟨_,rfl⟩
   rw [← hV]
   refine zpa 1 rfl (fun hcA=> ?_)
   have hAl:(yf a).length≤(yf A).length:=by rw [hA];exact Big.len_mul_ge hs1
   have hAl2:(yf A).length≤(yf a).length+1:=by have h8:=Big.len_mul_le a s;rw [hsl] at h8;rw [hA];exact h8
   obtain ⟨m,hm⟩:∃z,(yf V).length=z+1:=⟨(yf b).length - 1,by rw [hV,hs3]⟩
   have hmb:(yf b).length=m+1:=by rw [hV,hs3] at hm;omega
   have e19:((((yf b).length:Nat):Int):Int)=(((m+1):Nat):Int):=by omega
   rw [e19]
   refine zc<|e_mv rfl<|e_mv rfl<|e_p (zea yh rfl)<|e_mv rfl<|e_p (zma (z:=((((yf A).length - (m+1)):Nat):Int)) rfl rfl (w64 om))<|e_p (zI (z:=((((yf A).length - m):Nat):Int)) rfl rfl (w64 om))<|e_p (zhe (lo:=((yf A).length - m)) (hi:=(yf A).length) yh sz131 rfl (.s rfl) .n (.inr ⟨_,rfl⟩) (.inl ⟨rfl,rfl⟩) om om)<|zxc (zjf 1 rfl ((yf A).length - m) ((yf A).length) om om) (fun _ _=> ?_)
   refine zG rfl rfl (.c rfl (.c rfl .n)) ce91 (zSa (s:=false) (p:=(newP p315 c316 ((yf A).length - m) 1)) (n:=((yf A).length) - ((yf A).length - m)) (cap:=(c316 - ((yf A).length - m))) (l:=(((yf A).take ((yf A).length)).drop ((yf A).length - m))) (hn:=by first|rfl|omega|(simp;done)|(simp;omega)) (ho:=by exact Big.okL_drop (Big.okL_take (yq _) _) _) (hln:=by first|rfl|omega|(simp;done)|(simp;omega))) (.c (j:=0) rfl .n) ?_
   rintro ⟨p220,c221⟩ -
   dsimp only [aq,nq,cq]
   refine e_p (zFa yi rfl ty40 rfl rfl)<|e_p (zh rfl)<|zk<|zf<|zj ?_
   obtain ⟨R0,hR0⟩:∃z,z=(yz false (yk (((yf A).take ((yf A).length)).drop ((yf A).length - m)))).natAbs:=⟨_,rfl⟩
   rw [← hR0]
   have hpt:Big.PtI A V ((yf A).length - m) [] R0:=Big.PtI.start hm om (by rw [hR0,List.take_length];have:=yE (Big.okL_drop (yq A) ((yf A).length - m));simp only [yz];omega)
   refine zc<|e_mv rfl<|e_p (zea yh rfl)<|e_mv rfl<|e_p (zma (z:=((((yf A).length - (m+1)):Nat):Int)) rfl rfl (w64 om))<|e_p (zI (z:=((((yf A).length - m):Nat):Int)) rfl rfl (w64 om))<|zJa rfl rfl (zFb (r:=rI .u32) (k:=((yf A).length - m)) (x0:=0) (γ0:=()) yh inf131 rfl rfl rfl rfl om om rfl (fun _ _=>by exact zE.2 dd) dd) (fun b22 _=> ?_)
   refine e_p (zh rfl)<|zk<|zf<|zj<|zj<|zc<|e_mv rfl<|e_p (zea yh rfl)<|e_mv rfl<|e_p (zma (z:=((((yf A).length:Nat):Int) - (((m+1):Nat):Int))) rfl rfl (w64 om))<|e_p (zh rfl)<|zk<|zf<|zu<|zza (X:=Nat×(List Int)×Nat×(Option Addr)×Nat) (fun x:Nat×(List Int)×Nat×(Option Addr)×Nat=>Big.PtI A V x.1 x.2.1 x.2.2.1∧x.1+x.2.1.length=(yf A).length - m) (fun x=>[(10,.slice (x.2.2.2.1) ((yf (x.2.2.1)).length) (x.2.2.2.2)),(12,yc yd (((x.1:Nat):Int) - 1)),(11,.slice (some ⟨b22,0,none⟩) ((yf A).length - m) ((yf A).length - m)),(1,.slice p317 ((yf V).length) c318),(0,.slice p315 ((yf A).length) c316),(9,.int .u64 ((s:Nat):Int)),(6,yc yd (((m+1):Nat):Int)),(5,.slice none 0 0),(4,.slice none 0 0)]) (fun x=>[rowA 131 (rI .u32) (some ⟨b22,0,none⟩) ((yf A).length - m) (List.replicate x.1 0++x.2.1)]) (fun x=>[slF (rI .u32) (x.2.2.2.1) (x.2.2.2.2) (yf (x.2.2.1)),slF (rI .u32) p220 c221 (yf R0),slF (rI .u32) (newP p315 c316 ((yf A).length - m) 1) (c316 - ((yf A).length - m)) (((yf A).take ((yf A).length)).drop ((yf A).length - m)),slF (rI .u32) p317 c318 (yf V),slF (rI .u32) p315 c316 (yf A),atF b11 o12 [.int .u32 ((yf b).getD ((yf b).length - 1) 0)],slF (rI .u32) p1 c1 (yf a),slF (rI .u32) p2 c2 (yf b)]) (fun x:Nat×(List Int)×Nat×(Option Addr)×Nat=>x.1) (((yf A).length - m),([]:List Int),R0,p220,c221) (show Big.PtI A V ((yf A).length - m) ([]:List Int) R0∧((yf A).length - m)+([]:List Int).length=(yf A).length - m from by exact ⟨hpt,rfl⟩) ((.e rfl (by first|rfl|(congr 1;omega)|simp_all) (.e rfl (congrArg (Value.int .i64) om) (.of rfl))):SubM _ _) (ho:=((.e (i:=0) rfl (by simp) .n):PickO _ _ _)) ((.e (j:=0) rfl (by first|rfl|simp_all) (.of [0,1,2,3,4,5,6] rfl)):SelR _ _ _) ?_
   rintro ⟨jj,qs,R,pr,cr⟩ hI
   replace hI:Big.PtI A V jj qs R∧jj+qs.length=(yf A).length - m:=hI
   try dsimp only
   obtain ⟨hP,hql⟩:=hI
   refine zj<|zj<|zc<|e_mv rfl<|e_p (zpb rfl rfl)<|zk<|zf<|zT rfl (fun hj=> ?_) (fun hj=> ?_)
   ·
    obtain ⟨j,rfl⟩:∃j,jj=j+1:=⟨jj - 1,by omega⟩
    have e23:(((((j+1):Nat):Int) - 1):Int)=((j:Nat):Int):=by omega
    rw [e23]
    have hjle:=hP.le
    have hRV:=hP.lt
    have hdn:=yt (yq A) j
    obtain ⟨d,hd⟩:∃d:Nat,(yf A).getD j 0=(d:Int):=⟨_,(Int.toNat_of_nonneg hdn.1).symm⟩
    have hd9:d<1000000000:=by omega
    have hWlt9:=Big.pt_lim hRV hd9
    have hRl:=yA (Nat.le_of_lt hRV)
    refine zB<|zf<|zj<|zu<|zj<|zc<|e_mv rfl<|e_mv rfl<|e_mv rfl<|zP (x0:=((yf A).getD j 0)) 4 j rfl yh sz131 rfl rfl rfl (by first|rfl|assumption|(simp;done)|(simp;omega)|omega) rfl rfl (gD (d:=0) om) (fun b24 o25 hok26=> ?_)
    replace hok26:=zE.1 hok26
    refine e_ru (zA (j:=0) 0 ty131 rfl rfl rfl rfl) ?_
    have e27:(((yf A).getD j 0):Int)=((d:Nat):Int):=by exact hd
    rw [e27]
    refine zG rfl rfl (.c rfl (.c rfl .n)) ce115 (zQd (a:=R) (d:=d) (p0:=pr) (cap:=cr) (hb:=by first|rfl|assumption|omega|(simp;done)) (hd:=by first|rfl|assumption|omega|(simp;done))) (.c (j:=1) rfl .n) ?_
    rintro ⟨p328,c329⟩ -
    dsimp only [aq,nq,cq]
    refine e_p (zh rfl)<|zk<|zf<|zj ?_
    obtain ⟨W,hW⟩:∃z,z=(R*1000000000+d):=⟨_,rfl⟩
    rw [← hW]
    have hWlt:W<V*1000000000:=by rw [hW];exact hWlt9
    have hWl:=Big.pt_wlen hWlt hm
    have hw1:=yt (yq W) (m+1)
    have hw0:=yt (yq W) m
    have hv0:=yt (yq V) m
    have hg0:0≤(((yf W).getD (m+1) 0*1000000000+(yf W).getD m 0) / ((yf V).getD m 0+1)):=Int.ediv_nonneg om om
    have hg1:(((yf W).getD (m+1) 0*1000000000+(yf W).getD m 0) / ((yf V).getD m 0+1))≤1000000000000000000:=Int.le_trans (Int.ediv_le_self _ om) om
    refine zO (OW:=[]) (O:=[rowA 131 (rI .u32) (some ⟨b22,0,none⟩) ((yf A).length - m) (List.replicate (j+1) 0++qs)]) 100000 mixed (.then (.block (.then (.then (.block (.then .ret)))))) kr<|e_dm 0 rfl rfl rfl<|e_dm 1 rfl rfl rfl<|e_dm 4 rfl rfl rfl<|e_dm 5 rfl rfl rfl<|e_pv 6 rfl rfl (zma (z:=((m:Nat):Int)) rfl rfl (w64 om))<|e_dm 9 rfl rfl rfl<|e_dm 10 rfl rfl rfl<|e_pv 11 rfl rfl (zma (z:=((m:Nat):Int)) rfl rfl (w64 om))<|zOa (x0:=((yf V).getD m 0)) 12 rfl rfl kr kr 5 m rfl yh sz131 rfl rfl rfl (by first|rfl|assumption|(simp;done)|(simp;omega)|omega) rfl rfl (gD (d:=0) om) (fun b30 o31 hok32=> ?_)
    replace hok32:=zE.1 hok32
    refine e_u 13 rfl rfl (zA (j:=0) 0 ty131 rfl rfl rfl rfl)<|e_pv 14 rfl rfl (zH (z:=((yf V).getD m 0)) rfl (by rw [ym];rfl) yl (wu64 om))<|e_pv 15 rfl rfl (zI (z:=(((yf V).getD m 0)+1)) rfl rfl (wu64 om))<|e_one 2 (zBa rfl rfl rfl rfl (.c rfl (.c rfl .n)) ce109 (zib (p:=p328) (n:=(yf W).length) (cap:=c329) (l:=yf W) (i:=(m+1)) (hn:=by first|rfl|assumption|omega|(simp;done)) (hi:=by first|rfl|assumption|omega|(simp;done))) (.c (j:=1) rfl .n) ?_)
    refine e_pv 3 rfl rfl (zGa (z:=((yf W).getD (m+1) 0*1000000000)) rfl rfl (wu64 om))<|e_one 7 (zBa rfl rfl rfl rfl (.c rfl (.c rfl .n)) ce109 (zib (p:=p328) (n:=(yf W).length) (cap:=c329) (l:=yf W) (i:=m) (hn:=by first|rfl|assumption|omega|(simp;done)) (hi:=by first|rfl|assumption|omega|(simp;done))) (.c (j:=1) rfl .n) ?_)
    refine e_pv 8 rfl rfl (zI (z:=(((yf W).getD (m+1) 0*1000000000)+(yf W).getD m 0)) rfl rfl (wu64 om))<|e_pv 16 rfl rfl (zdb (z:=((((yf W).getD (m+1) 0*1000000000)+(yf W).getD m 0) / (((yf V).getD m 0)+1))) rfl rfl om (by rw [quoN (z:=((((yf W).getD (m+1) 0*1000000000)+(yf W).getD m 0) / (((yf V).getD m 0)+1))) om om];exact wu64 om))<|e_pv 17 rfl rfl (zh rfl)<|zM kr<|zf<|zj ?_
    obtain ⟨g0,hg9⟩:∃g:Nat,(g:Int)=(((yf W).getD (m+1) 0*1000000000+(yf W).getD m 0) / ((yf V).getD m 0+1)):=⟨_,Int.toNat_of_nonneg hg0⟩
    obtain ⟨hgm,hgl⟩:=Big.pt_guess hWlt hm hg9
    have hVg:=yA hgm
    have e33:(((((yf W).getD (m+1) 0*1000000000)+(yf W).getD m 0) / (((yf V).getD m 0)+1)):Int)=((g0:Nat):Int):=by exact hg9.symm
    rw [e33]
    refine zc<|e_mv rfl<|e_mv rfl<|e_mv rfl<|zG rfl rfl (.c rfl (.c rfl .n)) ce114 (zfc (a:=V) (d:=g0) (p0:=p317) (cap:=c318) (hb:=by first|rfl|assumption|omega|(simp;done)) (hd:=by first|rfl|assumption|omega|(simp;done))) (.c (j:=6) rfl .n) ?_
    rintro ⟨p334,c335⟩ -
    dsimp only [aq,nq,cq]
    refine zG rfl rfl (.c rfl (.c rfl .n)) ce94 (zXb (a:=W) (b:=V*g0) (p1:=p328) (c1:=c329) (p2:=p334) (c2:=c335) (hb1:=by first|rfl|assumption|omega|(simp;done)) (hb2:=by first|rfl|assumption|omega|(simp;done)) (hab:=by first|rfl|assumption|omega|(simp;done))) (.c (j:=2) rfl (.c (j:=0) rfl .n)) ?_
    rintro ⟨p336,c337⟩ -
    dsimp only [aq,nq,cq]
    refine e_p (zh rfl)<|zk<|zf<|zj<|zu<|zza (X:=Nat×Nat×(Option Addr)×Nat) (fun x:Nat×Nat×(Option Addr)×Nat=>x.2.1+V*x.1=W) (fun x=>[(10,.slice (x.2.2.1) ((yf (x.2.1)).length) (x.2.2.2)),(13,.int .u64 ((x.1:Nat):Int)),(12,yc yd ((j:Nat):Int)),(11,.slice (some ⟨b22,0,none⟩) ((yf A).length - m) ((yf A).length - m)),(1,.slice p317 ((yf V).length) c318),(0,.slice p315 ((yf A).length) c316),(9,.int .u64 ((s:Nat):Int)),(6,yc yd (((m+1):Nat):Int)),(5,.slice none 0 0),(4,.slice none 0 0)]) (fun x=>[rowA 131 (rI .u32) (some ⟨b22,0,none⟩) ((yf A).length - m) (List.replicate (j+1) 0++qs)]) (fun x=>[slF (rI .u32) (x.2.2.1) (x.2.2.2) (yf (x.2.1)),slF (rI .u32) p336 c337 (yf (W - (V*g0))),slF (rI .u32) p334 c335 (yf (V*g0)),atF b30 o31 [.int .u32 ((yf V).getD m 0)],slF (rI .u32) p328 c329 (yf W),atF b24 o25 [.int .u32 ((d:Nat):Int)],slF (rI .u32) pr cr (yf R),slF (rI .u32) p220 c221 (yf R0),slF (rI .u32) (newP p315 c316 ((yf A).length - m) 1) (c316 - ((yf A).length - m)) (((yf A).take ((yf A).length)).drop ((yf A).length - m)),slF (rI .u32) p317 c318 (yf V),slF (rI .u32) p315 c316 (yf A),atF b11 o12 [.int .u32 ((yf b).getD ((yf b).length - 1) 0)],slF (rI .u32) p1 c1 (yf a),slF (rI .u32) p2 c2 (yf b)]) (fun x:Nat×Nat×(Option Addr)×Nat=>x.2.1) (g0,(W - V*g0),p336,c337) (show (W - V*g0)+V*g0=W from by exact Nat.sub_add_cancel hgm) ((.e rfl (by first|rfl|(congr 1;omega)|simp_all) (.of rfl)):SubM _ _) (ho:=((.c (i:=0) rfl .n):PickO _ _ _)) ((.e (j:=0) rfl (by first|rfl|simp_all) (.of [0,1,2,3,4,5,6,7,8,9,10,11,12] rfl)):SelR _ _ _) ?_
    rintro ⟨g,r,p9,c9⟩ hJ
    replace hJ:r+V*g=W:=hJ
    try dsimp only
    have hgb:g<1000000000:=Nat.lt_of_mul_lt_mul_left (a:=V) om
    have hrl:=yA (show r≤W by omega)
    refine zj<|zj<|zc<|e_mv rfl<|e_mv rfl<|zV rfl rfl (.c rfl (.c rfl .n)) ce93 (zVc (a:=r) (b:=V) (p1:=p9) (c1:=c9) (p2:=p317) (c2:=c318)) (.c (j:=0) rfl (.c (j:=9) rfl .n))<|e_p (zpb rfl rfl)<|zk<|zf<|zT rfl (fun hge=> ?_) (fun hge=> ?_)
    ·
     have hrV:V≤r:=by have h9:=yQ.1 hge;omega
     refine zB<|zf<|zu<|zj<|zc<|e_mv rfl<|e_mv rfl<|zG rfl rfl (.c rfl (.c rfl .n)) ce94 (zXb (a:=r) (b:=V) (p1:=p9) (c1:=c9) (p2:=p317) (c2:=c318) (hb1:=by first|rfl|assumption|omega|(simp;done)) (hb2:=by first|rfl|assumption|omega|(simp;done)) (hab:=by first|rfl|assumption|omega|(simp;done))) (.c (j:=0) rfl (.c (j:=9) rfl .n)) ?_
     rintro ⟨p338,c339⟩ -
     dsimp only [aq,nq,cq]
     refine e_p (zh rfl)<|zk<|zf<|zc<|e_mv rfl<|e_p (zI (z:=(((g+1):Nat):Int)) rfl rfl (wu64 om))<|e_p (zh rfl)<|zk<|zK<|zwa ((g+1),(r - V),p338,c339) (show (r - V)+V*(g+1)=W from by rw [Nat.mul_succ];omega) (by show r - V<r;omega) ((.e rfl (by first|rfl|(congr 1;omega)|simp_all) (.of rfl)):SubM _ _) (ho:=((.c (i:=0) rfl .n):PickO _ _ _)) ((.e (j:=0) rfl (by first|rfl|simp_all) (.of [2,3,4,5,6,7,8,9,10,11,12,13,14] rfl)):SelR _ _ _)
    ·
     have hrV:r<V:=by have h9:¬(V:Int)≤r:=fun h=>hge (yQ.2 h);omega
     have hst:=hP.step hd (by rw [← hW];exact hJ) hrV
     refine zla<|zn<|zn<|zC<|zf<|zc<|e_mv rfl<|e_mv rfl<|e_mv rfl<|e_p (zH (z:=((g:Nat):Int)) rfl (by rw [yl];rfl) ym (wu32 om))<|e_p (zja (j:=j) yh sz131 rfl rfl rfl om)<|zWa 0 rfl rfl rfl (zha (j:=j) (x0:=((g:Nat):Int)) (γ0:=()) rfl rfl (by first|omega|(rw [List.length_map];omega)|(simp only [List.length_set];omega)|(simp;done)|(simp;omega)) rfl rfl sz131 (fun _ _=>by exact zE.2 om)) (fun _=> .z) (fun _ _=> ?_)
     refine zk<|zK<|zf<|zc<|e_mv rfl<|e_p (zma (z:=(((j:Nat):Int) - 1)) rfl rfl (w64 om))<|e_p (zh rfl)<|zk<|zwa (j,(((g:Nat):Int) :: qs),r,p9,c9) (show Big.PtI A V j (((g:Nat):Int) :: qs) r∧j+(((g:Nat):Int) :: qs).length=(yf A).length - m from by exact ⟨hst,by rw [List.length_cons];omega⟩) (by show j<j+1;omega) ((.of rfl):SubM _ _) (ho:=((.e (i:=0) rfl (by rw [Big.pad_set]) .n):PickO _ _ _)) ((.of [0,7,8,9,10,11,12,13] rfl):SelR _ _ _)
   ·
    have hj0:jj=0:=by omega
    have hI0:Big.PtI A V 0 qs R:=hj0 ▸ hP
    obtain ⟨hf1,hf2⟩:=hI0.fin
    have hsc:=Big.scale_div (a:=a) (b:=b) hs1
    have hRV:=hI0.lt
    have hRl:=yA (Nat.le_of_lt hRV)
    have hz4:=Big.made_nat hI0.ok hf1
    have hok5:=hI0.ok
    refine zla<|zn<|zn<|zC<|zf<|zj<|zc<|e_mv rfl<|e_mv rfl<|zG rfl rfl (.c rfl (.c rfl .n)) ce113 (zkd (a:=R) (mm:=s) (p:=pr) (cap:=cr) (hb:=by first|rfl|assumption|omega|(simp;done)) (hm0:=by first|rfl|assumption|omega|(simp;done)) (hm1:=by first|rfl|assumption|omega|(simp;done))) (.c (j:=0) rfl .n) ?_
    rintro ⟨p240,c241⟩ -
    dsimp only [aq,nq,cq]
    refine e_mv rfl<|e_p (zw rfl rfl)<|e_p (zw rfl rfl)<|e_p (zh rfl)<|e_p (zh rfl)<|zk<|zf<|zj ?_
    have e42:List.replicate jj 0++qs=qs:=by rw [hj0];rfl
    rw [e42]
    refine zc<|e_mv rfl<|zqa 0 rfl .z<|zG rfl rfl (.c rfl (.c rfl .n)) ce91 (zSa (s:=false) (p:=some ⟨b22,0,none⟩) (n:=((yf A).length - m)) (cap:=((yf A).length - m)) (l:=qs) (hn:=by first|rfl|omega|(simp;done)|(simp;omega)) (ho:=by exact hok5) (hln:=by first|rfl|omega|(simp;done)|(simp;omega))) (.c (j:=0) rfl .n) ?_
    rintro ⟨p243,c244⟩ -
    dsimp only [aq,nq,cq]
    refine e_p (zFa yi rfl ty40 rfl rfl)<|e_mv rfl<|e_p (zh rfl)<|e_p (zh rfl)<|zk<|zf<|zR ?_
    have hr9:R / s=a%b:=by rw [hf2,hA,hV,hsc.2]
    have hz5:(yz false (yk qs)).natAbs=a / b:=by rw [hz4,hA,hV,hsc.1]
    exact zDa Tryz.results99 (p243,c244,p240,c241) trivial (zD rfl) (zD rfl) (by rw [hz5,hr9]) (ho:=(.n:PickO _ _ _)) ((.e (j:=0) rfl (by rw [hz5]) (.e (j:=2) rfl (by rw [hr9]) .n)):SelR _ _ _)
end Go.Proofs.YtjeahiahjgifgaaGreatDoor.Sp
namespace Go.Proofs.YtjeahiahjgifgaaGreatDoor.Sp
open Go
set_option linter.unusedVariables false
set_option maxRecDepth 100000
set_option maxHeartbeats 8000000
theorem zre {s:Bool} {p1:Option Addr} {n1:Nat} {c1:Nat} {l1:List Int} {t:Bool} {p2:Option Addr} {n2:Nat} {c2:Nat} {l2:List Int} (hn1:l1.length=n1) (hn2:l2.length=n2) (hm1:n1≤549755813888) (hm2:n2≤549755813888):Con yj 68 [.agg #[.bool s,.slice p1 n1 c1],.agg #[.bool t,.slice p2 n2 c2]] [] [slF (rI .u32) p1 c1 l1,slF (rI .u32) p2 c2 l2] (Y:=(Option Addr)×Nat) (fun y=>True) (fun y=> .agg #[.bool (decide (((Nat.gcd (yg s l1).natAbs (yg t l2).natAbs:Nat):Int)<0)),.slice (y.1) ((yf (((Nat.gcd (yg s l1).natAbs (yg t l2).natAbs:Nat):Int).natAbs)).length) (y.2)]) (fun y=>[]) (fun y=>[slF (rI .u32) (y.1) (y.2) (yf (((Nat.gcd (yg s l1).natAbs (yg t l2).natAbs:Nat):Int).natAbs))]):=by
 refine zx Tryz.func68 rfl rfl rfl (fun c=> ?_)
 show RunC _ _ _ _ _ [(0,.agg #[.bool s,.slice p1 n1 c1]),(1,.agg #[.bool t,.slice p2 n2 c2])] [] [slF (rI .u32) p1 c1 l1,slF (rI .u32) p2 c2 l2]
 refine zpa 0 rfl (fun hL0=> ?_)
 refine zfb 0 rfl (fun hE0=> ?_)
 refine zpa 1 rfl (fun hL1=> ?_)
 refine zfb 1 rfl (fun hE1=> ?_)
 have hnn1:yK l1:=fun g hg=>(zE.1 (hE0 g hg)).1
 have hnn2:yK l2:=fun g hg=>(zE.1 (hE1 g hg)).1
 have hb1:yn (yg s l1)≤n1:=by have:=yF (s:=s) hnn1;omega
 have hb2:yn (yg t l2)≤n2:=by have:=yF (s:=t) hnn2;omega
 unfold yn at hb1 hb2
 refine zj<|zc<|zJ rfl rfl (zda rfl rfl) (fun b1=> ?_)
 refine zJ rfl rfl (zda rfl rfl) (fun b2=> ?_)
 refine zJ rfl rfl (zp zr42 rfl) (fun b3=> ?_)
 refine zk<|zf<|zj<|zO (OW:=[]) (O:=[boxA b3 42 [wz.b,wz.l],boxA b2 42 [.bool t,.slice p2 n2 c2],boxA b1 42 [.bool s,.slice p1 n1 c1]]) 100000 mixed (.then .ret) kr<|e_u 0 rfl rfl (zd 2 ty42 rfl rfl (.t2 .nil))<|e_u 3 rfl rfl (zd 1 ty42 rfl rfl (.t2 .nil))<|e_one 1 (zm rfl rfl rfl rfl (.c rfl .n) ce90 (zYa (s:=s) (p:=p1) (n:=n1) (cap:=c1) (l:=l1) (hn:=ass) (hln:=cbo)) (.c (j:=0) rfl .n) ?_)
 rintro ⟨p24,c25⟩ -
 dsimp only [aq,nq,cq]
 refine e_pv 2 rfl rfl (zFa yi rfl ty40 rfl rfl)<|e_one 4 (zm rfl rfl rfl rfl (.c rfl .n) ce90 (zYa (s:=t) (p:=p2) (n:=n2) (cap:=c2) (l:=l2) (hn:=ass) (hln:=cbo)) (.c (j:=2) rfl .n) ?_)
 rintro ⟨p26,c27⟩ -
 dsimp only [aq,nq,cq]
 refine e_pv 5 rfl rfl (zFa yi rfl ty40 rfl rfl)<|e_pv 6 rfl rfl (zh rfl)<|e_pv 7 rfl rfl (zh rfl)<|zM kr<|zf<|zj<|zu<|zza (X:=Nat×Nat×(Option Addr)×Nat×(Option Addr)×Nat) (fun x:Nat×Nat×(Option Addr)×Nat×(Option Addr)×Nat=>Nat.gcd x.1 x.2.1=Nat.gcd (yg s l1).natAbs (yg t l2).natAbs∧(yf x.1).length≤549755813888∧(yf x.2.1).length≤549755813888) (fun x=>[(6,.slice (x.2.2.2.2.1) ((yf (x.2.1)).length) (x.2.2.2.2.2)),(5,.slice (x.2.2.1) ((yf (x.1)).length) (x.2.2.2.1)),(4,ye (some ⟨b3,0,none⟩))]) (fun x=>[boxA b3 42 [wz.b,wz.l],boxA b2 42 [.bool t,.slice p2 n2 c2],boxA b1 42 [.bool s,.slice p1 n1 c1]]) (fun x=>[slF (rI .u32) (x.2.2.1) (x.2.2.2.1) (yf (x.1)),slF (rI .u32) (x.2.2.2.2.1) (x.2.2.2.2.2) (yf (x.2.1)),slF (rI .u32) p26 c27 (yf ((yg t l2).natAbs)),slF (rI .u32) p24 c25 (yf ((yg s l1).natAbs)),slF (rI .u32) p1 c1 l1,slF (rI .u32) p2 c2 l2]) (fun x:Nat×Nat×(Option Addr)×Nat×(Option Addr)×Nat=>x.2.1) ((yg s l1).natAbs,(yg t l2).natAbs,p24,c25,p26,c27) (show Nat.gcd ((yg s l1).natAbs) ((yg t l2).natAbs)=Nat.gcd (yg s l1).natAbs (yg t l2).natAbs∧(yf ((yg s l1).natAbs)).length≤549755813888∧(yf ((yg t l2).natAbs)).length≤549755813888 from by exact ⟨rfl,by omega,by omega⟩) ((.of rfl):SubM _ _) (ho:=((.of [0,0,0] rfl):PickO _ _ _)) ((.of [1,0,0,1,2,3] rfl):SelR _ _ _) ?_
 rintro ⟨a,b,pa,ca,pb,cb⟩ hI
 replace hI:Nat.gcd a b=Nat.gcd (yg s l1).natAbs (yg t l2).natAbs∧(yf a).length≤549755813888∧(yf b).length≤549755813888:=hI
 try dsimp only
 obtain ⟨hgc,hba,hbb⟩:=hI
 refine zj<|zIa (X:=Unit) (fun x=>True) (fun x=>[(29,.bool (decide (0<(yf b).length∧(2<(yf a).length∨2<(yf b).length)))),(6,.slice pb ((yf b).length) cb),(5,.slice pa ((yf a).length) ca),(4,ye (some ⟨b3,0,none⟩))]) (fun x=>[boxA b3 42 [wz.b,wz.l],boxA b2 42 [.bool t,.slice p2 n2 c2],boxA b1 42 [.bool s,.slice p1 n1 c1]]) (fun x=>[slF (rI .u32) pa ca (yf a),slF (rI .u32) pb cb (yf b),slF (rI .u32) p26 c27 (yf ((yg t l2).natAbs)),slF (rI .u32) p24 c25 (yf ((yg s l1).natAbs)),slF (rI .u32) p1 c1 l1,slF (rI .u32) p2 c2 l2]) ?_ ?_
 ·
  refine zc<|e_mv rfl<|e_p (zea yh rfl)<|e_p (zZa rfl rfl)<|zsa rfl rfl (zva rfl) (fun h8=> ?_) (fun h8=> ?_)
  ·
   refine e_mv rfl<|e_p (zea yh rfl)<|e_p (zZa rfl rfl)<|zsa rfl rfl (zva rfl) (fun h9=> ?_) (fun h9=> ?_)
   ·
    refine e_no<|e_no<|e_no<|e_p (zU rfl rfl)<|e_p (zU rfl rfl)<|zk ?_
    exact zna () (show True from by first|trivial|omega|simp_all) ((.e rfl (congrArg Value.bool (by first|(simp;omega)|exact decide_eq_decide.2 ⟨fun h=>⟨by omega,.inr om⟩,fun h=>by omega⟩)) (.of rfl)):SubM _ _) (ho:=((.of [0,0,0] rfl):PickO _ _ _)) ((.of [0,1,2,3,4,5] rfl):SelR _ _ _)
   ·
    refine e_mv rfl<|e_p (zea yh rfl)<|e_p (zZa rfl rfl)<|e_p (zU rfl rfl)<|e_p (zU rfl rfl)<|zk ?_
    exact zna () (show True from by first|trivial|omega|simp_all) ((.e rfl (congrArg Value.bool (by first|(simp;omega)|exact decide_eq_decide.2 ⟨fun h=>⟨by omega,.inr om⟩,fun h=>by omega⟩)) (.of rfl)):SubM _ _) (ho:=((.of [0,0,0] rfl):PickO _ _ _)) ((.of [0,1,2,3,4,5] rfl):SelR _ _ _)
  ·
   refine e_no<|e_no<|e_no<|e_no<|e_no<|e_no<|e_no<|e_no<|e_p (zU rfl rfl)<|zk ?_
   exact zna () (show True from by first|trivial|omega|simp_all) ((.e rfl (congrArg Value.bool (by first|(simp;omega)|exact decide_eq_decide.2 ⟨fun h=>⟨by omega,.inr om⟩,fun h=>by omega⟩)) (.of rfl)):SubM _ _) (ho:=((.of [0,0,0] rfl):PickO _ _ _)) ((.of [0,1,2,3,4,5] rfl):SelR _ _ _)
 ·
  rintro ⟨⟩ -
  try dsimp only
  refine zT rfl (fun hw=> ?_) (fun hw=> ?_)
  ·
   have hb0:0<b:=Nat.pos_of_ne_zero (fun e=>by rw [e] at hw;simp [Big.digs_zero] at hw)
   refine zB<|zf<|zu<|zj<|zc<|e_mv rfl<|e_mv rfl<|zG rfl rfl (.c rfl (.c rfl .n)) ce99 (zld (a:=a) (b:=b) (p1:=pa) (c1:=ca) (p2:=pb) (c2:=cb) (hb1:=cbo) (hb2:=cbo) (hb0:=cbo)) (.c (j:=0) rfl (.c (j:=1) rfl .n)) ?_
   rintro ⟨p310,c311,p412,c413⟩ -
   dsimp only [aq,nq,cq]
   refine e_mv rfl<|e_p (zw rfl rfl)<|e_p (zw rfl rfl)<|e_p (zh rfl)<|e_p (zh rfl)<|zk<|zf<|zc<|e_mv rfl<|e_mv rfl<|e_p (zh rfl)<|e_p (zh rfl)<|zk<|zK<|zwa (b,(a%b),pb,cb,p412,c413) (show Nat.gcd b (a%b)=Nat.gcd (yg s l1).natAbs (yg t l2).natAbs∧(yf b).length≤549755813888∧(yf (a%b)).length≤549755813888 from by exact ⟨by rw [Big.gcd_rest,hgc],hbb,Nat.le_trans (yA (Nat.le_of_lt (Nat.mod_lt a hb0))) hbb⟩) (by exact Nat.mod_lt a hb0) ((.e rfl (by first|rfl|(congr 1;omega)|simp_all) (.c rfl (.c rfl .n))):SubM _ _) (ho:=((.of [0,0,0] rfl):PickO _ _ _)) ((.c (j:=3) rfl (.e (j:=1) rfl (by first|rfl|simp_all) (.of [4,5,6,7] rfl))):SelR _ _ _)
  ·
   refine zla<|zn<|zn<|zC<|zf<|zj<|zj<|zc<|e_mv rfl<|e_p (zea yh rfl)<|e_p (zMa rfl rfl)<|zk<|zf<|zT rfl (fun hbz=> ?_) (fun hbz=> ?_)
   ·
    have hbz0:b=0:=yI.1 om
    have hfin:a=Nat.gcd (yg s l1).natAbs (yg t l2).natAbs:=by rw [← hgc,hbz0,Nat.gcd_zero_right]
    refine zj<|zc<|e_mv rfl<|zG rfl rfl (.c rfl (.c rfl .n)) ce91 (ztb (s:=false) (a:=a) (p:=pa) (cap:=ca) (hln:=cbo)) (.c (j:=0) rfl .n) ?_
    rintro ⟨p214,c215⟩ -
    dsimp only [aq,nq,cq]
    refine zl 0 rfl rfl rfl rfl rfl sz42 rfl (.t2 .nil) .z<|zk<|zf<|zR<|zq ?_
    exact zL Tryz.results68 (p214,c215) trivial (zr 0 ty42 rfl rfl (.t2 .nil)) (by rw [← hfin];rfl) (ho:=(.n:PickO _ _ _)) ((.e (j:=0) rfl (by rw [← hfin];rfl) .n):SelR _ _ _)
   ·
    have ha2:(yf a).length≤2:=by omega
    have hb2:(yf b).length≤2:=by omega
    have ha18:=Big.two_lt ha2
    have hb18:=Big.two_lt hb2
    refine zB<|zf<|zj<|zc<|e_mv rfl<|zV rfl rfl (.c rfl .n) ce100 (zRd (a:=a) (p:=pa) (cap:=ca) (hb:=cbo)) (.c (j:=0) rfl .n)<|e_mv rfl<|zV rfl rfl (.c rfl .n) ce100 (zRd (a:=b) (p:=pb) (cap:=cb) (hb:=cbo)) (.c (j:=1) rfl .n)<|e_p (zh rfl)<|e_p (zh rfl)<|zk<|zf<|zj<|zu<|zza (X:=Nat×Nat) (fun x:Nat×Nat=>Nat.gcd x.1 x.2=Nat.gcd a b∧x.1<1000000000000000000∧x.2<1000000000000000000) (fun x=>[(10,.int .u64 ((x.2:Nat):Int)),(9,.int .u64 ((x.1:Nat):Int)),(4,ye (some ⟨b3,0,none⟩))]) (fun x=>[boxA b3 42 [wz.b,wz.l],boxA b2 42 [.bool t,.slice p2 n2 c2],boxA b1 42 [.bool s,.slice p1 n1 c1]]) (fun x=>[slF (rI .u32) pa ca (yf a),slF (rI .u32) pb cb (yf b),slF (rI .u32) p26 c27 (yf ((yg t l2).natAbs)),slF (rI .u32) p24 c25 (yf ((yg s l1).natAbs)),slF (rI .u32) p1 c1 l1,slF (rI .u32) p2 c2 l2]) (fun x:Nat×Nat=>x.2) (a,b) (show Nat.gcd a b=Nat.gcd a b∧a<1000000000000000000∧b<1000000000000000000 from by exact ⟨rfl,ha18,hb18⟩) ((.of rfl):SubM _ _) (ho:=((.of [0,0,0] rfl):PickO _ _ _)) ((.of [0,1,2,3,4,5] rfl):SelR _ _ _) ?_
    rintro ⟨q,r⟩ hJ
    replace hJ:Nat.gcd q r=Nat.gcd a b∧q<1000000000000000000∧r<1000000000000000000:=hJ
    try dsimp only
    obtain ⟨hgq,hq18,hr18⟩:=hJ
    have hmr:=Nat.mod_le q r
    refine zj<|zj<|zc<|e_mv rfl<|e_p (zZa rfl rfl)<|zk<|zf<|zT rfl (fun hy=> ?_) (fun hy=> ?_)
    ·
     refine zB<|zf<|zu<|zO (OW:=[]) (O:=[boxA b3 42 [wz.b,wz.l],boxA b2 42 [.bool t,.slice p2 n2 c2],boxA b1 42 [.bool s,.slice p1 n1 c1]]) 100000 mixed (.block (.then (.block (.then .ret)))) kr<|e_dm 0 rfl rfl rfl<|e_dm 1 rfl rfl rfl<|e_dm 2 rfl rfl rfl<|e_pv 3 rfl rfl (zeb (z:=(((q%r):Nat):Int)) rfl rfl om (remN om om))<|e_pv 4 rfl rfl (zh rfl)<|e_pv 5 rfl rfl (zh rfl)<|zM kr<|zK<|zwa (r,(q%r)) (show Nat.gcd r (q%r)=Nat.gcd a b∧r<1000000000000000000∧(q%r)<1000000000000000000 from by exact ⟨by rw [Big.gcd_rest,hgq],hr18,by omega⟩) (by exact Nat.mod_lt q om) ((.of rfl):SubM _ _) (ho:=((.of [0,0,0] rfl):PickO _ _ _)) ((.of [0,1,2,3,4,5] rfl):SelR _ _ _)
    ·
     have hrz:r=0:=by omega
     have hfin:q=Nat.gcd (yg s l1).natAbs (yg t l2).natAbs:=by rw [← hgc,←hgq,hrz,Nat.gcd_zero_right]
     obtain ⟨ht1,ht2⟩:=Big.two_val hq18
     refine zla<|zn<|zn<|zC<|zf<|zj<|zc<|e_mv rfl<|e_p (zeb (z:=(((q%1000000000):Nat):Int)) rfl rfl om (remN om om))<|e_p (zH (z:=(((q%1000000000):Nat):Int)) rfl (by rw [yl];rfl) ym (wu32 om))<|e_mv rfl<|e_p (zdb (z:=(((q / 1000000000):Nat):Int)) rfl rfl om (by rw [quoN (z:=(((q / 1000000000):Nat):Int)) om om];exact wu64 om))<|e_p (zH (z:=(((q / 1000000000):Nat):Int)) rfl (by rw [yl];rfl) ym (wu32 om))<|zJa rfl rfl (zQ (enc:=fun z:Int=>[.int .u32 z]) (ok:=InK .u32) (h1:=fun _=>rfl) (h2:=fun _=>rfl) (k:=2) yh inf131 rfl dd dd dd (.c (x:=(((q%1000000000):Nat):Int)) rfl rfl (fun _ _=>by exact zE.2 om) (.c (x:=(((q / 1000000000):Nat):Int)) rfl rfl (fun _ _=>by exact zE.2 om) .n))) (fun b16 _=> ?_)
     refine zqa 0 rfl .z<|zG rfl rfl (.c rfl (.c rfl .n)) ce91 (zSa (s:=false) (p:=some ⟨b16,0,none⟩) (n:=2) (cap:=2) (l:=[(((q%1000000000):Nat):Int),(((q / 1000000000):Nat):Int)]) (hn:=by first|rfl|omega|(simp;done)|(simp;omega)) (ho:=by exact ht1) (hln:=by first|rfl|omega|(simp;done)|(simp;omega))) (.c (j:=0) rfl .n) ?_
     rintro ⟨p217,c218⟩ -
     dsimp only [aq,nq,cq]
     refine zl 1 rfl rfl rfl rfl rfl sz42 rfl (.t2 .nil) (.s .z)<|zk<|zf<|zR ?_
     exact zL Tryz.results68 (p217,c218) trivial (zr 1 ty42 rfl rfl (.t2 .nil)) (by rw [ht2,←hfin];rfl) (ho:=(.n:PickO _ _ _)) ((.e (j:=0) rfl (by rw [ht2,←hfin];rfl) .n):SelR _ _ _)
theorem zcf {x1:Int} {x2:Int} {p1:Option Addr} {c1:Nat} {p2:Option Addr} {c2:Nat} (hb1:yn x1≤549755813888) (hb2:yn x2≤549755813888):Con yj 68 [.agg #[.bool (decide ((x1)<0)),.slice (p1) ((yf ((x1).natAbs)).length) (c1)],.agg #[.bool (decide ((x2)<0)),.slice (p2) ((yf ((x2).natAbs)).length) (c2)]] [] [slF (rI .u32) (p1) (c1) (yf ((x1).natAbs)),slF (rI .u32) (p2) (c2) (yf ((x2).natAbs))] (Y:=(Option Addr)×(Nat)) (fun y=>True) (fun y=> .agg #[.bool (decide ((((Nat.gcd x1.natAbs x2.natAbs:Nat):Int))<0)),.slice (y.1) ((yf ((((Nat.gcd x1.natAbs x2.natAbs:Nat):Int)).natAbs)).length) (y.2)]) (fun y=>[]) (fun y=>[slF (rI .u32) (y.1) (y.2) (yf ((((Nat.gcd x1.natAbs x2.natAbs:Nat):Int)).natAbs))]):=by
  have h:= @zre (decide ((x1)<0)) p1 (yf (x1).natAbs).length c1 (yf (x1).natAbs) (decide ((x2)<0)) p2 (yf (x2).natAbs).length c2 (yf (x2).natAbs) rfl rfl hb1 hb2
  rw [yv,yv] at h
  exact h
theorem zdf {w1:Wd} {w2:Wd} {x1:Int} {x2:Int} (hb1:yn x1≤549755813888) (hb2:yn x2≤549755813888):Con yj 68 [.agg #[w1.b,w1.l],.agg #[w2.b,w2.l]] [] [zF w1 (x1),zF w2 (x2)] (Y:=(Wd)) (fun y=>True) (fun y=> .agg #[y.b,y.l]) (fun y=>[]) (fun y=>[zF y (((Nat.gcd x1.natAbs x2.natAbs:Nat):Int))]):=by
  exact zac (zBc (fun p1 c1 p2 c2=>zcf hb1 hb2))
theorem zSd {s:Bool} {p1:Option Addr} {n1:Nat} {c1:Nat} {l1:List Int} {t:Bool} {p2:Option Addr} {n2:Nat} {c2:Nat} {l2:List Int} (hn1:l1.length=n1) (hn2:l2.length=n2) (hm1:n1≤549755813888) (hm2:n2≤549755813888):Con yj 67 [.agg #[.bool s,.slice p1 n1 c1],.agg #[.bool t,.slice p2 n2 c2]] [] [slF (rI .u32) p1 c1 l1,slF (rI .u32) p2 c2 l2] (Y:=Unit) (fun y=>True) (fun y=> yc yd ((yg s l1 - yg t l2).sign)) (fun y=>[]) (fun y=>[]):=by
 refine zx Tryz.func67 rfl rfl rfl (fun c=> ?_)
 show RunC _ _ _ _ _ [(0,.agg #[.bool s,.slice p1 n1 c1]),(1,.agg #[.bool t,.slice p2 n2 c2])] [] [slF (rI .u32) p1 c1 l1,slF (rI .u32) p2 c2 l2]
 refine zpa 0 rfl (fun hL0=> ?_)
 refine zfb 0 rfl (fun hE0=> ?_)
 refine zpa 1 rfl (fun hL1=> ?_)
 refine zfb 1 rfl (fun hE1=> ?_)
 have hnn1:yK l1:=fun g hg=>(zE.1 (hE0 g hg)).1
 have hnn2:yK l2:=fun g hg=>(zE.1 (hE1 g hg)).1
 have hb1:yn (yg s l1)≤n1:=by have:=yF (s:=s) hnn1;omega
 have hb2:yn (yg t l2)≤n2:=by have:=yF (s:=t) hnn2;omega
 unfold yn at hb1 hb2
 have hls:=Big.ln_sub (yg s l1) (yg t l2)
 unfold yn at hls
 refine zj<|zc<|zJ rfl rfl (zda rfl rfl) (fun b1=> ?_)
 refine zJ rfl rfl (zda rfl rfl) (fun b2=> ?_)
 refine e_p (zh rfl)<|zk<|zf<|zj<|zc<|e_ru (zd 1 ty42 rfl rfl (.t2 .nil))<|e_ru (zd 0 ty42 rfl rfl (.t2 .nil))<|zG rfl rfl (.c rfl (.c rfl .n)) ce98 (zqe (s:=s) (p1:=p1) (n1:=n1) (c1:=c1) (l1:=l1) (t:=t) (p2:=p2) (n2:=n2) (c2:=c2) (l2:=l2) (hn1:=ass) (hn2:=ass) (hm1:=by first|rfl|assumption|omega|(unfold yn;omega)) (hm2:=by first|rfl|assumption|omega|(unfold yn;omega))) (.c (j:=0) rfl (.c (j:=1) rfl .n)) ?_
 rintro ⟨p33,c34⟩ -
 dsimp only [aq,nq,cq]
 refine zV rfl rfl (.c rfl .n) ce66 (zjd (z:=yg s l1 - yg t l2) (p:=p33) (cap:=c34) (hln:=by first|rfl|assumption|omega|(unfold yn;omega))) (.c (j:=0) rfl .n)<|e_p (zh rfl)<|zk<|zf<|zR ?_
 exact zL Tryz.results67 () trivial (zD rfl) rfl (ho:=(.n:PickO _ _ _)) (.n:SelR _ _ _)
theorem zwd {x1:Int} {x2:Int} {p1:Option Addr} {c1:Nat} {p2:Option Addr} {c2:Nat} (hb1:yn x1≤549755813888) (hb2:yn x2≤549755813888):Con yj 67 [.agg #[.bool (decide ((x1)<0)),.slice (p1) ((yf ((x1).natAbs)).length) (c1)],.agg #[.bool (decide ((x2)<0)),.slice (p2) ((yf ((x2).natAbs)).length) (c2)]] [] [slF (rI .u32) (p1) (c1) (yf ((x1).natAbs)),slF (rI .u32) (p2) (c2) (yf ((x2).natAbs))] (Y:=Unit) (fun y=>True) (fun y=> yc yd ((x1 - x2).sign)) (fun y=>[]) (fun y=>[]):=by
  have h:= @zSd (decide ((x1)<0)) p1 (yf (x1).natAbs).length c1 (yf (x1).natAbs) (decide ((x2)<0)) p2 (yf (x2).natAbs).length c2 (yf (x2).natAbs) rfl rfl hb1 hb2
  rw [yv,yv] at h
  exact h
theorem zTd {x1:Int} {x2:Int} {p1:Option Addr} {c1:Nat} {p2:Option Addr} {c2:Nat} (hb1:yn x1≤274877906944) (hb2:yn x2≤274877906944) (hy:x2≠0):Con yj 89 [.agg #[.bool (decide (x1<0)),.slice p1 ((yf ((x1).natAbs)).length) c1],.agg #[.bool (decide (x2<0)),.slice p2 ((yf ((x2).natAbs)).length) c2]] [] [slF (rI .u32) p1 c1 (yf ((x1).natAbs)),slF (rI .u32) p2 c2 (yf ((x2).natAbs))] (Y:=(Option Addr)×Nat×(Option Addr)×Nat) (fun y=>True) (fun y=> .tuple #[.agg #[.bool (decide ((yB x1 x2)<0)),.slice (y.1) ((yf ((yB x1 x2).natAbs)).length) (y.2.1)],.agg #[.bool (decide ((yV x1 x2)<0)),.slice (y.2.2.1) ((yf ((yV x1 x2).natAbs)).length) (y.2.2.2)],yc yd 0]) (fun y=>[]) (fun y=>[slF (rI .u32) (y.1) (y.2.1) (yf ((yB x1 x2).natAbs)),slF (rI .u32) (y.2.2.1) (y.2.2.2) (yf ((yV x1 x2).natAbs))]):=by
 refine zx Tryz.func89 rfl rfl rfl (fun c=> ?_)
 show RunC _ _ _ _ _ [(0,.agg #[.bool (decide (x1<0)),.slice p1 ((yf ((x1).natAbs)).length) c1]),(1,.agg #[.bool (decide (x2<0)),.slice p2 ((yf ((x2).natAbs)).length) c2])] [] [slF (rI .u32) p1 c1 (yf ((x1).natAbs)),slF (rI .u32) p2 c2 (yf ((x2).natAbs))]
 refine zpa 0 rfl (fun hL0=> ?_)
 refine zpa 1 rfl (fun hL1=> ?_)
 have hfl:=Big.ln_fq (x:=x1) hy
 have hml:=Big.zab (yB x1 x2) x2
 unfold yn at hb1 hb2 hfl hml
 have hd1:=Nat.div_le_self x1.natAbs x2.natAbs
 have hd2:=Nat.mod_lt x1.natAbs (show 0<x2.natAbs by omega)
 have hl1:=yA hd1
 have hl2:=yA (Nat.le_of_lt hd2)
 refine zj<|zc<|zJ rfl rfl (zda rfl rfl) (fun b1=> ?_)
 refine zJ rfl rfl (zda rfl rfl) (fun b2=> ?_)
 refine zJ rfl rfl (zp zr42 rfl) (fun b3=> ?_)
 refine zJ rfl rfl (zp zr42 rfl) (fun b4=> ?_)
 refine e_p (zh rfl)<|zk<|zf<|zj<|zba (.c (i:=3) rfl (.c (i:=2) rfl (.c (i:=0) rfl (.c (i:=0) rfl .n))))<|zO (OW:=[boxA b1 42 [.bool (decide (x1<0)),.slice p1 ((yf ((x1).natAbs)).length) c1],boxA b2 42 [.bool (decide (x2<0)),.slice p2 ((yf ((x2).natAbs)).length) c2]]) (O:=[boxA b4 42 [wz.b,wz.l],boxA b3 42 [wz.b,wz.l]]) 4 mixed (.then .ret) kr<|e_uw 0 rfl rfl (zd 0 ty42 rfl rfl (.t2 .nil))<|e_uw 2 rfl rfl (zd 1 ty42 rfl rfl (.t2 .nil))<|e_one 1 (zm rfl rfl rfl rfl (.c rfl .n) ce90 (zUc (z:=x1) (p:=p1) (cap:=c1) (hln:=by first|rfl|assumption|omega|(unfold yn;omega)|(unfold yn;rw [hsq];omega)|(decide +kernel))) (.c (j:=0) rfl .n) ?_)
 rintro ⟨p25,c26⟩ -
 dsimp only [aq,nq,cq]
 refine e_one 3 (zm rfl rfl rfl rfl (.c rfl .n) ce90 (zUc (z:=x2) (p:=p2) (cap:=c2) (hln:=by first|rfl|assumption|omega|(unfold yn;omega)|(unfold yn;rw [hsq];omega)|(decide +kernel))) (.c (j:=2) rfl .n) ?_)
 rintro ⟨p27,c28⟩ -
 dsimp only [aq,nq,cq]
 refine e_one 4 (zo kr rfl rfl rfl rfl rfl sz42 rfl (.t2 .nil) ?_)
 refine zcb (zta (i:=1) rfl)<|e_one 5 (zo kr rfl rfl rfl rfl rfl sz42 rfl (.t2 .nil) ?_)
 refine zM kr<|zf<|zj<|zj<|zc<|e_p (zg yi rfl sz40 rfl rfl)<|e_ru (ze 0 ty40 rfl rfl rfl)<|e_p (zea yh rfl)<|e_p (zMa rfl rfl)<|zk<|zf<|zT rfl (fun h9=> ?_) (fun h9=> ?_)
 ·
  exact absurd (yI.1 (show (yf x2.natAbs).length=0 by omega)) om
 ·
  refine zB<|zf<|zj<|zc<|e_p (zg yi rfl sz40 rfl rfl)<|e_ru (ze 1 ty40 rfl rfl rfl)<|e_p (zg yi rfl sz40 rfl rfl)<|e_ru (ze 0 ty40 rfl rfl rfl)<|zG rfl rfl (.c rfl (.c rfl .n)) ce99 (zld (a:=(x1).natAbs) (b:=(x2).natAbs) (p1:=p25) (c1:=c26) (p2:=p27) (c2:=c28) (hb1:=by first|rfl|assumption|omega|(unfold yn;omega)|(unfold yn;rw [hsq];omega)|(decide +kernel)) (hb2:=by first|rfl|assumption|omega|(unfold yn;omega)|(unfold yn;rw [hsq];omega)|(decide +kernel)) (hb0:=by first|rfl|assumption|omega|(unfold yn;omega)|(unfold yn;rw [hsq];omega)|(decide +kernel))) (.c (j:=1) rfl (.c (j:=0) rfl .n)) ?_
  rintro ⟨p310,c311,p412,c413⟩ -
  dsimp only [aq,nq,cq]
  refine e_mv rfl<|e_p (zw rfl rfl)<|e_p (zw rfl rfl)<|e_p (zh rfl)<|e_p (zh rfl)<|zk<|zf<|zj ?_
  obtain ⟨Q,hQ⟩:∃z,z=((x1).natAbs) / ((x2).natAbs):=⟨_,rfl⟩
  rw [← hQ]
  obtain ⟨R0,hR0⟩:∃z,z=((x1).natAbs)%((x2).natAbs):=⟨_,rfl⟩
  rw [← hR0]
  rw [← hQ] at hl1
  rw [← hR0] at hl2
  have hsq:(yz (decide (decide (x1<0)≠decide (x2<0))) (Q:Int)).natAbs=Q:=by rw [yT om];exact Int.toNat_natCast _
  refine zc<|e_p (zg yi rfl sz4 rfl rfl)<|e_ru (ze 1 ty4 rfl rfl rfl)<|e_p (zg yi rfl sz4 rfl rfl)<|e_ru (ze 0 ty4 rfl rfl rfl)<|e_p (zUa yJ rfl rfl)<|e_mv rfl<|zG rfl rfl (.c rfl (.c rfl .n)) ce91 (ztb (s:=decide (decide (x1<0)≠decide (x2<0))) (a:=Q) (p:=p310) (cap:=c311) (hln:=by first|rfl|assumption|omega|(unfold yn;omega)|(unfold yn;rw [hsq];omega)|(decide +kernel))) (.c (j:=0) rfl .n) ?_
  rintro ⟨p214,c215⟩ -
  dsimp only [aq,nq,cq]
  refine zJ rfl rfl (zp zr42 rfl) (fun b16=> ?_)
  refine zl 0 rfl rfl rfl rfl rfl sz42 rfl (.t2 .nil) .z<|zk<|zf<|zj<|zj<|zc<|e_p (zg yi rfl sz4 rfl rfl)<|e_ru (ze 2 ty4 rfl rfl rfl)<|e_p (zg yi rfl sz4 rfl rfl)<|e_ru (ze 1 ty4 rfl rfl rfl)<|e_p (zUa yJ rfl rfl)<|zsa rfl rfl (zva rfl) (fun hsd=> ?_) (fun hsd=> ?_)
  ·
   refine e_mv rfl<|e_p (zea yh rfl)<|e_p (zZa rfl rfl)<|e_p (zU rfl rfl)<|zk<|zf<|zT rfl (fun hadj=> ?_) (fun hadj=> ?_)
   ·
    have hr0:x1.natAbs%x2.natAbs≠0:=fun e=>by rw [hR0,e,Big.digs_zero] at hadj;exact absurd hadj dd
    have hqz:yz (decide (decide (x1<0)≠decide (x2<0))) (Q:Int) - 1=yB x1 x2:=by have h9:=(Big.fq_odd hy hsd hr0).1;rw [← h9,decide_eq_true hsd,hQ,Big.sg_t,Big.sg_t];omega
    refine zO (OW:=[boxA b16 42 [.bool (decide ((yz (decide (decide (x1<0)≠decide (x2<0))) (Q:Int))<0)),.slice p214 ((yf ((yz (decide (decide (x1<0)≠decide (x2<0))) (Q:Int)).natAbs)).length) c215]]) (O:=[boxA b2 42 [.bool (decide (x2<0)),.slice p27 ((yf ((x2).natAbs)).length) c28],boxA b1 42 [.bool (decide (x1<0)),.slice p25 ((yf ((x1).natAbs)).length) c26],boxA b4 42 [wz.b,wz.l],boxA b3 42 [wz.b,wz.l]]) 3 mixed (.then .ret) kr<|e_uw 0 rfl rfl (zd 0 ty42 rfl rfl (.t2 .nil))<|e_one 1 (zm rfl rfl rfl rfl (.c rfl .n) ce87 (zXe (z:=1) (hz:=by first|rfl|assumption|omega|(unfold yn;omega)|(unfold yn;rw [hsq];omega)|(decide +kernel))) (.n) ?_)
    rintro ⟨p217,c218⟩ -
    dsimp only [aq,nq,cq]
    refine e_one 2 (zm rfl rfl rfl rfl (.c rfl (.c rfl .n)) ce98 (zrc (x1:=yz (decide (decide (x1<0)≠decide (x2<0))) (Q:Int)) (x2:=1) (p1:=p214) (c1:=c215) (p2:=p217) (c2:=c218) (hb1:=by first|rfl|assumption|omega|(unfold yn;omega)|(unfold yn;rw [hsq];omega)|(decide +kernel)) (hb2:=by first|rfl|assumption|omega|(unfold yn;omega)|(unfold yn;rw [hsq];omega)|(decide +kernel))) (.c (j:=1) rfl (.c (j:=0) rfl .n)) ?_)
    rintro ⟨p319,c320⟩ -
    dsimp only [aq,nq,cq]
    refine e_one 3 (zo kr rfl rfl rfl rfl rfl sz42 rfl (.t2 .nil) ?_)
    refine zM kr<|zf<|zj ?_
    have e21:(yz (decide (decide (x1<0)≠decide (x2<0))) (Q:Int)) - 1=yB x1 x2:=by exact hqz
    rw [e21]
    refine zba (.c (i:=4) rfl (.c (i:=3) rfl (.c (i:=0) rfl (.c (i:=0) rfl (.c (i:=0) rfl .n)))))<|zO (OW:=[boxA b3 42 [wz.b,wz.l],boxA b4 42 [wz.b,wz.l]]) (O:=[boxA b16 42 [.bool (decide ((yB x1 x2)<0)),.slice p319 ((yf ((yB x1 x2).natAbs)).length) c320],boxA b2 42 [.bool (decide (x2<0)),.slice p27 ((yf ((x2).natAbs)).length) c28],boxA b1 42 [.bool (decide (x1<0)),.slice p25 ((yf ((x1).natAbs)).length) c26]]) 6 mixed (.then .ret) kr<|e_uw 0 rfl rfl (zd 2 ty42 rfl rfl (.t2 .nil))<|e_uw 1 rfl rfl (zd 4 ty42 rfl rfl (.t2 .nil))<|e_uw 2 rfl rfl (zd 2 ty42 rfl rfl (.t2 .nil))<|e_uw 3 rfl rfl (zd 3 ty42 rfl rfl (.t2 .nil))<|e_one 4 (zm rfl rfl rfl rfl (.c rfl (.c rfl .n)) ce60 (zsc (x1:=yB x1 x2) (x2:=x2) (p1:=p319) (c1:=c320) (p2:=p27) (c2:=c28) (hb1:=by first|rfl|assumption|omega|(unfold yn;omega)|(unfold yn;rw [hsq];omega)|(decide +kernel)) (hb2:=by first|rfl|assumption|omega|(unfold yn;omega)|(unfold yn;rw [hsq];omega)|(decide +kernel))) (.c (j:=0) rfl (.c (j:=5) rfl .n)) ?_)
    rintro ⟨p322,c323⟩ -
    dsimp only [aq,nq,cq]
    refine e_one 5 (zm rfl rfl rfl rfl (.c rfl (.c rfl .n)) ce98 (zrc (x1:=x1) (x2:=(yB x1 x2)*x2) (p1:=p25) (c1:=c26) (p2:=p322) (c2:=c323) (hb1:=by first|rfl|assumption|omega|(unfold yn;omega)|(unfold yn;rw [hsq];omega)|(decide +kernel)) (hb2:=by first|rfl|assumption|omega|(unfold yn;omega)|(unfold yn;rw [hsq];omega)|(decide +kernel))) (.c (j:=7) rfl (.c (j:=0) rfl .n)) ?_)
    rintro ⟨p324,c325⟩ -
    dsimp only [aq,nq,cq]
    refine e_one 6 (zo kr rfl rfl rfl rfl rfl sz42 rfl (.t2 .nil) ?_)
    refine zcb (zta (i:=1) rfl)<|e_one 7 (zo kr rfl rfl rfl rfl rfl sz42 rfl (.t2 .nil) ?_)
    refine e_pv 8 rfl rfl (zh rfl)<|zM kr<|zf<|zR ?_
    have hz2:x1 - yB x1 x2*x2=yV x1 x2:=by unfold yV;rw [Int.mul_comm]
    exact zbd Tryz.results89 (p319,c320,p324,c325) trivial (zr 1 ty42 rfl rfl (.t2 .nil)) (zr 0 ty42 rfl rfl (.t2 .nil)) (zD rfl) (by rw [hz2]) (ho:=(.n:PickO _ _ _)) ((.c (j:=2) rfl (.e (j:=0) rfl (by rw [hz2]) .n)):SelR _ _ _)
   ·
    have hr0:x1.natAbs%x2.natAbs=0:=yI.1 (by rw [← hR0];omega)
    have hqz:yz (decide (decide (x1<0)≠decide (x2<0))) (Q:Int)=yB x1 x2:=by rw [decide_eq_true hsd,hQ];exact (Big.fq_even hy hsd hr0).1
    refine zB<|zf<|zj ?_
    have e26:yz (decide (decide (x1<0)≠decide (x2<0))) (Q:Int)=yB x1 x2:=by exact hqz
    rw [e26]
    refine zba (.c (i:=4) rfl (.c (i:=3) rfl (.c (i:=0) rfl (.c (i:=0) rfl (.c (i:=0) rfl .n)))))<|zO (OW:=[boxA b3 42 [wz.b,wz.l],boxA b4 42 [wz.b,wz.l]]) (O:=[boxA b16 42 [.bool (decide ((yB x1 x2)<0)),.slice p214 ((yf ((yB x1 x2).natAbs)).length) c215],boxA b2 42 [.bool (decide (x2<0)),.slice p27 ((yf ((x2).natAbs)).length) c28],boxA b1 42 [.bool (decide (x1<0)),.slice p25 ((yf ((x1).natAbs)).length) c26]]) 6 mixed (.then .ret) kr<|e_uw 0 rfl rfl (zd 2 ty42 rfl rfl (.t2 .nil))<|e_uw 1 rfl rfl (zd 4 ty42 rfl rfl (.t2 .nil))<|e_uw 2 rfl rfl (zd 2 ty42 rfl rfl (.t2 .nil))<|e_uw 3 rfl rfl (zd 3 ty42 rfl rfl (.t2 .nil))<|e_one 4 (zm rfl rfl rfl rfl (.c rfl (.c rfl .n)) ce60 (zsc (x1:=yB x1 x2) (x2:=x2) (p1:=p214) (c1:=c215) (p2:=p27) (c2:=c28) (hb1:=by first|rfl|assumption|omega|(unfold yn;omega)|(unfold yn;rw [hsq];omega)|(decide +kernel)) (hb2:=by first|rfl|assumption|omega|(unfold yn;omega)|(unfold yn;rw [hsq];omega)|(decide +kernel))) (.c (j:=0) rfl (.c (j:=3) rfl .n)) ?_)
    rintro ⟨p327,c328⟩ -
    dsimp only [aq,nq,cq]
    refine e_one 5 (zm rfl rfl rfl rfl (.c rfl (.c rfl .n)) ce98 (zrc (x1:=x1) (x2:=(yB x1 x2)*x2) (p1:=p25) (c1:=c26) (p2:=p327) (c2:=c328) (hb1:=by first|rfl|assumption|omega|(unfold yn;omega)|(unfold yn;rw [hsq];omega)|(decide +kernel)) (hb2:=by first|rfl|assumption|omega|(unfold yn;omega)|(unfold yn;rw [hsq];omega)|(decide +kernel))) (.c (j:=5) rfl (.c (j:=0) rfl .n)) ?_)
    rintro ⟨p329,c330⟩ -
    dsimp only [aq,nq,cq]
    refine e_one 6 (zo kr rfl rfl rfl rfl rfl sz42 rfl (.t2 .nil) ?_)
    refine zcb (zta (i:=1) rfl)<|e_one 7 (zo kr rfl rfl rfl rfl rfl sz42 rfl (.t2 .nil) ?_)
    refine e_pv 8 rfl rfl (zh rfl)<|zM kr<|zf<|zR ?_
    have hz2:x1 - yB x1 x2*x2=yV x1 x2:=by unfold yV;rw [Int.mul_comm]
    exact zbd Tryz.results89 (p214,c215,p329,c330) trivial (zr 1 ty42 rfl rfl (.t2 .nil)) (zr 0 ty42 rfl rfl (.t2 .nil)) (zD rfl) (by rw [hz2]) (ho:=(.n:PickO _ _ _)) ((.c (j:=2) rfl (.e (j:=0) rfl (by rw [hz2]) .n)):SelR _ _ _)
  ·
   have hs9:=Decidable.not_not.1 hsd
   have hqz:yz (decide (decide (x1<0)≠decide (x2<0))) (Q:Int)=yB x1 x2:=by rw [decide_eq_false hsd,hQ];exact (Big.fq_same hy hs9).1
   refine e_no<|e_no<|e_no<|e_p (zU rfl rfl)<|zk<|zf<|zua rfl rfl<|zB<|zf<|zj ?_
   have e31:yz (decide (decide (x1<0)≠decide (x2<0))) (Q:Int)=yB x1 x2:=by exact hqz
   rw [e31]
   refine zba (.c (i:=4) rfl (.c (i:=3) rfl (.c (i:=0) rfl (.c (i:=0) rfl (.c (i:=0) rfl .n)))))<|zO (OW:=[boxA b3 42 [wz.b,wz.l],boxA b4 42 [wz.b,wz.l]]) (O:=[boxA b16 42 [.bool (decide ((yB x1 x2)<0)),.slice p214 ((yf ((yB x1 x2).natAbs)).length) c215],boxA b2 42 [.bool (decide (x2<0)),.slice p27 ((yf ((x2).natAbs)).length) c28],boxA b1 42 [.bool (decide (x1<0)),.slice p25 ((yf ((x1).natAbs)).length) c26]]) 6 mixed (.then .ret) kr<|e_uw 0 rfl rfl (zd 2 ty42 rfl rfl (.t2 .nil))<|e_uw 1 rfl rfl (zd 4 ty42 rfl rfl (.t2 .nil))<|e_uw 2 rfl rfl (zd 2 ty42 rfl rfl (.t2 .nil))<|e_uw 3 rfl rfl (zd 3 ty42 rfl rfl (.t2 .nil))<|e_one 4 (zm rfl rfl rfl rfl (.c rfl (.c rfl .n)) ce60 (zsc (x1:=yB x1 x2) (x2:=x2) (p1:=p214) (c1:=c215) (p2:=p27) (c2:=c28) (hb1:=by first|rfl|assumption|omega|(unfold yn;omega)|(unfold yn;rw [hsq];omega)|(decide +kernel)) (hb2:=by first|rfl|assumption|omega|(unfold yn;omega)|(unfold yn;rw [hsq];omega)|(decide +kernel))) (.c (j:=0) rfl (.c (j:=3) rfl .n)) ?_)
   rintro ⟨p332,c333⟩ -
   dsimp only [aq,nq,cq]
   refine e_one 5 (zm rfl rfl rfl rfl (.c rfl (.c rfl .n)) ce98 (zrc (x1:=x1) (x2:=(yB x1 x2)*x2) (p1:=p25) (c1:=c26) (p2:=p332) (c2:=c333) (hb1:=by first|rfl|assumption|omega|(unfold yn;omega)|(unfold yn;rw [hsq];omega)|(decide +kernel)) (hb2:=by first|rfl|assumption|omega|(unfold yn;omega)|(unfold yn;rw [hsq];omega)|(decide +kernel))) (.c (j:=5) rfl (.c (j:=0) rfl .n)) ?_)
   rintro ⟨p334,c335⟩ -
   dsimp only [aq,nq,cq]
   refine e_one 6 (zo kr rfl rfl rfl rfl rfl sz42 rfl (.t2 .nil) ?_)
   refine zcb (zta (i:=1) rfl)<|e_one 7 (zo kr rfl rfl rfl rfl rfl sz42 rfl (.t2 .nil) ?_)
   refine e_pv 8 rfl rfl (zh rfl)<|zM kr<|zf<|zR ?_
   have hz2:x1 - yB x1 x2*x2=yV x1 x2:=by unfold yV;rw [Int.mul_comm]
   exact zbd Tryz.results89 (p214,c215,p334,c335) trivial (zr 1 ty42 rfl rfl (.t2 .nil)) (zr 0 ty42 rfl rfl (.t2 .nil)) (zD rfl) (by rw [hz2]) (ho:=(.n:PickO _ _ _)) ((.c (j:=2) rfl (.e (j:=0) rfl (by rw [hz2]) .n)):SelR _ _ _)
theorem zyb {w1:Wd} {w2:Wd} {x1:Int} {x2:Int} (hb1:yn x1≤274877906944) (hb2:yn x2≤274877906944) (hy:x2≠0):Con yj 89 [.agg #[w1.b,w1.l],.agg #[w2.b,w2.l]] [] [zF w1 (x1),zF w2 (x2)] (Y:=(Wd)×(Wd)) (fun y=>True) (fun y=> .tuple #[.agg #[y.1.b,y.1.l],.agg #[y.2.b,y.2.l],yc yd (0)]) (fun y=>[]) (fun y=>[zF y.1 (yB x1 x2),zF y.2 (yV x1 x2)]):=by
  exact zSe (zBc (fun p1 c1 p2 c2=>zTd hb1 hb2 hy))
end Go.Proofs.YtjeahiahjgifgaaGreatDoor.Sp
namespace Go.Proofs.YtjeahiahjgifgaaGreatDoor.Sp
open Go
set_option linter.unusedVariables false
set_option maxRecDepth 100000
set_option maxHeartbeats 8000000
theorem zmd {z:Int} (hz: -9223372036854775808≤z∧z≤9223372036854775807):Con yj 56 [yc yd z] [] [] (Y:=(Option Addr)×Nat) (fun y=>True) (fun y=> .agg #[.bool (decide (z<0)),.slice (y.1) ((yf ((z).natAbs)).length) (y.2)]) (fun y=>[]) (fun y=>[slF (rI .u32) (y.1) (y.2) (yf ((z).natAbs))]):=by
 refine zx Tryz.func56 rfl rfl rfl (fun c=> ?_)
 show RunC _ _ _ _ _ [(0,yc yd z)] [] []
 refine zj<|zc<|zJ rfl rfl (zp zr42 rfl) (fun b1=> ?_)
 refine zk<|zf<|zj<|zc<|e_mv rfl<|zG rfl rfl (.c rfl .n) ce87 (zXe (z:=z) (hz:=ass)) (.n) ?_
 rintro ⟨p22,c23⟩ -
 dsimp only [aq,nq,cq]
 refine zl 0 rfl rfl rfl rfl rfl sz42 rfl (.t2 .nil) .z<|zk<|zf<|zR ?_
 exact zL Tryz.results56 (p22,c23) trivial (zr 0 ty42 rfl rfl (.t2 .nil)) rfl (ho:=(.n:PickO _ _ _)) ((.c (j:=0) rfl .n):SelR _ _ _)
theorem zMb {z:Int} (hz: -9223372036854775808≤z∧z≤9223372036854775807):Con yj 56 [yc yd (z)] [] [] (Y:=(Wd)) (fun y=>True) (fun y=> .agg #[y.b,y.l]) (fun y=>[]) (fun y=>[zF y (z)]):=by
  exact zac (zmd hz)
theorem zub {z:Int} (hz: -9223372036854775808≤z∧z≤9223372036854775807):Con yj 22 [yc yd z] [] [] (Y:=Wd×Wd) (fun y=>True) (fun y=> .agg #[y.1.b,y.1.l,y.2.b,y.2.l]) (fun y=>[]) (fun y=>[qF true y.1 y.2 ((z:Int):Rat)]):=by
 refine zx Tryz.func22 rfl rfl rfl (fun c=> ?_)
 show RunC _ _ _ _ _ [(0,yc yd z)] [] []
 refine zj<|zc<|zJ rfl rfl (zp zr44 rfl) (fun b1=> ?_)
 refine zk<|zf<|zj<|zc<|e_mv rfl<|zG rfl rfl (.c rfl .n) ce56 (zMb (z:=z) (hz:=ass)) (.n) ?_
 rintro w32 -
 dsimp only [aq,nq,cq]
 refine zG rfl rfl (.c rfl .n) ce56 (zMb (z:=1) (hz:=by first|rfl|assumption|omega|(rw [yu];omega)|(decide +kernel))) (.n) ?_
 rintro w33 -
 dsimp only [aq,nq,cq]
 refine e_p (zv zr44 rfl yo (.c sz42 (.c sz42 .n)) (.c rfl (.c rfl .n)) (.c rfl rfl rfl (.t2 .nil) (.c rfl rfl rfl (.s2 (.t2 .nil)) .n)))<|zl 0 rfl rfl rfl rfl rfl sz44 rfl (.t4 .nil) .z<|zk<|zf<|zR<|zbb (qF true w32 w33 ((z:Int):Rat)) (qF_close 1 0 rfl rfl (by exact ⟨(Rat.num_intCast z).symm,by rw [Rat.den_intCast];rfl,Nat.le_trans (Big.hq_64 hz.1 hz.2) dd⟩)) ?_
 exact zL Tryz.results22 (w32,w33) trivial (zr 0 ty44 rfl rfl (.t4 .nil)) rfl (ho:=(.n:PickO _ _ _)) ((.c (j:=0) rfl .n):SelR _ _ _)
theorem zXc {s:Bool} {p1:Option Addr} {n1:Nat} {c1:Nat} {l1:List Int} {t:Bool} {p2:Option Addr} {n2:Nat} {c2:Nat} {l2:List Int} (hn1:l1.length=n1) (hn2:l2.length=n2) (hm1:n1≤1048576) (hm2:n2≤1048576):Con yj 31 [.agg #[.bool s,.slice p1 n1 c1,.bool t,.slice p2 n2 c2]] [] [slF (rI .u32) p1 c1 l1,slF (rI .u32) p2 c2 l2] (Y:=Unit) (fun y=>True) (fun y=> .bool (decide (Big.qok ((s,l1),(t,l2))))) (fun y=>[]) (fun y=>[]):=by
 refine zx Tryz.func31 rfl rfl rfl (fun c=> ?_)
 show RunC _ _ _ _ _ [(0,.agg #[.bool s,.slice p1 n1 c1,.bool t,.slice p2 n2 c2])] [] [slF (rI .u32) p1 c1 l1,slF (rI .u32) p2 c2 l2]
 refine zpa 0 rfl (fun hL0=> ?_)
 refine zfb 0 rfl (fun hE0=> ?_)
 refine zpa 1 rfl (fun hL1=> ?_)
 refine zfb 1 rfl (fun hE1=> ?_)
 have hnn1:yK l1:=fun g hg=>(zE.1 (hE0 g hg)).1
 have hnn2:yK l2:=fun g hg=>(zE.1 (hE1 g hg)).1
 have hb1:yn (yg s l1)≤n1:=by have:=yF (s:=s) hnn1;omega
 have hb2:yn (yg t l2)≤n2:=by have:=yF (s:=t) hnn2;omega
 refine zj<|zc<|zJ rfl rfl (zda rfl rfl) (fun b1=> ?_)
 refine e_p (zh rfl)<|zk<|zf<|zj<|zIa (X:=Unit) (fun x=>True) (fun x=>[(18,.bool (decide (¬(Big.canon s l1∧Big.canon t l2∧0<yg t l2)))),(2,.bool false),(1,ye (some ⟨b1,0,none⟩))]) (fun x=>[boxA b1 44 [.bool s,.slice p1 n1 c1,.bool t,.slice p2 n2 c2]]) (fun x=>[slF (rI .u32) p1 c1 l1,slF (rI .u32) p2 c2 l2]) ?_ ?_
 ·
  refine zc<|e_p (zg yo rfl sz42 rfl rfl)<|e_ru (zd 0 ty42 rfl rfl (.t2 .nil))<|zV rfl rfl (.c rfl .n) ce65 (zvc (s:=s) (p:=p1) (n:=n1) (cap:=c1) (l:=l1) (hn:=ass)) (.c (j:=0) rfl .n)<|e_p (zKa rfl)<|zsa rfl rfl (zva rfl) (fun h2=> ?_) (fun h2=> ?_)
  ·
   refine e_no<|e_no<|e_no<|e_no<|e_p (zU rfl rfl)<|e_mv rfl<|e_no<|e_no<|e_no<|e_no<|e_p (zU rfl rfl)<|zk ?_
   exact zna () (show True from by first|trivial|omega|simp_all) ((.e rfl (congrArg Value.bool (by simp_all)) (.c rfl (.c rfl .n))):SubM _ _) (ho:=((.c (i:=0) rfl .n):PickO _ _ _)) ((.of [0,1] rfl):SelR _ _ _)
  ·
   refine e_p (zg yo rfl sz42 rfl rfl)<|e_ru (zd 0 ty42 rfl rfl (.s2 (.t2 .nil)))<|zV rfl rfl (.c rfl .n) ce65 (zvc (s:=t) (p:=p2) (n:=n2) (cap:=c2) (l:=l2) (hn:=ass)) (.c (j:=1) rfl .n)<|e_p (zKa rfl)<|e_p (zU rfl rfl)<|zsa rfl rfl (zva rfl) (fun h3=> ?_) (fun h3=> ?_)
   ·
    refine e_no<|e_no<|e_no<|e_no<|e_p (zU rfl rfl)<|zk ?_
    exact zna () (show True from by first|trivial|omega|simp_all) ((.e rfl (congrArg Value.bool (by simp_all)) (.c rfl (.c rfl .n))):SubM _ _) (ho:=((.c (i:=0) rfl .n):PickO _ _ _)) ((.of [0,1] rfl):SelR _ _ _)
   ·
    refine e_p (zg yo rfl sz42 rfl rfl)<|e_ru (zd 0 ty42 rfl rfl (.s2 (.t2 .nil)))<|zV rfl rfl (.c rfl .n) ce66 (zPd (s:=t) (p:=p2) (n:=n2) (cap:=c2) (l:=l2) (hn:=ass) (hln:=by first|rfl|assumption|omega|(rw [yu];omega)|(decide +kernel))) (.c (j:=1) rfl .n)<|e_p (zIc rfl rfl)<|e_p (zU rfl rfl)<|zk ?_
    exact zna () (show True from by first|trivial|omega|simp_all) ((.e rfl (congrArg Value.bool (by exact decide_eq_decide.2 (Big.sgn_le (Decidable.not_not.1 ‹_›) (Decidable.not_not.1 ‹_›)))) (.c rfl (.c rfl .n))):SubM _ _) (ho:=((.c (i:=0) rfl .n):PickO _ _ _)) ((.of [0,1] rfl):SelR _ _ _)
 ·
  rintro ⟨⟩ -
  try dsimp only
  refine zT rfl (fun hc=> ?_) (fun hc=> ?_)
  ·
   refine zj<|zc<|e_p (zh rfl)<|zk<|zf<|zR<|zq ?_
   exact zL Tryz.results31 () trivial (zD rfl) (congrArg Value.bool (decide_eq_false (fun h=>hc ⟨h.1,h.2.1,h.2.2.1⟩))) (ho:=(.n:PickO _ _ _)) (.n:SelR _ _ _)
  ·
   have hcc:=Decidable.not_not.1 hc
   have hgl:=Big.zHd (n:=yg s l1) (d:=yg t l2) om
   refine zB<|zf<|zj<|zc<|e_p (zg yo rfl sz42 rfl rfl)<|e_ru (zd 0 ty42 rfl rfl (.t2 .nil))<|e_p (zg yo rfl sz42 rfl rfl)<|e_ru (zd 0 ty42 rfl rfl (.s2 (.t2 .nil)))<|zG rfl rfl (.c rfl (.c rfl .n)) ce68 (zre (s:=s) (p1:=p1) (n1:=n1) (c1:=c1) (l1:=l1) (t:=t) (p2:=p2) (n2:=n2) (c2:=c2) (l2:=l2) (hn1:=ass) (hn2:=ass) (hm1:=by first|rfl|assumption|omega|(rw [yu];omega)|(decide +kernel)) (hm2:=by first|rfl|assumption|omega|(rw [yu];omega)|(decide +kernel))) (.c (j:=0) rfl (.c (j:=1) rfl .n)) ?_
   rintro ⟨p34,c35⟩ -
   dsimp only [aq,nq,cq]
   refine zG rfl rfl (.c rfl .n) ce56 (zmd (z:=1) (hz:=by first|rfl|assumption|omega|(rw [yu];omega)|(decide +kernel))) (.n) ?_
   rintro ⟨p26,c27⟩ -
   dsimp only [aq,nq,cq]
   refine zV rfl rfl (.c rfl (.c rfl .n)) ce67 (zwd (x1:=((Nat.gcd (yg s l1).natAbs (yg t l2).natAbs:Nat):Int)) (x2:=1) (p1:=p34) (c1:=c35) (p2:=p26) (c2:=c27) (hb1:=by first|rfl|assumption|omega|(rw [yu];omega)|(decide +kernel)) (hb2:=by first|rfl|assumption|omega|(rw [yu];omega)|(decide +kernel))) (.c (j:=1) rfl (.c (j:=0) rfl .n))<|e_p (zMa rfl rfl)<|e_p (zh rfl)<|zk<|zf<|zR ?_
   exact zL Tryz.results31 () trivial (zD rfl) (congrArg Value.bool (decide_eq_decide.2 (Big.qok_sub (x:=((s,l1),(t,l2))) (Decidable.not_not.1 hc)).symm)) (ho:=(.n:PickO _ _ _)) (.n:SelR _ _ _)
theorem zDc {u1:Wd} {v1:Wd} {q1:Rat}:Con yj 31 [.agg #[u1.b,u1.l,v1.b,v1.l]] [] [qF true u1 v1 (q1)] (Y:=Unit) (fun y=>True) (fun y=> .bool true) (fun y=>[]) (fun y=>[]):=by
  exact zAf (fun x hx hk h1 h2=>by have h:= @zXc x.1.1 u1.p _ u1.c x.1.2 x.2.1 v1.p _ v1.c x.2.2 rfl rfl h1 h2;rw [decide_eq_true (hk rfl)] at h;exact h)
theorem zfe {s:Bool} {p1:Option Addr} {n1:Nat} {c1:Nat} {l1:List Int} {t:Bool} {p2:Option Addr} {n2:Nat} {c2:Nat} {l2:List Int} (hn1:l1.length=n1) (hn2:l2.length=n2) (hm1:n1≤1048576) (hm2:n2≤1048576):Con yj 57 [.agg #[.bool s,.slice p1 n1 c1,.bool t,.slice p2 n2 c2]] [] [slF (rI .u32) p1 c1 l1,slF (rI .u32) p2 c2 l2] (Y:=Wd×Wd) (fun y=>True) (fun y=> .agg #[y.1.b,y.1.l,y.2.b,y.2.l]) (fun y=>[]) (fun y=>[qF true y.1 y.2 (Big.qv ((s,l1),(t,l2)))]):=by
 refine zx Tryz.func57 rfl rfl rfl (fun c=> ?_)
 show RunC _ _ _ _ _ [(0,.agg #[.bool s,.slice p1 n1 c1,.bool t,.slice p2 n2 c2])] [] [slF (rI .u32) p1 c1 l1,slF (rI .u32) p2 c2 l2]
 refine zpa 0 rfl (fun hL0=> ?_)
 refine zfb 0 rfl (fun hE0=> ?_)
 refine zpa 1 rfl (fun hL1=> ?_)
 refine zfb 1 rfl (fun hE1=> ?_)
 have hnn1:yK l1:=fun g hg=>(zE.1 (hE0 g hg)).1
 have hnn2:yK l2:=fun g hg=>(zE.1 (hE1 g hg)).1
 have hb1:yn (yg s l1)≤n1:=by have:=yF (s:=s) hnn1;omega
 have hb2:yn (yg t l2)≤n2:=by have:=yF (s:=t) hnn2;omega
 refine zj<|zc<|zJ rfl rfl (zda rfl rfl) (fun b1=> ?_)
 refine zJ rfl rfl (zp zr44 rfl) (fun b2=> ?_)
 refine zk<|zf<|zj<|zj<|zc<|e_ru (zd 1 ty44 rfl rfl (.t4 .nil))<|zV rfl rfl (.c rfl .n) ce31 (zXc (s:=s) (p1:=p1) (n1:=n1) (c1:=c1) (l1:=l1) (t:=t) (p2:=p2) (n2:=n2) (c2:=c2) (l2:=l2) (hn1:=ass) (hn2:=ass) (hm1:=ass) (hm2:=ass)) (.c (j:=0) rfl (.c (j:=1) rfl .n))<|zk<|zf<|zT rfl (fun hq=> ?_) (fun hq=> ?_)
 ·
  have hrp:=Big.raw_parts (x:=((s,l1),(t,l2))) hnn1 hnn2 hq
  have hqp:=Big.qv_parts (x:=((s,l1),(t,l2))) hq
  have hl:yM (Big.qv ((s,l1),(t,l2)))≤1048576:=by unfold yM;rw [hqp.1,hqp.2];dsimp only;omega
  refine zj<|zc<|e_ru (zd 1 ty44 rfl rfl (.t4 .nil))<|zl 0 rfl rfl rfl rfl rfl sz44 rfl (.t4 .nil) .z<|zk<|zf<|zR<|zq<|zbb (qF true ⟨s,p1,n1,c1⟩ ⟨t,p2,n2,c2⟩ (Big.qv ((s,l1),(t,l2)))) (fun g r=>qF_rawI 0 1 rfl rfl hn1 hn2 hm1 hm2 hq g r) ?_
  exact zL Tryz.results57 (⟨s,p1,n1,c1⟩,⟨t,p2,n2,c2⟩) trivial (zr 0 ty44 rfl rfl (.t4 .nil)) rfl (ho:=(.n:PickO _ _ _)) ((.c (j:=0) rfl .n):SelR _ _ _)
 ·
  have hz:=Big.qv_not (x:=((s,l1),(t,l2))) hq
  refine zB<|zf<|zj<|zc<|zG rfl rfl (.c rfl .n) ce22 (zub (z:=0) (hz:=by first|rfl|assumption|omega|(rw [yu];omega)|(decide +kernel))) (.n) ?_
  rintro ⟨w33,w44⟩ -
  dsimp only [aq,nq,cq]
  refine zl 0 rfl rfl rfl rfl rfl sz44 rfl (.t4 .nil) .z<|zk<|zf<|zR ?_
  exact zL Tryz.results57 (w33,w44) trivial (zr 0 ty44 rfl rfl (.t4 .nil)) rfl (ho:=(.n:PickO _ _ _)) ((.e (j:=0) rfl (by rw [hz];rfl) .n):SelR _ _ _)
theorem zzb {k1:Bool} {u1:Wd} {v1:Wd} {q1:Rat}:Con yj 57 [.agg #[u1.b,u1.l,v1.b,v1.l]] [] [qF k1 u1 v1 (q1)] (Y:=(Wd)×(Wd)) (fun y=>True) (fun y=> .agg #[y.1.b,y.1.l,y.2.b,y.2.l]) (fun y=>[]) (fun y=>[qF true y.1 y.2 (q1)]):=by
  exact zRe (fun x hx hk h1 h2 hl=>by subst hx;exact zfe rfl rfl h1 h2)
theorem zEc {w1:Wd} {w2:Wd} {x1:Int} {x2:Int} (hl1:yn x1≤1048576) (hl2:yn x2≤1048576) (hd:x2≠0):Con yj 58 [.agg #[w1.b,w1.l],.agg #[w2.b,w2.l]] [] [zF w1 x1,zF w2 x2] (Y:=Wd×Wd) (fun y=>True) (fun y=> .agg #[y.1.b,y.1.l,y.2.b,y.2.l]) (fun y=>[]) (fun y=>[qF true y.1 y.2 (Rat.divInt x1 x2)]):=by
 refine zx Tryz.func58 rfl rfl rfl (fun c=> ?_)
 show RunC _ _ _ _ _ [(0,.agg #[w1.b,w1.l]),(1,.agg #[w2.b,w2.l])] [] [zF w1 x1,zF w2 x2]
 refine zj<|zc<|zJ rfl rfl (zda rfl rfl) (fun b1=> ?_)
 refine zJ rfl rfl (zda rfl rfl) (fun b2=> ?_)
 refine zJ rfl rfl (zp zr44 rfl) (fun b3=> ?_)
 refine zk<|zf<|zj<|zc<|e_ru (zd 2 ty42 rfl rfl (.t2 .nil))<|e_ru (zd 1 ty42 rfl rfl (.t2 .nil))<|zG rfl rfl (.c rfl (.c rfl .n)) ce68 (zdf (w1:=w1) (w2:=w2) (x1:=x1) (x2:=x2) (hb1:=by first|rfl|assumption|omega|(rw [yu];omega)|(decide +kernel)) (hb2:=by first|rfl|assumption|omega|(rw [yu];omega)|(decide +kernel))) (.c (j:=0) rfl (.c (j:=1) rfl .n)) ?_
 rintro w34 -
 dsimp only [aq,nq,cq]
 refine zJ rfl rfl (zp zr42 rfl) (fun b5=> ?_)
 refine zl 0 rfl rfl rfl rfl rfl sz42 rfl (.t2 .nil) .z<|zk<|zf<|zj<|zj<|zc<|e_ru (zd 2 ty42 rfl rfl (.t2 .nil))<|zV rfl rfl (.c rfl .n) ce66 (zwc (w1:=w2) (x1:=x2) (hln:=by first|rfl|assumption|omega|(rw [yu];omega)|(decide +kernel))) (.c (j:=2) rfl .n)<|e_p (zS rfl rfl)<|zk<|zf<|zT rfl (fun hneg=> ?_) (fun hneg=> ?_)
 ·
  have hs:x2<0:=by rcases Big.sign_le (x:=x2) with h|h|h <;> omega
  have hgp:=Big.gcd_pos_right (n:=x1) (d:=x2) om
  have hgl:=Big.zHd (n:=x1) (d:=x2) om
  obtain ⟨hr1,hr2⟩:=Big.red_neg (n:=x1) hs
  refine zc<|e_ru (zd 0 ty42 rfl rfl (.t2 .nil))<|zG rfl rfl (.c rfl .n) ce88 (zOd (w1:=w34) (x1:=((Nat.gcd x1.natAbs x2.natAbs:Nat):Int)) (hln:=by first|rfl|assumption|omega|(rw [yu];omega)|(decide +kernel))) (.c (j:=0) rfl .n) ?_
  rintro w36 -
  dsimp only [aq,nq,cq]
  refine zl 0 rfl rfl rfl rfl rfl sz42 rfl (.t2 .nil) .z<|zk<|zf<|zj<|zc<|e_ru (zd 3 ty42 rfl rfl (.t2 .nil))<|e_ru (zd 0 ty42 rfl rfl (.t2 .nil))<|zG rfl rfl (.c rfl (.c rfl .n)) ce89 (zyb (w1:=w1) (w2:=w36) (x1:=x1) (x2:= - ((Nat.gcd x1.natAbs x2.natAbs:Nat):Int)) (hb1:=by first|rfl|assumption|omega|(rw [yu];omega)|(decide +kernel)) (hb2:=by first|rfl|assumption|omega|(rw [yu];omega)|(decide +kernel)) (hy:=by first|rfl|assumption|omega|(rw [yu];omega)|(decide +kernel))) (.c (j:=2) rfl (.c (j:=0) rfl .n)) ?_
  rintro ⟨w37,w48⟩ -
  dsimp only [aq,nq,cq]
  refine e_mv rfl<|e_p (zw rfl rfl)<|e_p (zw rfl rfl)<|e_p (zw rfl rfl)<|zJ rfl rfl (zp zr42 rfl) (fun b9=> ?_)
  refine zJ rfl rfl (zp zr42 rfl) (fun b10=> ?_)
  refine zl 1 rfl rfl rfl rfl rfl sz42 rfl (.t2 .nil) (.s .z)<|zl 0 rfl rfl rfl rfl rfl sz42 rfl (.t2 .nil) .z<|e_p (zh rfl)<|zk<|zf<|zj<|zc<|e_ru (zd 4 ty42 rfl rfl (.t2 .nil))<|e_ru (zd 2 ty42 rfl rfl (.t2 .nil))<|zG rfl rfl (.c rfl (.c rfl .n)) ce89 (zyb (w1:=w2) (w2:=w36) (x1:=x2) (x2:= - ((Nat.gcd x1.natAbs x2.natAbs:Nat):Int)) (hb1:=by first|rfl|assumption|omega|(rw [yu];omega)|(decide +kernel)) (hb2:=by first|rfl|assumption|omega|(rw [yu];omega)|(decide +kernel)) (hy:=by first|rfl|assumption|omega|(rw [yu];omega)|(decide +kernel))) (.c (j:=5) rfl (.c (j:=2) rfl .n)) ?_
  rintro ⟨w311,w412⟩ -
  dsimp only [aq,nq,cq]
  refine e_mv rfl<|e_p (zw rfl rfl)<|e_p (zw rfl rfl)<|e_p (zw rfl rfl)<|zJ rfl rfl (zp zr42 rfl) (fun b13=> ?_)
  refine zJ rfl rfl (zp zr42 rfl) (fun b14=> ?_)
  refine zl 1 rfl rfl rfl rfl rfl sz42 rfl (.t2 .nil) (.s .z)<|zl 0 rfl rfl rfl rfl rfl sz42 rfl (.t2 .nil) .z<|e_p (zh rfl)<|zk<|zf<|zj<|zc<|e_ru (zd 3 ty42 rfl rfl (.t2 .nil))<|e_ru (zd 1 ty42 rfl rfl (.t2 .nil))<|e_p (zv zr44 rfl yo (.c sz42 (.c sz42 .n)) (.c rfl (.c rfl .n)) (.c rfl rfl rfl (.t2 .nil) (.c rfl rfl rfl (.s2 (.t2 .nil)) .n)))<|zl 5 rfl rfl rfl rfl rfl sz44 rfl (.t4 .nil) (.s (.s (.s (.s (.s .z)))))<|zk<|zf<|zR<|zbb (qF true w37 w311 (Rat.divInt x1 x2)) (qF_close 2 0 rfl rfl (by exact ⟨hr1,hr2,Nat.le_trans (Big.hq_divInt hd) om⟩)) ?_
  exact zL Tryz.results58 (w37,w311) trivial (zr 5 ty44 rfl rfl (.t4 .nil)) rfl (ho:=(.n:PickO _ _ _)) ((.c (j:=0) rfl .n):SelR _ _ _)
 ·
  have hs:0<x2:=by rcases Big.sign_le (x:=x2) with h|h|h <;> omega
  have hgp:=Big.gcd_pos_right (n:=x1) (d:=x2) om
  have hgl:=Big.zHd (n:=x1) (d:=x2) om
  obtain ⟨hr1,hr2⟩:=Big.red_pos (n:=x1) hs
  refine zB<|zf<|zj<|zc<|e_ru (zd 3 ty42 rfl rfl (.t2 .nil))<|e_ru (zd 0 ty42 rfl rfl (.t2 .nil))<|zG rfl rfl (.c rfl (.c rfl .n)) ce89 (zyb (w1:=w1) (w2:=w34) (x1:=x1) (x2:=((Nat.gcd x1.natAbs x2.natAbs:Nat):Int)) (hb1:=by first|rfl|assumption|omega|(rw [yu];omega)|(decide +kernel)) (hb2:=by first|rfl|assumption|omega|(rw [yu];omega)|(decide +kernel)) (hy:=by first|rfl|assumption|omega|(rw [yu];omega)|(decide +kernel))) (.c (j:=1) rfl (.c (j:=0) rfl .n)) ?_
  rintro ⟨w315,w416⟩ -
  dsimp only [aq,nq,cq]
  refine e_mv rfl<|e_p (zw rfl rfl)<|e_p (zw rfl rfl)<|e_p (zw rfl rfl)<|zJ rfl rfl (zp zr42 rfl) (fun b17=> ?_)
  refine zJ rfl rfl (zp zr42 rfl) (fun b18=> ?_)
  refine zl 1 rfl rfl rfl rfl rfl sz42 rfl (.t2 .nil) (.s .z)<|zl 0 rfl rfl rfl rfl rfl sz42 rfl (.t2 .nil) .z<|e_p (zh rfl)<|zk<|zf<|zj<|zc<|e_ru (zd 4 ty42 rfl rfl (.t2 .nil))<|e_ru (zd 2 ty42 rfl rfl (.t2 .nil))<|zG rfl rfl (.c rfl (.c rfl .n)) ce89 (zyb (w1:=w2) (w2:=w34) (x1:=x2) (x2:=((Nat.gcd x1.natAbs x2.natAbs:Nat):Int)) (hb1:=by first|rfl|assumption|omega|(rw [yu];omega)|(decide +kernel)) (hb2:=by first|rfl|assumption|omega|(rw [yu];omega)|(decide +kernel)) (hy:=by first|rfl|assumption|omega|(rw [yu];omega)|(decide +kernel))) (.c (j:=4) rfl (.c (j:=2) rfl .n)) ?_
  rintro ⟨w319,w420⟩ -
  dsimp only [aq,nq,cq]
  refine e_mv rfl<|e_p (zw rfl rfl)<|e_p (zw rfl rfl)<|e_p (zw rfl rfl)<|zJ rfl rfl (zp zr42 rfl) (fun b21=> ?_)
  refine zJ rfl rfl (zp zr42 rfl) (fun b22=> ?_)
  refine zl 1 rfl rfl rfl rfl rfl sz42 rfl (.t2 .nil) (.s .z)<|zl 0 rfl rfl rfl rfl rfl sz42 rfl (.t2 .nil) .z<|e_p (zh rfl)<|zk<|zf<|zj<|zc<|e_ru (zd 3 ty42 rfl rfl (.t2 .nil))<|e_ru (zd 1 ty42 rfl rfl (.t2 .nil))<|e_p (zv zr44 rfl yo (.c sz42 (.c sz42 .n)) (.c rfl (.c rfl .n)) (.c rfl rfl rfl (.t2 .nil) (.c rfl rfl rfl (.s2 (.t2 .nil)) .n)))<|zl 5 rfl rfl rfl rfl rfl sz44 rfl (.t4 .nil) (.s (.s (.s (.s (.s .z)))))<|zk<|zf<|zR<|zbb (qF true w315 w319 (Rat.divInt x1 x2)) (qF_close 2 0 rfl rfl (by exact ⟨hr1,hr2,Nat.le_trans (Big.hq_divInt hd) om⟩)) ?_
  exact zL Tryz.results58 (w315,w319) trivial (zr 5 ty44 rfl rfl (.t4 .nil)) rfl (ho:=(.n:PickO _ _ _)) ((.c (j:=0) rfl .n):SelR _ _ _)
theorem zxf {w1:Wd} {w2:Wd} {x1:Int} {x2:Int} (hl1:yn x1≤1048576) (hl2:yn x2≤1048576):Con yj 72 [.agg #[w1.b,w1.l],.agg #[w2.b,w2.l]] [] [zF w1 x1,zF w2 x2] (Y:=Wd×Wd) (fun y=>True) (fun y=> .tuple #[.agg #[y.1.b,y.1.l,y.2.b,y.2.l],yc yd (if x2=0 then 14 else 0)]) (fun y=>[]) (fun y=>[qF (decide (x2≠0)) y.1 y.2 (Rat.divInt x1 x2)]):=by
 refine zx Tryz.func72 rfl rfl rfl (fun c=> ?_)
 show RunC _ _ _ _ _ [(0,.agg #[w1.b,w1.l]),(1,.agg #[w2.b,w2.l])] [] [zF w1 x1,zF w2 x2]
 refine zj<|zc<|zJ rfl rfl (zda rfl rfl) (fun b1=> ?_)
 refine zJ rfl rfl (zda rfl rfl) (fun b2=> ?_)
 refine zJ rfl rfl (zp zr44 rfl) (fun b3=> ?_)
 refine e_p (zh rfl)<|zk<|zf<|zj<|zj<|zc<|e_ru (zd 1 ty42 rfl rfl (.t2 .nil))<|zV rfl rfl (.c rfl .n) ce66 (zwc (w1:=w2) (x1:=x2) (hln:=by first|rfl|assumption|omega|(rw [yu];omega)|(decide +kernel))) (.c (j:=1) rfl .n)<|e_p (zMa rfl rfl)<|zk<|zf<|zT rfl (fun hz0=> ?_) (fun hz0=> ?_)
 ·
  have hx0:x2=0:=Big.sign_zero.1 hz0
  refine zj<|zc<|e_p (zv zr44 rfl yo (.c sz42 (.c sz42 .n)) .n .n)<|zl 0 rfl rfl rfl rfl rfl sz44 rfl (.t4 .nil) .z<|e_p (zh rfl)<|zk<|zf<|zR<|zq<|zbb (qF false wz wz 0) (fun g _=>qF_none g) ?_
  exact zDa Tryz.results72 (wz,wz) trivial (zr 0 ty44 rfl rfl (.t4 .nil)) (zD rfl) (by rw [if_pos hx0];rfl) (ho:=(.n:PickO _ _ _)) ((.e (j:=0) rfl (by rw [Big.divInt_nil hx0,decide_eq_false (not_not_intro hx0)]) .n):SelR _ _ _)
 ·
  have hx0:x2≠0:=fun e=>hz0 (Big.sign_zero.2 e)
  refine zB<|zf<|zj<|zc<|e_ru (zd 2 ty42 rfl rfl (.t2 .nil))<|e_ru (zd 1 ty42 rfl rfl (.t2 .nil))<|zG rfl rfl (.c rfl (.c rfl .n)) ce58 (zEc (w1:=w1) (w2:=w2) (x1:=x1) (x2:=x2) (hl1:=ass) (hl2:=ass) (hd:=by first|rfl|assumption|omega|(rw [yu];omega)|(decide +kernel))) (.c (j:=0) rfl (.c (j:=1) rfl .n)) ?_
  rintro ⟨w34,w45⟩ -
  dsimp only [aq,nq,cq]
  refine zl 0 rfl rfl rfl rfl rfl sz44 rfl (.t4 .nil) .z<|e_p (zh rfl)<|zk<|zf<|zR ?_
  exact zDa Tryz.results72 (w34,w45) trivial (zr 0 ty44 rfl rfl (.t4 .nil)) (zD rfl) (by rw [if_neg hx0]) (ho:=(.n:PickO _ _ _)) ((.e (j:=0) rfl (by rw [decide_eq_true hx0]) .n):SelR _ _ _)
theorem zyf {z1:Int} {z2:Int} (hz1: -9223372036854775808≤z1∧z1≤9223372036854775807) (hz2: -9223372036854775808≤z2∧z2≤9223372036854775807):Con yj 41 [yc yd z1,yc yd z2] [] [] (Y:=Wd×Wd) (fun y=>True) (fun y=> .tuple #[.agg #[y.1.b,y.1.l,y.2.b,y.2.l],yc yd (if z2=0 then 14 else 0)]) (fun y=>[]) (fun y=>[qF (decide (z2≠0)) y.1 y.2 (Rat.divInt z1 z2)]):=by
 refine zx Tryz.func41 rfl rfl rfl (fun c=> ?_)
 show RunC _ _ _ _ _ [(0,yc yd z1),(1,yc yd z2)] [] []
 have g1:=Big.zOe hz1.1 hz1.2
 have g2:=Big.zOe hz2.1 hz2.2
 refine zj<|zc<|zJ rfl rfl (zp zr44 rfl) (fun b1=> ?_)
 refine e_p (zh rfl)<|zk<|zf<|zj<|zc<|e_mv rfl<|zG rfl rfl (.c rfl .n) ce56 (zMb (z:=z1) (hz:=ass)) (.n) ?_
 rintro w32 -
 dsimp only [aq,nq,cq]
 refine e_mv rfl<|zG rfl rfl (.c rfl .n) ce56 (zMb (z:=z2) (hz:=ass)) (.n) ?_
 rintro w33 -
 dsimp only [aq,nq,cq]
 refine zG rfl rfl (.c rfl (.c rfl .n)) ce72 (zxf (w1:=w32) (w2:=w33) (x1:=z1) (x2:=z2) (hl1:=by first|rfl|assumption|omega|(rw [yu];omega)|(decide +kernel)) (hl2:=by first|rfl|assumption|omega|(rw [yu];omega)|(decide +kernel))) (.c (j:=1) rfl (.c (j:=0) rfl .n)) ?_
 rintro ⟨w34,w45⟩ -
 dsimp only [aq,nq,cq]
 refine e_p (zw rfl rfl)<|e_p (zw rfl rfl)<|zl 0 rfl rfl rfl rfl rfl sz44 rfl (.t4 .nil) .z<|e_p (zh rfl)<|zk<|zf<|zR ?_
 exact zDa Tryz.results41 (w34,w45) trivial (zr 0 ty44 rfl rfl (.t4 .nil)) (zD rfl) rfl (ho:=(.n:PickO _ _ _)) ((.c (j:=0) rfl .n):SelR _ _ _)
theorem zBe {z1:Int} {z2:Int} (hz1: -9223372036854775808≤z1∧z1≤9223372036854775807) (hz2: -9223372036854775808≤z2∧z2≤9223372036854775807) (hy:z2≠0):Con yj 41 [yc yd (z1),yc yd (z2)] [] [] (Y:=(Wd)×(Wd)) (fun y=>True) (fun y=> .tuple #[.agg #[y.1.b,y.1.l,y.2.b,y.2.l],yc yd (0)]) (fun y=>[]) (fun y=>[qF true y.1 y.2 (Rat.divInt z1 z2)]):=by
  have h:=zyf hz1 hz2
  rw [if_neg hy,decide_eq_true hy] at h
  exact h
theorem zCe {k1:Bool} {u1:Wd} {v1:Wd} {q1:Rat} (hl:yM q1≤1048576):Con yj 53 [.agg #[u1.b,u1.l,v1.b,v1.l]] [] [qF k1 u1 v1 q1] (Y:=Unit) (fun y=>True) (fun y=> yc yd (Big.sgq q1)) (fun y=>[]) (fun y=>[]):=by
 refine zx Tryz.func53 rfl rfl rfl (fun c=> ?_)
 show RunC _ _ _ _ _ [(0,.agg #[u1.b,u1.l,v1.b,v1.l])] [] [qF k1 u1 v1 q1]
 have a1:=yR q1
 have a2:=yS q1
 refine zj<|zc<|zJ rfl rfl (zda rfl rfl) (fun b1=> ?_)
 refine e_p (zh rfl)<|zk<|zf<|zj<|zc<|e_ru (zd 0 ty44 rfl rfl (.t4 .nil))<|zG rfl rfl (.c rfl .n) ce57 (zzb (k1:=k1) (u1:=u1) (v1:=v1) (q1:=q1)) (.c (j:=0) rfl .n) ?_
 rintro ⟨w32,w43⟩ -
 dsimp only [aq,nq,cq]
 refine e_p (zyc yo rfl ty42 rfl (.t2 .nil))<|zxc (qF_open 0 rfl) (fun _ _=> ?_)
 refine zV rfl rfl (.c rfl .n) ce66 (zwc (w1:=w32) (x1:=(q1).num) (hln:=by first|rfl|assumption|omega|(rw [yu];omega)|(decide +kernel))) (.c (j:=0) rfl .n)<|e_p (zh rfl)<|zk<|zf<|zR ?_
 exact zL Tryz.results53 () trivial (zD rfl) rfl (ho:=(.n:PickO _ _ _)) (.n:SelR _ _ _)
theorem zef {k1:Bool} {u1:Wd} {v1:Wd} {q1:Rat} (hl:yM q1≤1048576):Con yj 62 [.agg #[u1.b,u1.l,v1.b,v1.l]] [] [qF k1 u1 v1 q1] (Y:=Wd×Wd) (fun y=>True) (fun y=> .agg #[y.1.b,y.1.l,y.2.b,y.2.l]) (fun y=>[]) (fun y=>[qF true y.1 y.2 (- q1)]):=by
 refine zx Tryz.func62 rfl rfl rfl (fun c=> ?_)
 show RunC _ _ _ _ _ [(0,.agg #[u1.b,u1.l,v1.b,v1.l])] [] [qF k1 u1 v1 q1]
 have a1:=yR q1
 have a2:=yS q1
 refine zj<|zc<|zJ rfl rfl (zda rfl rfl) (fun b1=> ?_)
 refine zJ rfl rfl (zp zr44 rfl) (fun b2=> ?_)
 refine zk<|zf<|zj<|zc<|e_ru (zd 1 ty44 rfl rfl (.t4 .nil))<|zG rfl rfl (.c rfl .n) ce57 (zzb (k1:=k1) (u1:=u1) (v1:=v1) (q1:=q1)) (.c (j:=0) rfl .n) ?_
 rintro ⟨w33,w44⟩ -
 dsimp only [aq,nq,cq]
 refine zJ rfl rfl (zp zr44 rfl) (fun b5=> ?_)
 refine zl 0 rfl rfl rfl rfl rfl sz44 rfl (.t4 .nil) .z<|zk<|zf<|zj<|zba (.c (i:=1) rfl (.c (i:=0) rfl (.c (i:=0) rfl .n)))<|zO (OW:=[boxA b2 44 (cw [wz,wz])]) (O:=[boxA b5 44 (cw [w33,w44]),boxA b1 44 (cw [u1,v1])]) 6 mixed (.then .ret) kr<|e_pv 0 rfl rfl (zg yo rfl sz42 rfl rfl)<|e_uw 1 rfl rfl (zd 1 ty42 rfl rfl (.t2 .nil))<|e_pv 3 rfl rfl (zg yo rfl sz42 rfl rfl)<|e_uw 4 rfl rfl (zd 1 ty42 rfl rfl (.s2 (.t2 .nil)))<|zjc (qF_open 0 rfl) (fun _ _=> ?_)
 refine e_one 2 (zm rfl rfl rfl rfl (.c rfl .n) ce88 (zOd (w1:=w33) (x1:=(q1).num) (hln:=by first|rfl|assumption|omega|(rw [yu];omega)|(decide +kernel))) (.c (j:=0) rfl .n) ?_)
 rintro w36 -
 dsimp only [aq,nq,cq]
 refine e_pv 5 rfl rfl (zv zr44 rfl yo (.c sz42 (.c sz42 .n)) (.c rfl (.c rfl .n)) (.c rfl rfl rfl (.t2 .nil) (.c rfl rfl rfl (.s2 (.t2 .nil)) .n)))<|e_one 6 (zo kr rfl rfl rfl rfl rfl sz44 rfl (.t4 .nil) ?_)
 refine zM kr<|zf<|zR<|zbb (qF true w36 w44 (- q1)) (qF_close 0 2 rfl rfl (by exact ⟨(Rat.neg_num q1).symm,by rw [Rat.neg_den],by rw [Big.hq_neg];exact hl⟩)) ?_
 exact zL Tryz.results62 (w36,w44) trivial (zr 0 ty44 rfl rfl (.t4 .nil)) rfl (ho:=(.n:PickO _ _ _)) ((.c (j:=0) rfl .n):SelR _ _ _)
theorem zYc {k1:Bool} {u1:Wd} {v1:Wd} {q1:Rat} {k2:Bool} {u2:Wd} {v2:Wd} {q2:Rat} (hl:yM q1+yM q2+1≤1048576):Con yj 25 [.agg #[u1.b,u1.l,v1.b,v1.l],.agg #[u2.b,u2.l,v2.b,v2.l]] [] [qF k1 u1 v1 q1,qF k2 u2 v2 q2] (Y:=Wd×Wd) (fun y=>True) (fun y=> .agg #[y.1.b,y.1.l,y.2.b,y.2.l]) (fun y=>[]) (fun y=>[qF true y.1 y.2 (q1+q2)]):=by
 refine zx Tryz.func25 rfl rfl rfl (fun c=> ?_)
 show RunC _ _ _ _ _ [(0,.agg #[u1.b,u1.l,v1.b,v1.l]),(1,.agg #[u2.b,u2.l,v2.b,v2.l])] [] [qF k1 u1 v1 q1,qF k2 u2 v2 q2]
 have a1:=yR q1
 have a2:=yS q1
 have a3:=yR q2
 have a4:=yS q2
 have b1:=Big.zab q1.num q2.den
 have b2:=Big.zab q2.num q1.den
 have b3:=Big.zfd (q1.num*q2.den) (q2.num*q1.den)
 have b4:=Big.zab (q1.den:Int) q2.den
 have b5:=Big.zab q1.num q2.num
 refine zj<|zc<|zJ rfl rfl (zda rfl rfl) (fun b1=> ?_)
 refine zJ rfl rfl (zda rfl rfl) (fun b2=> ?_)
 refine zJ rfl rfl (zp zr44 rfl) (fun b3=> ?_)
 refine zk<|zf<|zj<|zc<|e_ru (zd 2 ty44 rfl rfl (.t4 .nil))<|zG rfl rfl (.c rfl .n) ce57 (zzb (k1:=k1) (u1:=u1) (v1:=v1) (q1:=q1)) (.c (j:=0) rfl .n) ?_
 rintro ⟨w34,w45⟩ -
 dsimp only [aq,nq,cq]
 refine zJ rfl rfl (zp zr44 rfl) (fun b6=> ?_)
 refine zl 0 rfl rfl rfl rfl rfl sz44 rfl (.t4 .nil) .z<|zk<|zf<|zj<|zc<|e_ru (zd 2 ty44 rfl rfl (.t4 .nil))<|zG rfl rfl (.c rfl .n) ce57 (zzb (k1:=k2) (u1:=u2) (v1:=v2) (q1:=q2)) (.c (j:=2) rfl .n) ?_
 rintro ⟨w37,w48⟩ -
 dsimp only [aq,nq,cq]
 refine zJ rfl rfl (zp zr44 rfl) (fun b9=> ?_)
 refine zl 0 rfl rfl rfl rfl rfl sz44 rfl (.t4 .nil) .z<|zk<|zf<|zj<|zba (.c (i:=2) rfl (.c (i:=0) rfl (.c (i:=0) rfl (.c (i:=0) rfl (.c (i:=0) rfl .n)))))<|zO (OW:=[boxA b3 44 (cw [wz,wz])]) (O:=[boxA b9 44 (cw [w37,w48]),boxA b6 44 (cw [w34,w45]),boxA b2 44 (cw [u2,v2]),boxA b1 44 (cw [u1,v1])]) 17 mixed (.then .ret) kr<|e_pv 0 rfl rfl (zg yo rfl sz42 rfl rfl)<|e_uw 1 rfl rfl (zd 2 ty42 rfl rfl (.t2 .nil))<|e_pv 2 rfl rfl (zg yo rfl sz42 rfl rfl)<|e_uw 3 rfl rfl (zd 1 ty42 rfl rfl (.s2 (.t2 .nil)))<|e_pv 5 rfl rfl (zg yo rfl sz42 rfl rfl)<|e_uw 6 rfl rfl (zd 1 ty42 rfl rfl (.t2 .nil))<|e_pv 7 rfl rfl (zg yo rfl sz42 rfl rfl)<|e_uw 8 rfl rfl (zd 2 ty42 rfl rfl (.s2 (.t2 .nil)))<|e_pv 11 rfl rfl (zg yo rfl sz42 rfl rfl)<|e_uw 12 rfl rfl (zd 2 ty42 rfl rfl (.s2 (.t2 .nil)))<|e_pv 13 rfl rfl (zg yo rfl sz42 rfl rfl)<|e_uw 14 rfl rfl (zd 1 ty42 rfl rfl (.s2 (.t2 .nil)))<|zjc (qF_open 1 rfl) (fun _ _=> ?_)
 refine zjc (qF_open 2 rfl) (fun _ _=> ?_)
 refine e_one 4 (zm rfl rfl rfl rfl (.c rfl (.c rfl .n)) ce60 (zWc (w1:=w34) (w2:=w48) (x1:=(q1).num) (x2:=(((q2).den:Nat):Int)) (hb1:=by first|rfl|assumption|omega|(rw [yu];omega)|(decide +kernel)) (hb2:=by first|rfl|assumption|omega|(rw [yu];omega)|(decide +kernel))) (.c (j:=2) rfl (.c (j:=1) rfl .n)) ?_)
 rintro w310 -
 dsimp only [aq,nq,cq]
 refine e_one 9 (zm rfl rfl rfl rfl (.c rfl (.c rfl .n)) ce60 (zWc (w1:=w37) (w2:=w45) (x1:=(q2).num) (x2:=(((q1).den:Nat):Int)) (hb1:=by first|rfl|assumption|omega|(rw [yu];omega)|(decide +kernel)) (hb2:=by first|rfl|assumption|omega|(rw [yu];omega)|(decide +kernel))) (.c (j:=1) rfl (.c (j:=4) rfl .n)) ?_)
 rintro w311 -
 dsimp only [aq,nq,cq]
 refine e_one 10 (zm rfl rfl rfl rfl (.c rfl (.c rfl .n)) ce59 (zbf (w1:=w310) (w2:=w311) (x1:=((q1).num)*(((q2).den:Nat):Int)) (x2:=((q2).num)*(((q1).den:Nat):Int)) (hb1:=by first|rfl|assumption|omega|(rw [yu];omega)|(decide +kernel)) (hb2:=by first|rfl|assumption|omega|(rw [yu];omega)|(decide +kernel))) (.c (j:=1) rfl (.c (j:=0) rfl .n)) ?_)
 rintro w312 -
 dsimp only [aq,nq,cq]
 refine e_one 15 (zm rfl rfl rfl rfl (.c rfl (.c rfl .n)) ce60 (zWc (w1:=w45) (w2:=w48) (x1:=(((q1).den:Nat):Int)) (x2:=(((q2).den:Nat):Int)) (hb1:=by first|rfl|assumption|omega|(rw [yu];omega)|(decide +kernel)) (hb2:=by first|rfl|assumption|omega|(rw [yu];omega)|(decide +kernel))) (.c (j:=6) rfl (.c (j:=4) rfl .n)) ?_)
 rintro w313 -
 dsimp only [aq,nq,cq]
 refine e_one 16 (zm rfl rfl rfl rfl (.c rfl (.c rfl .n)) ce58 (zEc (w1:=w312) (w2:=w313) (x1:=(((q1).num)*(((q2).den:Nat):Int))+(((q2).num)*(((q1).den:Nat):Int))) (x2:=(((q1).den:Nat):Int)*(((q2).den:Nat):Int)) (hl1:=by first|rfl|assumption|omega|(rw [yu];omega)|(decide +kernel)) (hl2:=by first|rfl|assumption|omega|(rw [yu];omega)|(decide +kernel)) (hd:=by exact Int.mul_ne_zero (Big.den_ne q1) (Big.den_ne q2))) (.c (j:=1) rfl (.c (j:=0) rfl .n)) ?_)
 rintro ⟨w314,w415⟩ -
 dsimp only [aq,nq,cq]
 refine e_one 17 (zo kr rfl rfl rfl rfl rfl sz44 rfl (.t4 .nil) ?_)
 refine zM kr<|zf<|zR ?_
 exact zL Tryz.results25 (w314,w415) trivial (zr 0 ty44 rfl rfl (.t4 .nil)) rfl (ho:=(.n:PickO _ _ _)) ((.e (j:=0) rfl (by rw [Big.add_parts]) .n):SelR _ _ _)
theorem zff {k1:Bool} {u1:Wd} {v1:Wd} {q1:Rat} {k2:Bool} {u2:Wd} {v2:Wd} {q2:Rat} (hl:yM q1+yM q2+1≤1048576):Con yj 28 [.agg #[u1.b,u1.l,v1.b,v1.l],.agg #[u2.b,u2.l,v2.b,v2.l]] [] [qF k1 u1 v1 q1,qF k2 u2 v2 q2] (Y:=Wd×Wd) (fun y=>True) (fun y=> .agg #[y.1.b,y.1.l,y.2.b,y.2.l]) (fun y=>[]) (fun y=>[qF true y.1 y.2 (q1 - q2)]):=by
 refine zx Tryz.func28 rfl rfl rfl (fun c=> ?_)
 show RunC _ _ _ _ _ [(0,.agg #[u1.b,u1.l,v1.b,v1.l]),(1,.agg #[u2.b,u2.l,v2.b,v2.l])] [] [qF k1 u1 v1 q1,qF k2 u2 v2 q2]
 have a1:=yR q1
 have a2:=yS q1
 have a3:=yR q2
 have a4:=yS q2
 refine zj<|zc<|zJ rfl rfl (zda rfl rfl) (fun b1=> ?_)
 refine zJ rfl rfl (zda rfl rfl) (fun b2=> ?_)
 refine zJ rfl rfl (zp zr44 rfl) (fun b3=> ?_)
 refine zk<|zf<|zj<|zO (OW:=[boxA b3 44 (cw [wz,wz])]) (O:=[boxA b2 44 (cw [u2,v2]),boxA b1 44 (cw [u1,v1])]) 4 mixed (.then .ret) kr<|e_uw 0 rfl rfl (zd 2 ty44 rfl rfl (.t4 .nil))<|e_uw 1 rfl rfl (zd 1 ty44 rfl rfl (.t4 .nil))<|e_one 2 (zm rfl rfl rfl rfl (.c rfl .n) ce62 (zef (k1:=k2) (u1:=u2) (v1:=v2) (q1:=q2) (hl:=by first|rfl|assumption|omega|(rw [yu];omega)|(decide +kernel)|(rw [Big.hq_neg];omega))) (.c (j:=1) rfl .n) ?_)
 rintro ⟨w34,w45⟩ -
 dsimp only [aq,nq,cq]
 refine e_one 3 (zm rfl rfl rfl rfl (.c rfl (.c rfl .n)) ce25 (zYc (k1:=k1) (u1:=u1) (v1:=v1) (q1:=q1) (k2:=true) (u2:=w34) (v2:=w45) (q2:= - q2) (hl:=by first|rfl|assumption|omega|(rw [yu];omega)|(decide +kernel)|(rw [Big.hq_neg];omega))) (.c (j:=1) rfl (.c (j:=0) rfl .n)) ?_)
 rintro ⟨w36,w47⟩ -
 dsimp only [aq,nq,cq]
 refine e_one 4 (zo kr rfl rfl rfl rfl rfl sz44 rfl (.t4 .nil) ?_)
 refine zM kr<|zf<|zR ?_
 exact zL Tryz.results28 (w36,w47) trivial (zr 0 ty44 rfl rfl (.t4 .nil)) rfl (ho:=(.n:PickO _ _ _)) ((.e (j:=0) rfl (by rw [Rat.sub_eq_add_neg]) .n):SelR _ _ _)
theorem zxd {k1:Bool} {u1:Wd} {v1:Wd} {q1:Rat} {k2:Bool} {u2:Wd} {v2:Wd} {q2:Rat} (hl:yM q1+yM q2+1≤1048576):Con yj 38 [.agg #[u1.b,u1.l,v1.b,v1.l],.agg #[u2.b,u2.l,v2.b,v2.l]] [] [qF k1 u1 v1 q1,qF k2 u2 v2 q2] (Y:=Unit) (fun y=>True) (fun y=> yc yd (Big.sgq (q1 - q2))) (fun y=>[]) (fun y=>[]):=by
 refine zx Tryz.func38 rfl rfl rfl (fun c=> ?_)
 show RunC _ _ _ _ _ [(0,.agg #[u1.b,u1.l,v1.b,v1.l]),(1,.agg #[u2.b,u2.l,v2.b,v2.l])] [] [qF k1 u1 v1 q1,qF k2 u2 v2 q2]
 have hsb:=Big.hq_sub q1 q2
 refine zj<|zc<|zJ rfl rfl (zda rfl rfl) (fun b1=> ?_)
 refine zJ rfl rfl (zda rfl rfl) (fun b2=> ?_)
 refine e_p (zh rfl)<|zk<|zf<|zj<|zc<|e_ru (zd 1 ty44 rfl rfl (.t4 .nil))<|e_ru (zd 0 ty44 rfl rfl (.t4 .nil))<|zG rfl rfl (.c rfl (.c rfl .n)) ce28 (zff (k1:=k1) (u1:=u1) (v1:=v1) (q1:=q1) (k2:=k2) (u2:=u2) (v2:=v2) (q2:=q2) (hl:=ass)) (.c (j:=0) rfl (.c (j:=1) rfl .n)) ?_
 rintro ⟨w33,w44⟩ -
 dsimp only [aq,nq,cq]
 refine zV rfl rfl (.c rfl .n) ce53 (zCe (k1:=true) (u1:=w33) (v1:=w44) (q1:=q1 - q2) (hl:=by first|rfl|assumption|omega|(rw [yu];omega)|(decide +kernel))) (.c (j:=0) rfl .n)<|e_p (zh rfl)<|zk<|zf<|zR ?_
 exact zL Tryz.results38 () trivial (zD rfl) rfl (ho:=(.n:PickO _ _ _)) (.n:SelR _ _ _)
theorem znd {u1:Wd} {v1:Wd} {q1:Rat} {u2:Wd} {v2:Wd} {q2:Rat} (hl:yM q1+yM q2+1≤1048576):Con yj 27 [.agg #[u1.b,u1.l,v1.b,v1.l],.agg #[u2.b,u2.l,v2.b,v2.l]] [] [qF true u1 v1 q1,qF true u2 v2 q2] (Y:=Unit) (fun y=>True) (fun y=> .bool (decide (q1=q2))) (fun y=>[]) (fun y=>[]):=by
 refine zx Tryz.func27 rfl rfl rfl (fun c=> ?_)
 show RunC _ _ _ _ _ [(0,.agg #[u1.b,u1.l,v1.b,v1.l]),(1,.agg #[u2.b,u2.l,v2.b,v2.l])] [] [qF true u1 v1 q1,qF true u2 v2 q2]
 refine zj<|zc<|zJ rfl rfl (zda rfl rfl) (fun b1=> ?_)
 refine zJ rfl rfl (zda rfl rfl) (fun b2=> ?_)
 refine e_p (zh rfl)<|zk<|zf<|zIa (X:=Unit) (fun x=>True) (fun x=>[(4,.bool (decide (Big.sgq (q1 - q2)=0)))]) (fun x=>[boxA b2 44 (cw [u2,v2]),boxA b1 44 (cw [u1,v1])]) (fun x=>[qF true u1 v1 q1,qF true u2 v2 q2]) ?_ ?_
 ·
  refine zc<|e_ru (zd 1 ty44 rfl rfl (.t4 .nil))<|zV rfl rfl (.c rfl .n) ce31 (zDc (u1:=u1) (v1:=v1) (q1:=q1)) (.c (j:=0) rfl .n)<|e_mv rfl<|e_ru (zd 0 ty44 rfl rfl (.t4 .nil))<|zV rfl rfl (.c rfl .n) ce31 (zDc (u1:=u2) (v1:=v2) (q1:=q2)) (.c (j:=1) rfl .n)<|e_p (zU rfl rfl)<|e_mv rfl<|e_ru (zd 1 ty44 rfl rfl (.t4 .nil))<|e_ru (zd 0 ty44 rfl rfl (.t4 .nil))<|zV rfl rfl (.c rfl (.c rfl .n)) ce38 (zxd (k1:=true) (u1:=u1) (v1:=v1) (q1:=q1) (k2:=true) (u2:=u2) (v2:=v2) (q2:=q2) (hl:=ass)) (.c (j:=0) rfl (.c (j:=1) rfl .n))<|e_p (zMa rfl rfl)<|e_p (zU rfl rfl)<|e_p (zh rfl)<|zk ?_
  exact zna () (show True from by first|trivial|omega|simp_all) ((.c rfl .n):SubM _ _) (ho:=((.of [0,0] rfl):PickO _ _ _)) ((.of [0,1] rfl):SelR _ _ _)
 ·
  rintro ⟨⟩ -
  try dsimp only [cw]
  refine zR ?_
  exact zL Tryz.results27 () trivial (zD rfl) (congrArg Value.bool (decide_eq_decide.2 Big.sgq_sub_zero.symm)) (ho:=(.n:PickO _ _ _)) (.n:SelR _ _ _)
end Go.Proofs.YtjeahiahjgifgaaGreatDoor.Sp
namespace Go.Proofs.YtjeahiahjgifgaaGreatDoor.Sp
open Go
set_option linter.unusedVariables false
def Wd.zz (u v:Wd):Prop:=u.s=false∧v.s=false∧u.n=0∧v.n=0
instance (u v:Wd):Decidable (Wd.zz u v):=inferInstanceAs (Decidable (_∧_))
def qo (y:Big.RQ):Option Rat:=if Big.qok y then some (Big.qv y) else none
section
variable {P : Program} {O : List As} {R : List Fa} {f : Nat} {u v : Wd}
end
end Go.Proofs.YtjeahiahjgifgaaGreatDoor.Sp
namespace Go.Proofs.YtjeahiahjgifgaaGreatDoor.Sp
open Go
set_option linter.unusedVariables false
set_option maxRecDepth 100000
set_option maxHeartbeats 8000000
theorem zTb {cm:Sh.C} {h:Int} (h64fo: -9223372036854775808≤cm.fo∧cm.fo≤9223372036854775807) (h64cx: -9223372036854775808≤cm.cx∧cm.cx≤9223372036854775807) (h64cy: -9223372036854775808≤cm.cy∧cm.cy≤9223372036854775807) (h64h: -9223372036854775808≤h∧h≤9223372036854775807):Con yj 45 [.agg #[yc yd (cm.fo),yc yd (cm.cx),yc yd (cm.cy)],yc yd h] [] [] (Y:=Unit) (fun y=>True) (fun y=> .bool (decide (Sh.cam cm∧yU h))) (fun y=>[]) (fun y=>[]):=by
 refine zx Tryz.func45 rfl rfl rfl (fun c=> ?_)
 show RunC _ _ _ _ _ [(0,.agg #[yc yd (cm.fo),yc yd (cm.cx),yc yd (cm.cy)]),(1,yc yd h)] [] []
 refine zj<|zc<|zJ rfl rfl (zda rfl rfl) (fun b1=> ?_)
 refine e_p (zh rfl)<|zk<|zf<|zIa (X:=Unit) (fun x=>True) (fun x=>[(4,.bool (decide (((1≤cm.fo)∧(cm.fo≤1048576))∧(Sh.wi 1048576 ([cm.cx,cm.cy,h])))))]) (fun x=>[boxA b1 37 [yc yd (cm.fo),yc yd (cm.cx),yc yd (cm.cy)]]) (fun x=>[]) ?_ ?_
 ·
  refine zc<|e_p (zg yD rfl sz3 rfl rfl)<|e_ru (ze 0 ty3 rfl rfl rfl)<|e_p (zpb rfl rfl)<|zsa rfl rfl (zva rfl) (fun h2=> ?_) (fun h2=> ?_)
  ·
   refine e_p (zg yD rfl sz3 rfl rfl)<|e_ru (ze 0 ty3 rfl rfl rfl)<|e_p (zIc rfl rfl)<|e_p (zU rfl rfl)<|zsa rfl rfl (zva rfl) (fun h3=> ?_) (fun h3=> ?_)
   ·
    refine e_p (zg yD rfl sz35 rfl rfl)<|e_p (zg yx rfl sz3 rfl rfl)<|e_ru (ze 0 ty3 rfl rfl rfl)<|e_p (zg yD rfl sz35 rfl rfl)<|e_p (zg yx rfl sz3 rfl rfl)<|e_ru (ze 0 ty3 rfl rfl rfl)<|e_mv rfl<|zJa rfl rfl (zQ (enc:=fun z:Int=>[yc yd z]) (ok:=InK .i64) (h1:=fun _=>rfl) (h2:=fun _=>rfl) (k:=3) Tryz.underlying51 inf3 rfl dd dd dd (.c (x:=cm.cx) rfl rfl (fun _ _=>by exact zt.2 om) (.c (x:=cm.cy) rfl rfl (fun _ _=>by exact zt.2 om) (.c (x:=h) rfl rfl (fun _ _=>by exact zt.2 om) .n)))) (fun b4 _=> ?_)
    refine zqa 0 rfl .z<|zV rfl rfl (.c rfl (.c rfl .n)) ce42 (zmb (p:=some ⟨b4,0,none⟩) (n:=3) (cap:=3) (l:=[cm.cx,cm.cy,h]) (m:=1048576) (hn:=cbd) (hm:=cbd)) (.c (j:=0) rfl .n)<|e_p (zU rfl rfl)<|e_p (zh rfl)<|zk ?_
    exact zna () (show True from by first|trivial|omega|simp_all) ((.e rfl (congrArg Value.bool cbu) .n):SubM _ _) (ho:=((.c (i:=1) rfl .n):PickO _ _ _)) (.n:SelR _ _ _)
   ·
    refine e_no<|e_no<|e_no<|e_no<|e_no<|e_no<|e_no<|e_no<|e_no<|e_p (zU rfl rfl)<|e_p (zh rfl)<|zk ?_
    exact zna () (show True from by first|trivial|omega|simp_all) ((.e rfl (congrArg Value.bool cbu) .n):SubM _ _) (ho:=((.c (i:=0) rfl .n):PickO _ _ _)) (.n:SelR _ _ _)
  ·
   refine e_no<|e_no<|e_no<|e_p (zU rfl rfl)<|e_mv rfl<|e_no<|e_no<|e_no<|e_no<|e_no<|e_no<|e_no<|e_no<|e_no<|e_p (zU rfl rfl)<|e_p (zh rfl)<|zk ?_
   exact zna () (show True from by first|trivial|omega|simp_all) ((.e rfl (congrArg Value.bool cbu) .n):SubM _ _) (ho:=((.c (i:=0) rfl .n):PickO _ _ _)) (.n:SelR _ _ _)
 ·
  rintro ⟨⟩ -
  try dsimp only
  refine zR ?_
  exact zL Tryz.results45 () trivial (zD rfl) (congrArg Value.bool (decide_eq_decide.2 (by unfold Sh.cam yU;rw [Sh.wi_3];constructor <;> intro k <;> omega))) (ho:=(.n:PickO _ _ _)) (.n:SelR _ _ _)
theorem zbc {u:Int} {v:Int} (h64u: -9223372036854775808≤u∧u≤9223372036854775807) (h64v: -9223372036854775808≤v∧v≤9223372036854775807):Con yj 46 [.agg #[yc yd u,yc yd v]] [] [] (Y:=Unit) (fun y=>True) (fun y=> .bool (decide (yU u∧yU v∧Sh.inr (Sh.ro v)))) (fun y=>[]) (fun y=>[]):=by
 refine zx Tryz.func46 rfl rfl rfl (fun c=> ?_)
 show RunC _ _ _ _ _ [(0,.agg #[yc yd u,yc yd v])] [] []
 refine zj<|zc<|zJ rfl rfl (zda rfl rfl) (fun b1=> ?_)
 refine e_p (zh rfl)<|zk<|zf<|zIa (X:=Unit) (fun x=>True) (fun x=>[(2,.bool (decide ((Sh.wi 1048576 ([u,v]))∧(0≤(Sh.ro v)∧(Sh.ro v)<64))))]) (fun x=>[boxA b1 35 [yc yd u,yc yd v]]) (fun x=>[]) ?_ ?_
 ·
  refine zc<|e_p (zg yx rfl sz3 rfl rfl)<|e_ru (ze 0 ty3 rfl rfl rfl)<|e_p (zg yx rfl sz3 rfl rfl)<|e_ru (ze 0 ty3 rfl rfl rfl)<|zJa rfl rfl (zQ (enc:=fun z:Int=>[yc yd z]) (ok:=InK .i64) (h1:=fun _=>rfl) (h2:=fun _=>rfl) (k:=2) Tryz.underlying51 inf3 rfl dd dd dd (.c (x:=u) rfl rfl (fun _ _=>by exact zt.2 om) (.c (x:=v) rfl rfl (fun _ _=>by exact zt.2 om) .n))) (fun b2 _=> ?_)
  refine zqa 0 rfl .z<|zV rfl rfl (.c rfl (.c rfl .n)) ce42 (zmb (p:=some ⟨b2,0,none⟩) (n:=2) (cap:=2) (l:=[u,v]) (m:=1048576) (hn:=cbd) (hm:=cbd)) (.c (j:=0) rfl .n)<|zsa rfl rfl (zva rfl) (fun h3=> ?_) (fun h3=> ?_)
  ·
   refine e_ru (zd 1 ty35 rfl rfl (.t2 .nil))<|zV rfl rfl (.c rfl .n) ce74 (zId (u:=u) (v:=v)) (.n)<|zV rfl rfl (.c rfl .n) ce44 (zgd (r:=(Sh.ro v))) (.n)<|e_p (zU rfl rfl)<|e_p (zh rfl)<|zk ?_
   exact zna () (show True from by first|trivial|omega|simp_all) ((.e rfl (congrArg Value.bool cbu) .n):SubM _ _) (ho:=((.c (i:=1) rfl .n):PickO _ _ _)) (.n:SelR _ _ _)
  ·
   refine e_no<|e_no<|e_no<|e_p (zU rfl rfl)<|e_p (zh rfl)<|zk ?_
   exact zna () (show True from by first|trivial|omega|simp_all) ((.e rfl (congrArg Value.bool cbu) .n):SubM _ _) (ho:=((.c (i:=1) rfl .n):PickO _ _ _)) (.n:SelR _ _ _)
 ·
  rintro ⟨⟩ -
  try dsimp only
  refine zR ?_
  exact zL Tryz.results46 () trivial (zD rfl) (congrArg Value.bool (decide_eq_decide.2 (by unfold yU Sh.inr;rw [Sh.wi_2];constructor <;> intro k <;> omega))) (ho:=(.n:PickO _ _ _)) (.n:SelR _ _ _)
end Go.Proofs.YtjeahiahjgifgaaGreatDoor.Sp
namespace Go.Proofs.YtjeahiahjgifgaaGreatDoor.Sp
open Go
set_option linter.unusedVariables false
set_option maxRecDepth 100000
set_option maxHeartbeats 8000000
theorem zYb {s:Sh.S} {cm:Sh.C} {u:Int} {v:Int} {h:Int} (hfi: -9223372036854775808≤s.fi∧s.fi≤9223372036854775807) (hst: -9223372036854775808≤s.st∧s.st≤9223372036854775807) (hta: -9223372036854775808≤s.ta∧s.ta≤9223372036854775807) (htb: -9223372036854775808≤s.tb∧s.tb≤9223372036854775807) (hxa: -9223372036854775808≤s.xa∧s.xa≤9223372036854775807) (hya: -9223372036854775808≤s.ya∧s.ya≤9223372036854775807) (hza: -9223372036854775808≤s.za∧s.za≤9223372036854775807) (hqa: -9223372036854775808≤s.qa∧s.qa≤9223372036854775807) (hqb: -9223372036854775808≤s.qb∧s.qb≤9223372036854775807) (hqc: -9223372036854775808≤s.qc∧s.qc≤9223372036854775807) (hqd: -9223372036854775808≤s.qd∧s.qd≤9223372036854775807) (hxb: -9223372036854775808≤s.xb∧s.xb≤9223372036854775807) (hyb: -9223372036854775808≤s.yb∧s.yb≤9223372036854775807) (hzb: -9223372036854775808≤s.zb∧s.zb≤9223372036854775807) (hra: -9223372036854775808≤s.ra∧s.ra≤9223372036854775807) (hrb: -9223372036854775808≤s.rb∧s.rb≤9223372036854775807) (hrc: -9223372036854775808≤s.rc∧s.rc≤9223372036854775807) (hrd: -9223372036854775808≤s.rd∧s.rd≤9223372036854775807) (h64fo: -9223372036854775808≤cm.fo∧cm.fo≤9223372036854775807) (h64cx: -9223372036854775808≤cm.cx∧cm.cx≤9223372036854775807) (h64cy: -9223372036854775808≤cm.cy∧cm.cy≤9223372036854775807) (h64u: -9223372036854775808≤u∧u≤9223372036854775807) (h64v: -9223372036854775808≤v∧v≤9223372036854775807) (h64h: -9223372036854775808≤h∧h≤9223372036854775807):Con yj 24 [.agg #[yc yd (s.fi),yc yd (s.st),yc yd (s.ta),yc yd (s.xa),yc yd (s.ya),yc yd (s.za),yc yd (s.qa),yc yd (s.qb),yc yd (s.qc),yc yd (s.qd),yc yd (s.tb),yc yd (s.xb),yc yd (s.yb),yc yd (s.zb),yc yd (s.ra),yc yd (s.rb),yc yd (s.rc),yc yd (s.rd)],.agg #[yc yd (cm.fo),yc yd (cm.cx),yc yd (cm.cy)],.agg #[yc yd u,yc yd v],yc yd h] [] [sgF] (Y:=Wd×Wd×Wd×Wd) (fun y=>yO s cm u v h≠0→y.1=wz∧y.2.1=wz∧y.2.2.1=wz∧y.2.2.2=wz) (fun y=> .tuple #[.agg #[y.1.b,y.1.l,y.2.1.b,y.2.1.l,y.2.2.1.b,y.2.2.1.l,y.2.2.2.b,y.2.2.2.l],yc yd (yO s cm u v h)]) (fun y=>[]) (fun y=>[qF (decide (yO s cm u v h=0)) y.1 y.2.1 (Sh.Gx s cm u v h),qF (decide (yO s cm u v h=0)) y.2.2.1 y.2.2.2 (Sh.Gy s cm u v h)]):=by
 refine zx Tryz.func24 rfl rfl rfl (fun c=> ?_)
 show RunC _ _ _ _ _ [(0,.agg #[yc yd (s.fi),yc yd (s.st),yc yd (s.ta),yc yd (s.xa),yc yd (s.ya),yc yd (s.za),yc yd (s.qa),yc yd (s.qb),yc yd (s.qc),yc yd (s.qd),yc yd (s.tb),yc yd (s.xb),yc yd (s.yb),yc yd (s.zb),yc yd (s.ra),yc yd (s.rb),yc yd (s.rc),yc yd (s.rd)]),(1,.agg #[yc yd (cm.fo),yc yd (cm.cx),yc yd (cm.cy)]),(2,.agg #[yc yd u,yc yd v]),(3,yc yd h)] [] [sgF]
 refine zj<|zc<|zJ rfl rfl (zda rfl rfl) (fun b1=> ?_)
 refine zJ rfl rfl (zda rfl rfl) (fun b2=> ?_)
 refine zJ rfl rfl (zda rfl rfl) (fun b3=> ?_)
 refine zJ rfl rfl (zp zr46 rfl) (fun b4=> ?_)
 refine e_p (zh rfl)<|zk<|zf<|zj<|zj<|zc<|e_ru (zd 3 ty29 rfl rfl (.t8 (.t8 (.t2 .nil))))<|zV rfl rfl (.c rfl (.c rfl .n)) ce12 (zPc (s:=s) (n:=1) (hfi:=ass) (hst:=ass) (hta:=ass) (htb:=ass) (hxa:=ass) (hya:=ass) (hza:=ass) (hqa:=ass) (hqb:=ass) (hqc:=ass) (hqd:=ass) (hxb:=ass) (hyb:=ass) (hzb:=ass) (hra:=ass) (hrb:=ass) (hrc:=ass) (hrd:=ass)) (.n)<|e_p (zh rfl)<|zk<|zf<|zj<|zc<|e_mv rfl<|e_p (zvb rfl rfl)<|zk<|zf<|zT rfl (fun hc=> ?_) (fun hc=> ?_)
 ·
  refine zj<|zc<|e_p (zv zr46 rfl yr (.c sz44 (.c sz44 .n)) .n .n)<|e_mv rfl<|zl 0 rfl rfl rfl rfl rfl sz46 rfl (.t8 .nil) .z<|e_p (zh rfl)<|zk<|zf<|zR<|zq<|zbb (qF false wz wz 0) (fun g _=>qF_none g) ?_
  have hg9:yO s cm u v h=Sh.chk s 1:=if_neg hc
  have hg8:¬yO s cm u v h=0:=by rw [hg9];exact hc
  have hx9:Sh.Gx s cm u v h=0:=if_neg hg8
  have hy9:Sh.Gy s cm u v h=0:=if_neg hg8
  exact zDa Tryz.results24 (wz,wz,wz,wz) (fun _=>⟨rfl,rfl,rfl,rfl⟩) (zr 0 ty46 rfl rfl (.t8 .nil)) (zD rfl) (by rw [hg9];rfl) (ho:=(.n:PickO _ _ _)) ((.e (j:=0) rfl (by rw [hx9,decide_eq_false hg8]) (.e (j:=0) rfl (by rw [hy9,decide_eq_false hg8]) .n)):SelR _ _ _)
 ·
  have hc0:Sh.chk s 1=0:=Decidable.not_not.1 hc
  obtain ⟨hok,-,hlt,hnd⟩:=Sh.chk_ok hc0
  refine zB<|zf<|zj<|zIa (X:=Unit) (fun x=>True) (fun x=>[(25,.bool (decide ((¬(Sh.cam cm∧yU h))∨(¬(yU u∧yU v∧Sh.inr (Sh.ro v)))))),(9,yc yd 0),(8,ye (some ⟨b4,0,none⟩)),(6,ye (some ⟨b3,0,none⟩)),(5,ye (some ⟨b2,0,none⟩)),(4,ye (some ⟨b1,0,none⟩)),(3,yc yd h)]) (fun x=>[boxA b4 46 (cw [wz,wz,wz,wz]),boxA b3 35 [yc yd u,yc yd v],boxA b2 37 [yc yd (cm.fo),yc yd (cm.cx),yc yd (cm.cy)],boxA b1 29 (cS s)]) (fun x=>[sgF]) ?_ ?_
  ·
   refine zc<|e_ru (zd 2 ty37 rfl rfl (.t2 (.take .nil)))<|e_mv rfl<|zV rfl rfl (.c rfl (.c rfl .n)) ce45 (zTb (cm:=cm) (h:=h) (h64fo:=ass) (h64cx:=ass) (h64cy:=ass) (h64h:=ass)) (.n)<|e_p (zKa rfl)<|zsa rfl rfl (zva rfl) (fun h5=> ?_) (fun h5=> ?_)
   ·
    refine e_no<|e_no<|e_no<|e_p (zU rfl rfl)<|zk ?_
    exact zna () (show True from by first|trivial|omega|simp_all) ((.e rfl (congrArg Value.bool cbu) (.of rfl)):SubM _ _) (ho:=((.of [0,0,0,0] rfl):PickO _ _ _)) ((.c (j:=0) rfl .n):SelR _ _ _)
   ·
    refine e_ru (zd 1 ty35 rfl rfl (.t2 .nil))<|zV rfl rfl (.c rfl .n) ce46 (zbc (u:=u) (v:=v) (h64u:=ass) (h64v:=ass)) (.n)<|e_p (zKa rfl)<|e_p (zU rfl rfl)<|zk ?_
    exact zna () (show True from by first|trivial|omega|simp_all) ((.e rfl (congrArg Value.bool cbu) (.of rfl)):SubM _ _) (ho:=((.of [0,0,0,0] rfl):PickO _ _ _)) ((.c (j:=0) rfl .n):SelR _ _ _)
  ·
   rintro ⟨⟩ -
   try dsimp only [cw]
   refine zT rfl (fun hcp=> ?_) (fun hcp=> ?_)
   ·
    have hcp2:¬Sh.cp cm u v h:=fun k=>hcp.elim (fun e=>e ⟨k.1,k.2.2.2.1⟩) (fun e=>e ⟨k.2.1,k.2.2.1,k.2.2.2.2⟩)
    refine zj<|zc<|e_p (zv zr46 rfl yr (.c sz44 (.c sz44 .n)) .n .n)<|zl 0 rfl rfl rfl rfl rfl sz46 rfl (.t8 .nil) .z<|e_p (zh rfl)<|zk<|zf<|zR<|zq<|zbb (qF false wz wz 0) (fun g _=>qF_none g) ?_
    have hg9:yO s cm u v h=2:=(if_pos hc0).trans (if_neg hcp2)
    have hg8:¬yO s cm u v h=0:=by rw [hg9];decide
    have hx9:Sh.Gx s cm u v h=0:=if_neg hg8
    have hy9:Sh.Gy s cm u v h=0:=if_neg hg8
    exact zDa Tryz.results24 (wz,wz,wz,wz) (fun _=>⟨rfl,rfl,rfl,rfl⟩) (zr 0 ty46 rfl rfl (.t8 .nil)) (zD rfl) (by rw [hg9];rfl) (ho:=(.n:PickO _ _ _)) ((.e (j:=0) rfl (by rw [hx9,decide_eq_false hg8]) (.e (j:=0) rfl (by rw [hy9,decide_eq_false hg8]) .n)):SelR _ _ _)
   ·
    have hca:=Decidable.not_not.1 (fun e=>hcp (Or.inl e))
    have hcb:=Decidable.not_not.1 (fun e=>hcp (Or.inr e))
    have hcp2:Sh.cp cm u v h:=⟨hca.1,hcb.1,hcb.2.1,hca.2,hcb.2.2⟩
    refine zB<|zf<|zj<|zc<|e_ru (zd 3 ty29 rfl rfl (.t8 (.t8 (.t2 .nil))))<|e_ru (zd 2 ty37 rfl rfl (.t2 (.take .nil)))<|e_ru (zd 1 ty35 rfl rfl (.t2 .nil))<|e_mv rfl<|zG rfl rfl (.c rfl (.c rfl (.c rfl (.c rfl .n)))) ce47 (zhd (s:=s) (cm:=cm) (u:=u) (v:=v) (h:=h) (hok:=cbd) (hlt:=cbd) (hc:=by exact hcp2.1) (hu:=by exact hcp2.2.1) (hv:=by exact hcp2.2.2.1) (hh:=by exact hcp2.2.2.2.1) (hr:=by exact hcp2.2.2.2.2)) (.c (j:=0) rfl .n) ?_
    rintro ⟨w16,w27,w38,w49⟩ hph
    dsimp only [aq,nq,cq]
    replace hph:Sh.gc s cm u v h≠0→w16=wz∧w27=wz∧w38=wz∧w49=wz:=hph
    refine e_p (zw rfl rfl)<|e_p (zw rfl rfl)<|zl 0 rfl rfl rfl rfl rfl sz46 rfl (.t8 .nil) .z<|e_p (zh rfl)<|zk<|zf<|zR ?_
    have hg9:yO s cm u v h=Sh.gc s cm u v h:=(if_pos hc0).trans (if_pos hcp2)
    have hx9:Sh.Gx s cm u v h=Sh.gx s cm u v h:=by by_cases k:Sh.gc s cm u v h=0;rw [show Sh.Gx s cm u v h=Sh.gx s cm u v h from if_pos (hg9.trans k)];(rw [show Sh.Gx s cm u v h=0 from if_neg (fun e=>k (hg9.symm.trans e)),show Sh.gx s cm u v h=0 from if_neg k])
    have hy9:Sh.Gy s cm u v h=Sh.gy s cm u v h:=by by_cases k:Sh.gc s cm u v h=0;rw [show Sh.Gy s cm u v h=Sh.gy s cm u v h from if_pos (hg9.trans k)];(rw [show Sh.Gy s cm u v h=0 from if_neg (fun e=>k (hg9.symm.trans e)),show Sh.gy s cm u v h=0 from if_neg k])
    exact zDa Tryz.results24 (w16,w27,w38,w49) (fun k=>hph (by rw [← hg9];exact k)) (zr 0 ty46 rfl rfl (.t8 .nil)) (zD rfl) (by rw [hg9]) (ho:=(.n:PickO _ _ _)) ((.e (j:=0) rfl (by rw [hx9,hg9]) (.e (j:=1) rfl (by rw [hy9,hg9]) .n)):SelR _ _ _)
end Go.Proofs.YtjeahiahjgifgaaGreatDoor.Sp
namespace Go.Proofs.YtjeahiahjgifgaaGreatDoor.Sp
open Go
set_option linter.unusedVariables false
set_option maxRecDepth 100000
set_option maxHeartbeats 8000000
theorem zNb {s:Sh.S} {cm:Sh.C} {u:Int} {v:Int} {r:Int} {h:Int} (hfi: -9223372036854775808≤s.fi∧s.fi≤9223372036854775807) (hst: -9223372036854775808≤s.st∧s.st≤9223372036854775807) (hta: -9223372036854775808≤s.ta∧s.ta≤9223372036854775807) (htb: -9223372036854775808≤s.tb∧s.tb≤9223372036854775807) (hxa: -9223372036854775808≤s.xa∧s.xa≤9223372036854775807) (hya: -9223372036854775808≤s.ya∧s.ya≤9223372036854775807) (hza: -9223372036854775808≤s.za∧s.za≤9223372036854775807) (hqa: -9223372036854775808≤s.qa∧s.qa≤9223372036854775807) (hqb: -9223372036854775808≤s.qb∧s.qb≤9223372036854775807) (hqc: -9223372036854775808≤s.qc∧s.qc≤9223372036854775807) (hqd: -9223372036854775808≤s.qd∧s.qd≤9223372036854775807) (hxb: -9223372036854775808≤s.xb∧s.xb≤9223372036854775807) (hyb: -9223372036854775808≤s.yb∧s.yb≤9223372036854775807) (hzb: -9223372036854775808≤s.zb∧s.zb≤9223372036854775807) (hra: -9223372036854775808≤s.ra∧s.ra≤9223372036854775807) (hrb: -9223372036854775808≤s.rb∧s.rb≤9223372036854775807) (hrc: -9223372036854775808≤s.rc∧s.rc≤9223372036854775807) (hrd: -9223372036854775808≤s.rd∧s.rd≤9223372036854775807) (h64fo: -9223372036854775808≤cm.fo∧cm.fo≤9223372036854775807) (h64cx: -9223372036854775808≤cm.cx∧cm.cx≤9223372036854775807) (h64cy: -9223372036854775808≤cm.cy∧cm.cy≤9223372036854775807) (h64u: -9223372036854775808≤u∧u≤9223372036854775807) (h64v: -9223372036854775808≤v∧v≤9223372036854775807) (h64r: -9223372036854775808≤r∧r≤9223372036854775807) (h64h: -9223372036854775808≤h∧h≤9223372036854775807):Con yj 14 [.agg #[yc yd (s.fi),yc yd (s.st),yc yd (s.ta),yc yd (s.xa),yc yd (s.ya),yc yd (s.za),yc yd (s.qa),yc yd (s.qb),yc yd (s.qc),yc yd (s.qd),yc yd (s.tb),yc yd (s.xb),yc yd (s.yb),yc yd (s.zb),yc yd (s.ra),yc yd (s.rb),yc yd (s.rc),yc yd (s.rd)],.agg #[yc yd (cm.fo),yc yd (cm.cx),yc yd (cm.cy)],.agg #[yc yd u,yc yd v],yc yd r,yc yd h] [] [sgF] (Y:=Wd×Wd×Wd×Wd) (fun y=>yN s cm u v r h≠0→y.1=wz∧y.2.1=wz∧y.2.2.1=wz∧y.2.2.2=wz) (fun y=> .tuple #[.agg #[y.1.b,y.1.l,y.2.1.b,y.2.1.l,y.2.2.1.b,y.2.2.1.l,y.2.2.2.b,y.2.2.2.l],yc yd (yN s cm u v r h)]) (fun y=>[]) (fun y=>[qF (decide (yN s cm u v r h=0)) y.1 y.2.1 (Sh.Cx s cm u v r h),qF (decide (yN s cm u v r h=0)) y.2.2.1 y.2.2.2 (Sh.Cy s cm u v r h)]):=by
 refine zx Tryz.func14 rfl rfl rfl (fun c=> ?_)
 show RunC _ _ _ _ _ [(0,.agg #[yc yd (s.fi),yc yd (s.st),yc yd (s.ta),yc yd (s.xa),yc yd (s.ya),yc yd (s.za),yc yd (s.qa),yc yd (s.qb),yc yd (s.qc),yc yd (s.qd),yc yd (s.tb),yc yd (s.xb),yc yd (s.yb),yc yd (s.zb),yc yd (s.ra),yc yd (s.rb),yc yd (s.rc),yc yd (s.rd)]),(1,.agg #[yc yd (cm.fo),yc yd (cm.cx),yc yd (cm.cy)]),(2,.agg #[yc yd u,yc yd v]),(3,yc yd r),(4,yc yd h)] [] [sgF]
 refine zj<|zc<|zJ rfl rfl (zda rfl rfl) (fun b1=> ?_)
 refine zJ rfl rfl (zda rfl rfl) (fun b2=> ?_)
 refine zJ rfl rfl (zda rfl rfl) (fun b3=> ?_)
 refine zJ rfl rfl (zp zr46 rfl) (fun b4=> ?_)
 refine e_p (zh rfl)<|zk<|zf<|zj<|zj<|zc<|e_ru (zd 3 ty29 rfl rfl (.t8 (.t8 (.t2 .nil))))<|zV rfl rfl (.c rfl (.c rfl .n)) ce12 (zPc (s:=s) (n:=1) (hfi:=ass) (hst:=ass) (hta:=ass) (htb:=ass) (hxa:=ass) (hya:=ass) (hza:=ass) (hqa:=ass) (hqb:=ass) (hqc:=ass) (hqd:=ass) (hxb:=ass) (hyb:=ass) (hzb:=ass) (hra:=ass) (hrb:=ass) (hrc:=ass) (hrd:=ass)) (.n)<|e_p (zh rfl)<|zk<|zf<|zj<|zc<|e_mv rfl<|e_p (zvb rfl rfl)<|zk<|zf<|zT rfl (fun hc=> ?_) (fun hc=> ?_)
 ·
  refine zj<|zc<|e_p (zv zr46 rfl yr (.c sz44 (.c sz44 .n)) .n .n)<|e_mv rfl<|zl 0 rfl rfl rfl rfl rfl sz46 rfl (.t8 .nil) .z<|e_p (zh rfl)<|zk<|zf<|zR<|zq<|zbb (qF false wz wz 0) (fun g _=>qF_none g) ?_
  have hg9:yN s cm u v r h=Sh.chk s 1:=if_neg hc
  have hg8:¬yN s cm u v r h=0:=by rw [hg9];exact hc
  have hx9:Sh.Cx s cm u v r h=0:=if_neg hg8
  have hy9:Sh.Cy s cm u v r h=0:=if_neg hg8
  exact zDa yP (wz,wz,wz,wz) (fun _=>⟨rfl,rfl,rfl,rfl⟩) (zr 0 ty46 rfl rfl (.t8 .nil)) (zD rfl) (by rw [hg9];rfl) (ho:=(.n:PickO _ _ _)) ((.e (j:=0) rfl (by rw [hx9,decide_eq_false hg8]) (.e (j:=0) rfl (by rw [hy9,decide_eq_false hg8]) .n)):SelR _ _ _)
 ·
  have hc0:Sh.chk s 1=0:=Decidable.not_not.1 hc
  obtain ⟨hok,-,hlt,hnd⟩:=Sh.chk_ok hc0
  refine zB<|zf<|zj<|zIa (X:=Unit) (fun x=>True) (fun x=>[(34,.bool (decide (((¬(0≤r∧r<64))∨(¬(Sh.cam cm∧yU h)))∨(¬(yU u∧yU v∧Sh.inr (Sh.ro v)))))),(11,yc yd 0),(10,ye (some ⟨b4,0,none⟩)),(7,ye (some ⟨b3,0,none⟩)),(6,ye (some ⟨b2,0,none⟩)),(5,ye (some ⟨b1,0,none⟩)),(3,yc yd r),(4,yc yd h)]) (fun x=>[boxA b4 46 (cw [wz,wz,wz,wz]),boxA b3 35 [yc yd u,yc yd v],boxA b2 37 [yc yd (cm.fo),yc yd (cm.cx),yc yd (cm.cy)],boxA b1 29 (cS s)]) (fun x=>[sgF]) ?_ ?_
  ·
   refine zc<|e_mv rfl<|zV rfl rfl (.c rfl .n) ce44 (zgd (r:=r)) (.n)<|e_p (zKa rfl)<|zsa rfl rfl (zva rfl) (fun h5=> ?_) (fun h5=> ?_)
   ·
    refine e_no<|e_no<|e_no<|e_no<|e_p (zU rfl rfl)<|e_mv rfl<|e_no<|e_no<|e_no<|e_p (zU rfl rfl)<|zk ?_
    exact zna () (show True from by first|trivial|omega|simp_all) ((.e rfl (congrArg Value.bool cbu) (.of rfl)):SubM _ _) (ho:=((.of [0,0,0,0] rfl):PickO _ _ _)) ((.c (j:=0) rfl .n):SelR _ _ _)
   ·
    refine e_ru (zd 2 ty37 rfl rfl (.t2 (.take .nil)))<|e_mv rfl<|zV rfl rfl (.c rfl (.c rfl .n)) ce45 (zTb (cm:=cm) (h:=h) (h64fo:=ass) (h64cx:=ass) (h64cy:=ass) (h64h:=ass)) (.n)<|e_p (zKa rfl)<|e_p (zU rfl rfl)<|zsa rfl rfl (zva rfl) (fun h6=> ?_) (fun h6=> ?_)
    ·
     refine e_no<|e_no<|e_no<|e_p (zU rfl rfl)<|zk ?_
     exact zna () (show True from by first|trivial|omega|simp_all) ((.e rfl (congrArg Value.bool cbu) (.of rfl)):SubM _ _) (ho:=((.of [0,0,0,0] rfl):PickO _ _ _)) ((.c (j:=0) rfl .n):SelR _ _ _)
    ·
     refine e_ru (zd 1 ty35 rfl rfl (.t2 .nil))<|zV rfl rfl (.c rfl .n) ce46 (zbc (u:=u) (v:=v) (h64u:=ass) (h64v:=ass)) (.n)<|e_p (zKa rfl)<|e_p (zU rfl rfl)<|zk ?_
     exact zna () (show True from by first|trivial|omega|simp_all) ((.e rfl (congrArg Value.bool cbu) (.of rfl)):SubM _ _) (ho:=((.of [0,0,0,0] rfl):PickO _ _ _)) ((.c (j:=0) rfl .n):SelR _ _ _)
  ·
   rintro ⟨⟩ -
   try dsimp only [cw]
   refine zT rfl (fun hcr=> ?_) (fun hcr=> ?_)
   ·
    have hcr2:¬(Sh.inr r∧Sh.cp cm u v h):=fun k=>hcr.elim (fun e=>e.elim (fun e=>e k.1) (fun e=>e ⟨k.2.1,k.2.2.2.2.1⟩)) (fun e=>e ⟨k.2.2.1,k.2.2.2.1,k.2.2.2.2.2⟩)
    refine zj<|zc<|e_p (zv zr46 rfl yr (.c sz44 (.c sz44 .n)) .n .n)<|zl 0 rfl rfl rfl rfl rfl sz46 rfl (.t8 .nil) .z<|e_p (zh rfl)<|zk<|zf<|zR<|zq<|zbb (qF false wz wz 0) (fun g _=>qF_none g) ?_
    have hg9:yN s cm u v r h=2:=(if_pos hc0).trans (if_neg hcr2)
    have hg8:¬yN s cm u v r h=0:=by rw [hg9];decide
    have hx9:Sh.Cx s cm u v r h=0:=if_neg hg8
    have hy9:Sh.Cy s cm u v r h=0:=if_neg hg8
    exact zDa yP (wz,wz,wz,wz) (fun _=>⟨rfl,rfl,rfl,rfl⟩) (zr 0 ty46 rfl rfl (.t8 .nil)) (zD rfl) (by rw [hg9];rfl) (ho:=(.n:PickO _ _ _)) ((.e (j:=0) rfl (by rw [hx9,decide_eq_false hg8]) (.e (j:=0) rfl (by rw [hy9,decide_eq_false hg8]) .n)):SelR _ _ _)
   ·
    have hir2:=Decidable.not_not.1 (fun e=>hcr (Or.inl (Or.inl e)))
    have hca:=Decidable.not_not.1 (fun e=>hcr (Or.inl (Or.inr e)))
    have hcb:=Decidable.not_not.1 (fun e=>hcr (Or.inr e))
    have hcp2:Sh.cp cm u v h:=⟨hca.1,hcb.1,hcb.2.1,hca.2,hcb.2.2⟩
    have hgq:=Sh.gx_hq hok hcp2.1 hcp2.2.1 hcp2.2.2.1 hcp2.2.2.2.2 hcp2.2.2.2.1
    refine zB<|zf<|zj<|zc<|e_ru (zd 3 ty29 rfl rfl (.t8 (.t8 (.t2 .nil))))<|e_ru (zd 2 ty37 rfl rfl (.t2 (.take .nil)))<|e_ru (zd 1 ty35 rfl rfl (.t2 .nil))<|e_mv rfl<|zG rfl rfl (.c rfl (.c rfl (.c rfl (.c rfl .n)))) ce47 (zhd (s:=s) (cm:=cm) (u:=u) (v:=v) (h:=h) (hok:=cbd) (hlt:=cbd) (hc:=by exact hcp2.1) (hu:=by exact hcp2.2.1) (hv:=by exact hcp2.2.2.1) (hh:=by exact hcp2.2.2.2.1) (hr:=by exact hcp2.2.2.2.2)) (.c (j:=0) rfl .n) ?_
    rintro ⟨w17,w28,w39,w410⟩ hy11
    dsimp only [aq,nq,cq]
    replace hy11:Sh.gc s cm u v h≠0→w17=wz∧w28=wz∧w39=wz∧w410=wz:=hy11
    refine e_mv rfl<|e_p (zw rfl rfl)<|e_p (zw rfl rfl)<|zJ rfl rfl (zp zr46 rfl) (fun b12=> ?_)
    refine zl 0 rfl rfl rfl rfl rfl sz46 rfl (.t8 .nil) .z<|e_p (zh rfl)<|zk<|zf<|zj<|zj<|zc<|e_mv rfl<|e_p (zvb rfl rfl)<|zk<|zf<|zT rfl (fun hgg=> ?_) (fun hgg=> ?_)
    ·
     refine zj<|zc<|e_p (zv zr46 rfl yr (.c sz44 (.c sz44 .n)) .n .n)<|e_mv rfl<|zl 1 rfl rfl rfl rfl rfl sz46 rfl (.t8 .nil) (.s .z)<|e_p (zh rfl)<|zk<|zf<|zR<|zq<|zbb (qF false wz wz 0) (fun g _=>qF_none g) ?_
     have hg9:yN s cm u v r h=Sh.gc s cm u v h:=((if_pos hc0).trans (if_pos ⟨hir2,hcp2⟩)).trans (if_neg hgg)
     have hg8:¬yN s cm u v r h=0:=by rw [hg9];exact hgg
     have hx9:Sh.Cx s cm u v r h=0:=if_neg hg8
     have hy9:Sh.Cy s cm u v r h=0:=if_neg hg8
     exact zDa yP (wz,wz,wz,wz) (fun _=>⟨rfl,rfl,rfl,rfl⟩) (zr 1 ty46 rfl rfl (.t8 .nil)) (zD rfl) (by rw [hg9];rfl) (ho:=(.n:PickO _ _ _)) ((.e (j:=0) rfl (by rw [hx9,decide_eq_false hg8]) (.e (j:=0) rfl (by rw [hy9,decide_eq_false hg8]) .n)):SelR _ _ _)
    ·
     have hgz:=Decidable.not_not.1 hgg
     refine zB<|zf<|zj<|zc<|e_ru (zd 4 ty29 rfl rfl (.t8 (.t8 (.t2 .nil))))<|e_ru (zd 3 ty37 rfl rfl (.t2 (.take .nil)))<|e_mv rfl<|e_ru (zd 0 ty46 rfl rfl (.t8 .nil))<|e_mv rfl<|zG rfl rfl (.c rfl (.c rfl (.c rfl (.c rfl (.c rfl .n))))) ce48 (zWe (s:=s) (cm:=cm) (r:=r) (k1:=(decide (Sh.gc s cm u v h=0))) (u1:=w17) (v1:=w28) (ax:=(Sh.gx s cm u v h)) (k2:=(decide (Sh.gc s cm u v h=0))) (u2:=w39) (v2:=w410) (ay:=(Sh.gy s cm u v h)) (h:=h) (hok:=cbd) (hlt:=cbd) (hc:=by exact hcp2.1) (hr:=by exact hir2) (hqx:=by exact hgq.1) (hqy:=by exact hgq.2) (hh:=by exact hcp2.2.2.2.1)) (.c (j:=2) rfl (.c (j:=0) rfl (.c (j:=1) rfl .n))) ?_
     rintro ⟨w113,w214,w315,w416⟩ hph
     dsimp only [aq,nq,cq]
     replace hph:Sh.ic s r (Sh.gx s cm u v h) (Sh.gy s cm u v h) h≠0→w113=wz∧w214=wz∧w315=wz∧w416=wz:=hph
     refine e_p (zw rfl rfl)<|e_p (zw rfl rfl)<|zl 1 rfl rfl rfl rfl rfl sz46 rfl (.t8 .nil) (.s .z)<|e_p (zh rfl)<|zk<|zf<|zR ?_
     have hg9:yN s cm u v r h=Sh.ic s r (Sh.gx s cm u v h) (Sh.gy s cm u v h) h:=((if_pos hc0).trans (if_pos ⟨hir2,hcp2⟩)).trans (if_pos hgz)
     have hx9:Sh.Cx s cm u v r h=Sh.ix s cm r (Sh.gx s cm u v h) (Sh.gy s cm u v h) h:=by by_cases k:Sh.ic s r (Sh.gx s cm u v h) (Sh.gy s cm u v h) h=0;rw [show Sh.Cx s cm u v r h=Sh.ix s cm r (Sh.gx s cm u v h) (Sh.gy s cm u v h) h from if_pos (hg9.trans k)];(rw [show Sh.Cx s cm u v r h=0 from if_neg (fun e=>k (hg9.symm.trans e)),show Sh.ix s cm r (Sh.gx s cm u v h) (Sh.gy s cm u v h) h=0 from if_neg k])
     have hy9:Sh.Cy s cm u v r h=Sh.iy s cm r (Sh.gx s cm u v h) (Sh.gy s cm u v h) h:=by by_cases k:Sh.ic s r (Sh.gx s cm u v h) (Sh.gy s cm u v h) h=0;rw [show Sh.Cy s cm u v r h=Sh.iy s cm r (Sh.gx s cm u v h) (Sh.gy s cm u v h) h from if_pos (hg9.trans k)];(rw [show Sh.Cy s cm u v r h=0 from if_neg (fun e=>k (hg9.symm.trans e)),show Sh.iy s cm r (Sh.gx s cm u v h) (Sh.gy s cm u v h) h=0 from if_neg k])
     exact zDa yP (w113,w214,w315,w416) (fun k=>hph (by rw [← hg9];exact k)) (zr 1 ty46 rfl rfl (.t8 .nil)) (zD rfl) (by rw [hg9]) (ho:=(.n:PickO _ _ _)) ((.e (j:=0) rfl (by rw [hx9,hg9]) (.e (j:=1) rfl (by rw [hy9,hg9]) .n)):SelR _ _ _)
end Go.Proofs.YtjeahiahjgifgaaGreatDoor.Sp
namespace Go.Proofs.YtjeahiahjgifgaaGreatDoor.Sh
open Go.Proofs.YtjeahiahjgifgaaGreatDoor.Big
theorem k0:((0:Int):Rat)=0:=rfl
theorem k1:((1:Int):Rat)=1:=rfl
theorem k2:((2:Int):Rat)=2:=rfl
def mm (x y:Int):Rat:=((x:Int):Rat)*((y:Int):Rat)
def nn (q:Q4):Rat:=((((q.1:Int):Rat)*((q.1:Int):Rat)+((q.2.1:Int):Rat)*((q.2.1:Int):Rat))+((q.2.2.1:Int):Rat)*((q.2.2.1:Int):Rat))+((q.2.2.2:Int):Rat)*((q.2.2.2:Int):Rat)
theorem e4 (a b c d:Rat):s4 a b c d=a+b+c+d:=by unfold s4;rw [k0];grind
theorem e2 (a b:Rat):s2 a b=a+b:=by unfold s2;rw [k0];grind
def moved (s:S) (k dx dy:Int):S:={s with xa:=s.xa+dx,ya:=s.ya+dy,xb:=s.xb+dx,yb:=s.yb+dy,qa:=k*s.qa,qb:=k*s.qb,qc:=k*s.qc,qd:=k*s.qd,ra:=k*s.ra,rb:=k*s.rb,rc:=k*s.rc,rd:=k*s.rd}
theorem gcd_scale (k:Nat) (a b:Nat):Nat.gcd (k*a) (k*b)=k*Nat.gcd a b:=Nat.gcd_mul_left k a b
theorem red_scale {k:Int} (hk:0<k) (q:Q4):red (k*q.1,k*q.2.1,k*q.2.2.1,k*q.2.2.2)=red q:=by
  have hg:(g4 (k*q.1,k*q.2.1,k*q.2.2.1,k*q.2.2.2):Int)=k*(g4 q:Int):=by
    have:g4 (k*q.1,k*q.2.1,k*q.2.2.1,k*q.2.2.2)=k.natAbs*g4 q:=by
      unfold g4 gl ls
      simp only [List.foldl,Nat.gcd_zero_left,Int.natAbs_mul,gcd_scale]
    rw [this,Int.natCast_mul,Int.natAbs_of_nonneg (by omega)]
  unfold red
  rw [hg]
  simp only [Int.mul_tdiv_mul_of_pos _ _ hk]
theorem raw_moved {s:S} {k dx dy:Int} (r:Int):raw (moved s k dx dy) r=(k*(raw s r).1,k*(raw s r).2.1,k*(raw s r).2.2.1,k*(raw s r).2.2.2):=by
  have e:∀a b:Int,mix (moved s k dx dy) r (k*a) (k*b)=k*mix s r a b:=fun a b=>by
    unfold mix moved tm;simp only
    rw [Int.mul_add,←Int.mul_assoc,←Int.mul_assoc,←Int.mul_assoc,←Int.mul_assoc,Int.mul_comm (s.tb - _) k,Int.mul_comm (_ - s.ta) k]
  show (mix _ _ (k*s.qa) (k*s.ra),mix _ _ (k*s.qb) (k*s.rb),mix _ _ (k*s.qc) (k*s.rc),mix _ _ (k*s.qd) (k*s.rd))=_
  rw [e,e,e,e];rfl
theorem rot_moved {s:S} {k dx dy:Int} (hk:0<k) (r:Int):rot (moved s k dx dy) r=rot s r:=by unfold rot;rw [raw_moved,red_scale hk]
theorem ps_moved {s:S} {k dx dy d:Int} (r a b:Int):ps (moved s k dx dy) r (a+d) (b+d)=ps s r a b+((d:Int):Rat):=by
  unfold ps;rw [show b+d - (a+d)=b - a by omega,Rat.intCast_add]
  show _+frc s r*_=_
  grind
theorem pos_moved {s:S} {k dx dy:Int} (r:Int):pos (moved s k dx dy) r=((pos s r).1+((dx:Int):Rat),(pos s r).2.1+((dy:Int):Rat),(pos s r).2.2):=by
  unfold pos
  refine Prod.ext (ps_moved r s.xa s.xb) (Prod.ext (ps_moved r s.ya s.yb) rfl)
theorem z4_scale {k:Int} (hk:0<k) (a b c d:Int):z4 (k*a,k*b,k*c,k*d)↔z4 (a,b,c,d):=by
  unfold z4
  simp only [Int.mul_eq_zero]
  have:k≠0:=by omega
  simp [this]
theorem chk_moved {s:S} {k dx dy n:Int} (hk:0<k) (hA:okA s↔okA (moved s k dx dy)) (hB:okB s↔okB (moved s k dx dy)):chk (moved s k dx dy) n=chk s n:=by
  have e1:okN (moved s k dx dy)↔okN s:=Iff.rfl
  have e2:z4 (qA (moved s k dx dy))↔z4 (qA s):=z4_scale hk _ _ _ _
  have e3:z4 (qB (moved s k dx dy))↔z4 (qB s):=z4_scale hk _ _ _ _
  have e4:dgn (moved s k dx dy) n.toNat↔dgn s n.toNat:=by unfold dgn;simp only [rot_moved hk]
  unfold chk
  simp only [e1,←hA,←hB,e2,e3,e4]
  rfl
theorem ground_moved {s:S} {k dx dy:Int} (hk:0<k) (c:C) (u v h:Int):gc (moved s k dx dy) c u v h=gc s c u v h∧(gc s c u v h=0→gx (moved s k dx dy) c u v h=gx s c u v h+((dx:Int):Rat)∧gy (moved s k dx dy) c u v h=gy s c u v h+((dy:Int):Rat)):=by
  have e1:gd (moved s k dx dy) c u v=gd s c u v:=by unfold gd;rw [rot_moved hk]
  have e2:gk (moved s k dx dy) c u v h=gk s c u v h:=by unfold gk;rw [e1,pos_moved]
  have e3:gc (moved s k dx dy) c u v h=gc s c u v h:=by unfold gc;rw [rot_moved hk,e1,e2]
  refine ⟨e3,fun g=> ?_⟩
  unfold gx gy
  rw [if_pos g,if_pos g,e3,if_pos g,if_pos g,pos_moved,e1,e2]
  constructor <;> simp only <;> grind
theorem image_moved {s:S} {k dx dy:Int} (hk:0<k) (c:C) (r:Int) (x y:Rat) (h:Int):ic (moved s k dx dy) r (x+((dx:Int):Rat)) (y+((dy:Int):Rat)) h=ic s r x y h∧ix (moved s k dx dy) c r (x+((dx:Int):Rat)) (y+((dy:Int):Rat)) h=ix s c r x y h∧iy (moved s k dx dy) c r (x+((dx:Int):Rat)) (y+((dy:Int):Rat)) h=iy s c r x y h:=by
  have e1:iv (moved s k dx dy) r (x+((dx:Int):Rat)) (y+((dy:Int):Rat)) h=iv s r x y h:=by
    unfold iv;rw [pos_moved]
    refine Prod.ext ?_ (Prod.ext ?_ rfl) <;> simp only <;> grind
  have e2:id (moved s k dx dy) r (x+((dx:Int):Rat)) (y+((dy:Int):Rat)) h=id s r x y h:=by unfold id;rw [rot_moved hk,e1]
  have e3:ic (moved s k dx dy) r (x+((dx:Int):Rat)) (y+((dy:Int):Rat)) h=ic s r x y h:=by unfold ic;rw [rot_moved hk,e2]
  refine ⟨e3,?_,?_⟩
  · unfold ix;rw [e3,e2]
  · unfold iy;rw [e3,e2]
end Go.Proofs.YtjeahiahjgifgaaGreatDoor.Sh
namespace Go.Proofs.YtjeahiahjgifgaaGreatDoor.Sh
open Go.Proofs.YtjeahiahjgifgaaGreatDoor.Big
def Pc (s:S) (r:Int):Int:=if chk s 1=0 then (if inr r then (if z4 (rot s r) then 13 else 0) else 2) else chk s 1
def seen (s:S) (c:C) (x y:Rat) (h r:Int):Prop:=(ic s r x y h=0∧0≤sgq (iy s c r x y h - ((64*r:Int):Rat)))∧sgq (iy s c r x y h - ((64*r+64:Int):Rat))<0
instance (s:S) (c:C) (x y:Rat) (h r:Int):Decidable (seen s c x y h r):=by unfold seen;infer_instance
def rc (c:C) (h:Int):Prop:=cam c∧inb h
instance (c:C) (h:Int):Decidable (rc c h):=by unfold rc;infer_instance
def lcam (c:C) (lr ll:List Int):Prop:=(∀r∈lr,0≤r∧r<64)∧cam c∧wi 1048576 ll
instance (c:C) (lr ll:List Int):Decidable (lcam c lr ll):=by unfold lcam;infer_instance
def exS:S:=⟨0,10,0,0,0,1000,0,1,0,0,100,100,0,1000,0,1,0,0⟩
def exC:C:=⟨640,0,0⟩
theorem ex_chk:chk exS 64=0:=by decide +kernel
theorem ex_gc:Gc exS exC 64 128 0=0:=by decide +kernel
theorem ex_gx:Gx exS exC 64 128 0=((120:Int):Rat):=by decide +kernel
theorem ex_gy:Gy exS exC 64 128 0=((-200:Int):Rat):=by decide +kernel
theorem ex_cc:Cc exS exC 64 128 0 0=0:=by decide +kernel
theorem ex_cx:Cx exS exC 64 128 0 0=Rat.divInt 384 5:=by decide +kernel
theorem ex_cy:Cy exS exC 64 128 0 0=((128:Int):Rat):=by decide +kernel
end Go.Proofs.YtjeahiahjgifgaaGreatDoor.Sh
namespace Go.Proofs.YtjeahiahjgifgaaGreatDoor.Sp
open Go
set_option linter.unusedVariables false
set_option maxRecDepth 100000
set_option maxHeartbeats 8000000
theorem zsb {u1:Wd} {v1:Wd} {q1:Rat} {u2:Wd} {v2:Wd} {q2:Rat} {u3:Wd} {v3:Wd} {q3:Rat} {u4:Wd} {v4:Wd} {q4:Rat} (hl1:yM q1+yM q3+1≤1048576) (hl2:yM q2+yM q4+1≤1048576):Con yj 21 [.agg #[u1.b,u1.l,v1.b,v1.l,u2.b,u2.l,v2.b,v2.l],.agg #[u3.b,u3.l,v3.b,v3.l,u4.b,u4.l,v4.b,v4.l]] [] [qF true u1 v1 q1,qF true u2 v2 q2,qF true u3 v3 q3,qF true u4 v4 q4] (Y:=Unit) (fun y=>True) (fun y=> .bool (decide (q1=q3∧q2=q4))) (fun y=>[]) (fun y=>[]):=by
 refine zx Tryz.func21 rfl rfl rfl (fun c=> ?_)
 show RunC _ _ _ _ _ [(0,.agg #[u1.b,u1.l,v1.b,v1.l,u2.b,u2.l,v2.b,v2.l]),(1,.agg #[u3.b,u3.l,v3.b,v3.l,u4.b,u4.l,v4.b,v4.l])] [] [qF true u1 v1 q1,qF true u2 v2 q2,qF true u3 v3 q3,qF true u4 v4 q4]
 refine zj<|zc<|zJ rfl rfl (zda rfl rfl) (fun b1=> ?_)
 refine zJ rfl rfl (zda rfl rfl) (fun b2=> ?_)
 refine e_p (zh rfl)<|zk<|zf<|zIa (X:=Unit) (fun x=>True) (fun x=>[(4,.bool (decide ((q1=q3)∧(q2=q4))))]) (fun x=>[boxA b2 46 (cw [u3,v3,u4,v4]),boxA b1 46 (cw [u1,v1,u2,v2])]) (fun x=>[qF true u1 v1 q1,qF true u2 v2 q2,qF true u3 v3 q3,qF true u4 v4 q4]) ?_ ?_
 ·
  refine zc<|e_p (zg yr rfl sz44 rfl rfl)<|e_ru (zd 1 ty44 rfl rfl (.t4 .nil))<|e_p (zg yr rfl sz44 rfl rfl)<|e_ru (zd 0 ty44 rfl rfl (.t4 .nil))<|zV rfl rfl (.c rfl (.c rfl .n)) ce27 (znd (u1:=u1) (v1:=v1) (q1:=q1) (u2:=u3) (v2:=v3) (q2:=q3) (hl:=ass)) (.c (j:=0) rfl (.c (j:=2) rfl .n))<|zsa rfl rfl (zva rfl) (fun h3=> ?_) (fun h3=> ?_)
  ·
   refine e_p (zg yr rfl sz44 rfl rfl)<|e_ru (zd 1 ty44 rfl rfl (.s4 (.t4 .nil)))<|e_p (zg yr rfl sz44 rfl rfl)<|e_ru (zd 0 ty44 rfl rfl (.s4 (.t4 .nil)))<|zV rfl rfl (.c rfl (.c rfl .n)) ce27 (znd (u1:=u2) (v1:=v2) (q1:=q2) (u2:=u4) (v2:=v4) (q2:=q4) (hl:=ass)) (.c (j:=1) rfl (.c (j:=3) rfl .n))<|e_p (zU rfl rfl)<|e_p (zh rfl)<|zk ?_
   exact zna () (show True from by first|trivial|omega|simp_all) ((.e rfl (congrArg Value.bool cbu) .n):SubM _ _) (ho:=((.of [0,0] rfl):PickO _ _ _)) ((.of [0,1,2,3] rfl):SelR _ _ _)
  ·
   refine e_no<|e_no<|e_no<|e_no<|e_no<|e_p (zU rfl rfl)<|e_p (zh rfl)<|zk ?_
   exact zna () (show True from by first|trivial|omega|simp_all) ((.e rfl (congrArg Value.bool cbu) .n):SubM _ _) (ho:=((.of [0,0] rfl):PickO _ _ _)) ((.of [0,1,2,3] rfl):SelR _ _ _)
 ·
  rintro ⟨⟩ -
  try dsimp only [cw]
  refine zR ?_
  exact zL Tryz.results21 () trivial (zD rfl) rfl (ho:=(.n:PickO _ _ _)) (.n:SelR _ _ _)
theorem zwb:Con yj 40 [] [] [] (Y:=Unit) (fun y=>True) (fun y=> .agg #[yc yd 0,yc yd 10,yc yd 0,yc yd 0,yc yd 0,yc yd 1000,yc yd 0,yc yd 1,yc yd 0,yc yd 0,yc yd 100,yc yd 100,yc yd 0,yc yd 1000,yc yd 0,yc yd 1,yc yd 0,yc yd 0]) (fun y=>[]) (fun y=>[]):=by
 refine zx Tryz.func40 rfl rfl rfl (fun c=> ?_)
 show RunC _ _ _ _ _ [] [] []
 refine zj<|zc<|zJ rfl rfl (zp zr29 rfl) (fun b1=> ?_)
 refine zk<|zf<|zj<|zc<|e_p (zv zr25 rfl Tryz.underlying25 (.c sz3 (.c sz3 (.c sz3 (.c sz3 .n)))) (.c rfl .n) (.c rfl rfl rfl (.skip (.take .nil)) .n))<|zJ rfl rfl (zp zr25 rfl) (fun b2=> ?_)
 refine zl 0 rfl rfl rfl rfl rfl sz25 rfl (.t4 .nil) .z<|zk<|zf<|zj<|zc<|e_p (zv zr23 rfl Tryz.underlying23 (.c sz3 (.c sz3 (.c sz3 .n))) (.c rfl .n) (.c rfl rfl rfl (.s2 (.take .nil)) .n))<|e_ru (zd 0 ty25 rfl rfl (.t4 .nil))<|e_p (zv zr27 rfl Tryz.underlying27 (.c sz3 (.c sz23 (.c sz25 .n))) (.c rfl (.c rfl .n)) (.c rfl rfl rfl (.skip (.t2 (.take .nil))) (.c rfl rfl rfl (.s4 (.t4 .nil)) .n)))<|e_p (zv zr23 rfl Tryz.underlying23 (.c sz3 (.c sz3 (.c sz3 .n))) (.c rfl (.c rfl .n)) (.c rfl rfl rfl (.take .nil) (.c rfl rfl rfl (.s2 (.take .nil)) .n)))<|e_ru (zd 0 ty25 rfl rfl (.t4 .nil))<|e_p (zv zr27 rfl Tryz.underlying27 (.c sz3 (.c sz23 (.c sz25 .n))) (.c rfl (.c rfl (.c rfl .n))) (.c rfl rfl rfl (.take .nil) (.c rfl rfl rfl (.skip (.t2 (.take .nil))) (.c rfl rfl rfl (.s4 (.t4 .nil)) .n))))<|e_p (zv zr29 rfl Tryz.underlying29 (.c sz3 (.c sz3 (.c sz27 (.c sz27 .n)))) (.c rfl (.c rfl (.c rfl .n))) (.c rfl rfl rfl (.skip (.take .nil)) (.c rfl rfl rfl (.s2 (.t8 .nil)) (.c rfl rfl rfl (.s8 (.s2 (.t8 .nil))) .n))))<|zl 1 rfl rfl rfl rfl rfl sz29 rfl (.t8 (.t8 (.t2 .nil))) (.s .z)<|zk<|zf<|zR ?_
 exact zL Tryz.results40 () trivial (zr 1 ty29 rfl rfl (.t8 (.t8 (.t2 .nil)))) rfl (ho:=(.n:PickO _ _ _)) (.n:SelR _ _ _)
end Go.Proofs.YtjeahiahjgifgaaGreatDoor.Sp
namespace Go.Proofs.YtjeahiahjgifgaaGreatDoor.Sp
open Go
set_option linter.unusedVariables false
set_option maxRecDepth 100000
set_option maxHeartbeats 8000000
theorem zgf:Con yj 11 [] [] [sgF] (Y:=Unit) (fun y=>True) (fun y=> .bool true) (fun y=>[]) (fun y=>[]):=by
 refine zx Tryz.func11 rfl rfl rfl (fun c=> ?_)
 show RunC _ _ _ _ _ [] [] [sgF]
 refine zj<|zc<|e_p (zh rfl)<|zk<|zf<|zj<|zc<|e_p (zv zr37 rfl yD (.c sz3 (.c sz35 .n)) (.c rfl .n) (.c rfl rfl rfl (.take .nil) .n))<|zJ rfl rfl (zp zr37 rfl) (fun b1=> ?_)
 refine zl 0 rfl rfl rfl rfl rfl sz37 rfl (.t2 (.take .nil)) .z<|zk<|zf<|zj<|zO (OW:=[]) (O:=[boxA b1 37 [yc yd 640,yc yd 0,yc yd 0]]) 8 mixed (.then .ret) kr<|e_u 1 rfl rfl (zd 0 ty37 rfl rfl (.t2 (.take .nil)))<|e_pv 2 rfl rfl (zv zr35 rfl yx (.c sz3 (.c sz3 .n)) (.c rfl (.c rfl .n)) (.c rfl rfl rfl (.take .nil) (.c rfl rfl rfl (.skip (.take .nil)) .n)))<|zAc (m':=[(12,.agg #[yc yd 64,yc yd 128]),(11,.agg #[yc yd 640,yc yd 0,yc yd 0]),(1,ye (some ⟨b1,0,none⟩)),(0,.bool false)]) (R':=[sgF]) ((.of rfl):SubM _ _) (List.Perm.refl _) (List.Perm.refl _) ((.c (j:=0) rfl .n):SelR _ _ _)<|zia (X:=Wd×Wd×Wd×Wd×Nat) (k':=0) (L':=(lb 10 1023)) (fun (u3_1,u3_2,u3_3,u3_4,u7_1)=>([(3,yc yd (yO Sh.exS Sh.exC 64 128 0)),(2,ye (some ⟨u7_1,0,none⟩)),(1,ye (some ⟨b1,0,none⟩)),(0,.bool false)],[boxA u7_1 46 (cw [u3_1,u3_2,u3_3,u3_4])],[boxA b1 37 [yc yd 640,yc yd 0,yc yd 0]],[qF (decide (yO Sh.exS Sh.exC 64 128 0=0)) u3_1 u3_2 (Sh.Gx Sh.exS Sh.exC 64 128 0),qF (decide (yO Sh.exS Sh.exC 64 128 0=0)) u3_3 u3_4 (Sh.Gy Sh.exS Sh.exC 64 128 0),sgF])) ?_ (fun hD0=> ?_)
 ·
  rintro ⟨u3_1,u3_2,u3_3,u3_4,u7_1⟩
  dsimp only [cw,cS]
  refine zM kr<|zf<|zj ?_
  have e2:(decide (yO Sh.exS Sh.exC 64 128 0=0))=true:=by exact decide_eq_true Sh.ex_gc
  rw [e2]
  have e3:(Sh.Gx Sh.exS Sh.exC 64 128 0:Rat)=((120:Int):Rat):=by exact Sh.ex_gx
  rw [e3]
  have e4:(Sh.Gy Sh.exS Sh.exC 64 128 0:Rat)=((-200:Int):Rat):=by exact Sh.ex_gy
  rw [e4]
  have e5:(yO Sh.exS Sh.exC 64 128 0:Int)=0:=by exact Sh.ex_gc
  rw [e5]
  refine zO (OW:=[]) (O:=[boxA u7_1 46 (cw [u3_1,u3_2,u3_3,u3_4]),boxA b1 37 [yc yd 640,yc yd 0,yc yd 0]]) 8 mixed (.then .ret) kr<|e_u 1 rfl rfl (zd 1 ty37 rfl rfl (.t2 (.take .nil)))<|e_pv 2 rfl rfl (zv zr35 rfl yx (.c sz3 (.c sz3 .n)) (.c rfl (.c rfl .n)) (.c rfl rfl rfl (.take .nil) (.c rfl rfl rfl (.skip (.take .nil)) .n)))<|zAc (m':=[(19,.agg #[yc yd 64,yc yd 128]),(18,.agg #[yc yd 640,yc yd 0,yc yd 0]),(3,yc yd 0),(2,ye (some ⟨u7_1,0,none⟩)),(0,.bool false)]) (R':=[qF true u3_1 u3_2 ((120:Int):Rat),qF true u3_3 u3_4 ((-200:Int):Rat),sgF]) ((.of rfl):SubM _ _) (List.Perm.refl _) (List.Perm.refl _) ((.of [0,1,2] rfl):SelR _ _ _)<|zia (X:=Wd×Wd×Wd×Wd×Nat) (k':=0) (L':=(lb 10 1023)) (fun (u3_1r2,u3_2r2,u3_3r2,u3_4r2,u7_1r2)=>([(5,yc yd (yN Sh.exS Sh.exC 64 128 0 0)),(4,ye (some ⟨u7_1r2,0,none⟩)),(3,yc yd 0),(2,ye (some ⟨u7_1,0,none⟩)),(0,.bool false)],[boxA u7_1r2 46 (cw [u3_1r2,u3_2r2,u3_3r2,u3_4r2])],[boxA u7_1 46 (cw [u3_1,u3_2,u3_3,u3_4]),boxA b1 37 [yc yd 640,yc yd 0,yc yd 0]],[qF (decide (yN Sh.exS Sh.exC 64 128 0 0=0)) u3_1r2 u3_2r2 (Sh.Cx Sh.exS Sh.exC 64 128 0 0),qF (decide (yN Sh.exS Sh.exC 64 128 0 0=0)) u3_3r2 u3_4r2 (Sh.Cy Sh.exS Sh.exC 64 128 0 0),qF true u3_1 u3_2 ((120:Int):Rat),qF true u3_3 u3_4 ((-200:Int):Rat),sgF])) ?_ (fun hD0=> ?_)
  ·
   rintro ⟨u3_1r2,u3_2r2,u3_3r2,u3_4r2,u7_1r2⟩
   dsimp only [cw,cS]
   refine zM kr<|zf<|zj ?_
   have e6:(decide (yN Sh.exS Sh.exC 64 128 0 0=0))=true:=by exact decide_eq_true Sh.ex_cc
   rw [e6]
   have e7:(Sh.Cx Sh.exS Sh.exC 64 128 0 0:Rat)=Rat.divInt 384 5:=by exact Sh.ex_cx
   rw [e7]
   have e8:(Sh.Cy Sh.exS Sh.exC 64 128 0 0:Rat)=((128:Int):Rat):=by exact Sh.ex_cy
   rw [e8]
   have e9:(yN Sh.exS Sh.exC 64 128 0 0:Int)=0:=by exact Sh.ex_cc
   rw [e9]
   refine zc<|zG rfl rfl (.c rfl (.c rfl .n)) ce41 (zBe (z1:=384) (z2:=5) (hz1:=yp) (hz2:=yp) (hy:=yp)) (.n) ?_
   rintro ⟨w310,w411⟩ -
   dsimp only [aq,nq,cq]
   refine e_mv rfl<|e_p (zw rfl rfl)<|e_p (zw rfl rfl)<|zJ rfl rfl (zp zr44 rfl) (fun b12=> ?_)
   refine zl 0 rfl rfl rfl rfl rfl sz44 rfl (.t4 .nil) .z<|e_p (zh rfl)<|zk<|zf<|zj<|zO (OW:=[]) (O:=[boxA b12 44 (cw [w310,w411]),boxA u7_1r2 46 (cw [u3_1r2,u3_2r2,u3_3r2,u3_4r2]),boxA u7_1 46 (cw [u3_1,u3_2,u3_3,u3_4]),boxA b1 37 [yc yd 640,yc yd 0,yc yd 0]]) 100000 mixed (.then .ret) kr<|e_dm 0 rfl rfl rfl<|e_pv 1 rfl rfl (zMa rfl rfl)<|e_dm 2 rfl rfl rfl<|e_dm 3 rfl rfl rfl<|e_pv 4 rfl rfl (zMa rfl rfl)<|e_pv 5 rfl rfl (zU rfl rfl)<|e_dm 6 rfl rfl rfl<|e_u 7 rfl rfl (zd 2 ty46 rfl rfl (.t8 .nil))<|e_one 8 (zm rfl rfl rfl rfl (.c rfl .n) ce22 (zub (z:=120) (hz:=yp)) (.n) ?_)
   rintro ⟨w313,w414⟩ -
   dsimp only [aq,nq,cq]
   refine e_one 9 (zm rfl rfl rfl rfl (.c rfl .n) ce22 (zub (z:=(-200)) (hz:=yp)) (.n) ?_)
   rintro ⟨w315,w416⟩ -
   dsimp only [aq,nq,cq]
   refine e_pv 10 rfl rfl (zv zr46 rfl yr (.c sz44 (.c sz44 .n)) (.c rfl (.c rfl .n)) (.c rfl rfl rfl (.t4 .nil) (.c rfl rfl rfl (.s4 (.t4 .nil)) .n)))<|e_one 11 (zBa rfl rfl rfl rfl (.c rfl (.c rfl .n)) ce21 (zsb (u1:=u3_1) (v1:=u3_2) (q1:=((120:Int):Rat)) (u2:=u3_3) (v2:=u3_4) (q2:=((-200:Int):Rat)) (u3:=w313) (v3:=w414) (q3:=((120:Int):Rat)) (u4:=w315) (v4:=w416) (q4:=(((-200):Int):Rat)) (hl1:=yp) (hl2:=yp)) (.c (j:=5) rfl (.c (j:=6) rfl (.c (j:=1) rfl (.c (j:=0) rfl .n)))) ?_)
   rw [show (decide (((120:Int):Rat)=((120:Int):Rat)∧((-200:Int):Rat)=(((-200):Int):Rat)))=true from by exact decide_eq_true ⟨rfl,rfl⟩]
   refine e_pv 12 rfl rfl (zU rfl rfl)<|e_dm 13 rfl rfl rfl<|e_u 14 rfl rfl (zd 1 ty46 rfl rfl (.t8 .nil))<|e_u 15 rfl rfl (zd 0 ty44 rfl rfl (.t4 .nil))<|e_one 16 (zm rfl rfl rfl rfl (.c rfl .n) ce22 (zub (z:=128) (hz:=yp)) (.n) ?_)
   rintro ⟨w317,w418⟩ -
   dsimp only [aq,nq,cq]
   refine e_pv 17 rfl rfl (zv zr46 rfl yr (.c sz44 (.c sz44 .n)) (.c rfl (.c rfl .n)) (.c rfl rfl rfl (.t4 .nil) (.c rfl rfl rfl (.s4 (.t4 .nil)) .n)))<|e_one 18 (zBa rfl rfl rfl rfl (.c rfl (.c rfl .n)) ce21 (zsb (u1:=u3_1r2) (v1:=u3_2r2) (q1:=(Rat.divInt 384 5)) (u2:=u3_3r2) (v2:=u3_4r2) (q2:=((128:Int):Rat)) (u3:=w310) (v3:=w411) (q3:=Rat.divInt 384 5) (u4:=w317) (v4:=w418) (q4:=((128:Int):Rat)) (hl1:=yp) (hl2:=yp)) (.c (j:=4) rfl (.c (j:=5) rfl (.c (j:=3) rfl (.c (j:=0) rfl .n)))) ?_)
   rw [show (decide ((Rat.divInt 384 5)=(Rat.divInt 384 5)∧((128:Int):Rat)=((128:Int):Rat)))=true from by exact decide_eq_true ⟨rfl,rfl⟩]
   refine e_pv 19 rfl rfl (zU rfl rfl)<|e_dm 20 rfl rfl rfl<|e_one 21 (zBa rfl rfl rfl rfl (.n) ce40 (zwb) (.n) ?_)
   refine e_one 22 (zBa rfl rfl rfl rfl (.c rfl (.c rfl .n)) ce12 (zPc (s:=Sh.exS) (n:=64) (hfi:=yp) (hst:=yp) (hta:=yp) (htb:=yp) (hxa:=yp) (hya:=yp) (hza:=yp) (hqa:=yp) (hqb:=yp) (hqc:=yp) (hqd:=yp) (hxb:=yp) (hyb:=yp) (hzb:=yp) (hra:=yp) (hrb:=yp) (hrc:=yp) (hrd:=yp)) (.n) ?_)
   refine e_pv 23 rfl rfl (zMa rfl rfl) ?_
   rw [show (decide (Sh.chk Sh.exS 64=0))=true from by exact decide_eq_true Sh.ex_chk]
   refine e_pv 24 rfl rfl (zU rfl rfl)<|e_pv 25 rfl rfl (zh rfl)<|zM kr<|zf<|zR ?_
   exact zL Tryz.results11 () trivial (zD rfl) rfl (ho:=(.n:PickO _ _ _)) (.n:SelR _ _ _)
  refine zia (X:=Wd×Wd×Wd×Wd×Nat) (k':=2) (L':=(lb 10 255)) (fun (u3_1r2,u3_2r2,u3_3r2,u3_4r2,u7_1r2)=>([(4,ye (some ⟨u7_1r2,0,none⟩)),(22,yc yd (yN Sh.exS Sh.exC 64 128 0 0)),(21,.agg (cw [u3_1r2,u3_2r2,u3_3r2,u3_4r2]).toArray),(3,yc yd 0),(2,ye (some ⟨u7_1,0,none⟩)),(0,.bool false)],[boxA u7_1r2 46 (cw [wz,wz,wz,wz])],[boxA u7_1 46 (cw [u3_1,u3_2,u3_3,u3_4]),boxA b1 37 [yc yd 640,yc yd 0,yc yd 0]],[qF (decide (yN Sh.exS Sh.exC 64 128 0 0=0)) u3_1r2 u3_2r2 (Sh.Cx Sh.exS Sh.exC 64 128 0 0),qF (decide (yN Sh.exS Sh.exC 64 128 0 0=0)) u3_3r2 u3_4r2 (Sh.Cy Sh.exS Sh.exC 64 128 0 0),qF true u3_1 u3_2 ((120:Int):Rat),qF true u3_3 u3_4 ((-200:Int):Rat),sgF])) ?_ (fun hD1=> ?_)
  ·
   rintro ⟨u3_1r2,u3_2r2,u3_3r2,u3_4r2,u7_1r2⟩
   dsimp only [cw,cS]
   refine zRa 8 kr ?_
   ·
    refine zo kr rfl rfl rfl rfl rfl sz46 rfl (.t8 .nil)<|e_pv 9 rfl rfl (zh rfl) ?_
    exact zN (hD0 (u3_1r2,u3_2r2,u3_3r2,u3_4r2,u7_1r2)) kr ((.of rfl):SubM _ _) .rfl .rfl ((.of [0,1,2,3,4] rfl):SelR _ _ _)
  refine zia (X:=Wd×Wd×Wd×Wd) (k':=3) (L':=(lb 10 127)) (fun (u3_1r2,u3_2r2,u3_3r2,u3_4r2)=>([(22,yc yd (yN Sh.exS Sh.exC 64 128 0 0)),(21,.agg (cw [u3_1r2,u3_2r2,u3_3r2,u3_4r2]).toArray),(3,yc yd 0),(2,ye (some ⟨u7_1,0,none⟩)),(0,.bool false)],[],[boxA u7_1 46 (cw [u3_1,u3_2,u3_3,u3_4]),boxA b1 37 [yc yd 640,yc yd 0,yc yd 0]],[qF (decide (yN Sh.exS Sh.exC 64 128 0 0=0)) u3_1r2 u3_2r2 (Sh.Cx Sh.exS Sh.exC 64 128 0 0),qF (decide (yN Sh.exS Sh.exC 64 128 0 0=0)) u3_3r2 u3_4r2 (Sh.Cy Sh.exS Sh.exC 64 128 0 0),qF true u3_1 u3_2 ((120:Int):Rat),qF true u3_3 u3_4 ((-200:Int):Rat),sgF])) ?_ (fun hD2=> ?_)
  ·
   rintro ⟨u3_1r2,u3_2r2,u3_3r2,u3_4r2⟩
   dsimp only [cw,cS]
   refine zRa 7 kr ?_
   ·
    refine zya rfl rfl rfl rfl (zp zr46 rfl) (fun u7_1r2 _=> ?_)
    exact zN (hD1 (u3_1r2,u3_2r2,u3_3r2,u3_4r2,u7_1r2)) kr ((.of rfl):SubM _ _) .rfl .rfl ((.of [0,1,2,3,4] rfl):SelR _ _ _)
  refine zia (X:=Nat) (k':=6) (L':=(lb 10 135)) (fun u7_1r2=>([(4,ye (some ⟨u7_1r2,0,none⟩)),(17,.agg #[yc yd 0,yc yd 10,yc yd 0,yc yd 0,yc yd 0,yc yd 1000,yc yd 0,yc yd 1,yc yd 0,yc yd 0,yc yd 100,yc yd 100,yc yd 0,yc yd 1000,yc yd 0,yc yd 1,yc yd 0,yc yd 0]),(19,.agg #[yc yd 64,yc yd 128]),(18,.agg #[yc yd 640,yc yd 0,yc yd 0]),(3,yc yd 0),(2,ye (some ⟨u7_1,0,none⟩)),(0,.bool false)],[boxA u7_1r2 46 (cw [wz,wz,wz,wz])],[boxA u7_1 46 (cw [u3_1,u3_2,u3_3,u3_4]),boxA b1 37 [yc yd 640,yc yd 0,yc yd 0]],[qF true u3_1 u3_2 ((120:Int):Rat),qF true u3_3 u3_4 ((-200:Int):Rat),sgF])) ?_ (fun hD3=> ?_)
  ·
   rintro u7_1r2
   dsimp only [cw,cS]
   refine zRa 3 kr ?_
   ·
    refine zm rfl rfl rfl rfl (.c rfl (.c rfl (.c rfl (.c rfl (.c rfl .n))))) ce14 (zNb (s:=Sh.exS) (cm:=Sh.exC) (u:=64) (v:=128) (r:=0) (h:=0) (hfi:=yp) (hst:=yp) (hta:=yp) (htb:=yp) (hxa:=yp) (hya:=yp) (hza:=yp) (hqa:=yp) (hqb:=yp) (hqc:=yp) (hqd:=yp) (hxb:=yp) (hyb:=yp) (hzb:=yp) (hra:=yp) (hrb:=yp) (hrc:=yp) (hrd:=yp) (h64fo:=yp) (h64cx:=yp) (h64cy:=yp) (h64u:=yp) (h64v:=yp) (h64r:=yp) (h64h:=yp)) (.c (j:=2) rfl .n) ?_
    rintro ⟨u3_1r2,u3_2r2,u3_3r2,u3_4r2⟩ hph2
    dsimp only [aq,nq,cq]
    replace hph2:yN Sh.exS Sh.exC 64 128 0 0≠0→u3_1r2=wz∧u3_2r2=wz∧u3_3r2=wz∧u3_4r2=wz:=hph2
    refine e_dm 4 rfl rfl rfl<|e_pv 5 rfl rfl (zw rfl rfl)<|e_pv 6 rfl rfl (zw rfl rfl) ?_
    exact zN (hD1 (u3_1r2,u3_2r2,u3_3r2,u3_4r2,u7_1r2)) kr ((.of rfl):SubM _ _) .rfl .rfl ((.of [0,1,2,3,4] rfl):SelR _ _ _)
  refine zia (X:=Unit) (k':=7) (L':=(lb 10 7)) (fun _=>([(17,.agg #[yc yd 0,yc yd 10,yc yd 0,yc yd 0,yc yd 0,yc yd 1000,yc yd 0,yc yd 1,yc yd 0,yc yd 0,yc yd 100,yc yd 100,yc yd 0,yc yd 1000,yc yd 0,yc yd 1,yc yd 0,yc yd 0]),(19,.agg #[yc yd 64,yc yd 128]),(18,.agg #[yc yd 640,yc yd 0,yc yd 0]),(3,yc yd 0),(2,ye (some ⟨u7_1,0,none⟩)),(0,.bool false)],[],[boxA u7_1 46 (cw [u3_1,u3_2,u3_3,u3_4]),boxA b1 37 [yc yd 640,yc yd 0,yc yd 0]],[qF true u3_1 u3_2 ((120:Int):Rat),qF true u3_3 u3_4 ((-200:Int):Rat),sgF])) ?_ (fun hD4=> ?_)
  ·
   rintro ⟨⟩
   dsimp only [cw,cS]
   refine zqb 3 7 kr ?_ ?_
   ·
    refine zm rfl rfl rfl rfl (.c rfl (.c rfl (.c rfl (.c rfl (.c rfl .n))))) ce14 (zNb (s:=Sh.exS) (cm:=Sh.exC) (u:=64) (v:=128) (r:=0) (h:=0) (hfi:=yp) (hst:=yp) (hta:=yp) (htb:=yp) (hxa:=yp) (hya:=yp) (hza:=yp) (hqa:=yp) (hqb:=yp) (hqc:=yp) (hqd:=yp) (hxb:=yp) (hyb:=yp) (hzb:=yp) (hra:=yp) (hrb:=yp) (hrc:=yp) (hrd:=yp) (h64fo:=yp) (h64cx:=yp) (h64cy:=yp) (h64u:=yp) (h64v:=yp) (h64r:=yp) (h64h:=yp)) (.c (j:=2) rfl .n) ?_
    rintro ⟨u3_1r2,u3_2r2,u3_3r2,u3_4r2⟩ hph2
    dsimp only [aq,nq,cq]
    replace hph2:yN Sh.exS Sh.exC 64 128 0 0≠0→u3_1r2=wz∧u3_2r2=wz∧u3_3r2=wz∧u3_4r2=wz:=hph2
    refine e_dm 4 rfl rfl rfl<|e_pv 5 rfl rfl (zw rfl rfl)<|e_pv 6 rfl rfl (zw rfl rfl) ?_
    exact zN (hD2 (u3_1r2,u3_2r2,u3_3r2,u3_4r2)) kr ((.of rfl):SubM _ _) .rfl .rfl ((.of [0,1,2,3,4] rfl):SelR _ _ _)
   ·
    refine zya rfl rfl rfl rfl (zp zr46 rfl) (fun u7_1r2 _=> ?_)
    exact zN (hD3 u7_1r2) kr ((.of rfl):SubM _ _) .rfl .rfl ((.of [0,1,2] rfl):SelR _ _ _)
  refine zia (X:=Nat) (k':=7) (L':=(lb 10 134)) (fun u7_1r2=>([(4,ye (some ⟨u7_1r2,0,none⟩)),(19,.agg #[yc yd 64,yc yd 128]),(18,.agg #[yc yd 640,yc yd 0,yc yd 0]),(3,yc yd 0),(2,ye (some ⟨u7_1,0,none⟩)),(0,.bool false)],[boxA u7_1r2 46 (cw [wz,wz,wz,wz])],[boxA u7_1 46 (cw [u3_1,u3_2,u3_3,u3_4]),boxA b1 37 [yc yd 640,yc yd 0,yc yd 0]],[qF true u3_1 u3_2 ((120:Int):Rat),qF true u3_3 u3_4 ((-200:Int):Rat),sgF])) ?_ (fun hD5=> ?_)
  ·
   rintro u7_1r2
   dsimp only [cw,cS]
   refine zRa 0 kr ?_
   ·
    refine zBa rfl rfl rfl rfl (.n) ce40 (zwb) (.n) ?_
    exact zN (hD3 u7_1r2) kr ((.of rfl):SubM _ _) .rfl .rfl ((.of [0,1,2] rfl):SelR _ _ _)
  refine zqb 0 7 kr ?_ ?_
  ·
   refine zBa rfl rfl rfl rfl (.n) ce40 (zwb) (.n) ?_
   exact zN (hD4 ()) kr ((.of rfl):SubM _ _) .rfl .rfl ((.of [0,1,2] rfl):SelR _ _ _)
  ·
   refine zya rfl rfl rfl rfl (zp zr46 rfl) (fun u7_1r2 _=> ?_)
   exact zN (hD5 u7_1r2) kr ((.of rfl):SubM _ _) .rfl .rfl ((.of [0,1,2] rfl):SelR _ _ _)
 refine zia (X:=Wd×Wd×Wd×Wd×Nat) (k':=2) (L':=(lb 10 255)) (fun (u3_1,u3_2,u3_3,u3_4,u7_1)=>([(2,ye (some ⟨u7_1,0,none⟩)),(15,yc yd (yO Sh.exS Sh.exC 64 128 0)),(14,.agg (cw [u3_1,u3_2,u3_3,u3_4]).toArray),(1,ye (some ⟨b1,0,none⟩)),(0,.bool false)],[boxA u7_1 46 (cw [wz,wz,wz,wz])],[boxA b1 37 [yc yd 640,yc yd 0,yc yd 0]],[qF (decide (yO Sh.exS Sh.exC 64 128 0=0)) u3_1 u3_2 (Sh.Gx Sh.exS Sh.exC 64 128 0),qF (decide (yO Sh.exS Sh.exC 64 128 0=0)) u3_3 u3_4 (Sh.Gy Sh.exS Sh.exC 64 128 0),sgF])) ?_ (fun hD1=> ?_)
 ·
  rintro ⟨u3_1,u3_2,u3_3,u3_4,u7_1⟩
  dsimp only [cw,cS]
  refine zRa 8 kr ?_
  ·
   refine zo kr rfl rfl rfl rfl rfl sz46 rfl (.t8 .nil)<|e_pv 9 rfl rfl (zh rfl) ?_
   exact zN (hD0 (u3_1,u3_2,u3_3,u3_4,u7_1)) kr ((.of rfl):SubM _ _) .rfl .rfl ((.of [0,1,2] rfl):SelR _ _ _)
 refine zia (X:=Wd×Wd×Wd×Wd) (k':=3) (L':=(lb 10 127)) (fun (u3_1,u3_2,u3_3,u3_4)=>([(15,yc yd (yO Sh.exS Sh.exC 64 128 0)),(14,.agg (cw [u3_1,u3_2,u3_3,u3_4]).toArray),(1,ye (some ⟨b1,0,none⟩)),(0,.bool false)],[],[boxA b1 37 [yc yd 640,yc yd 0,yc yd 0]],[qF (decide (yO Sh.exS Sh.exC 64 128 0=0)) u3_1 u3_2 (Sh.Gx Sh.exS Sh.exC 64 128 0),qF (decide (yO Sh.exS Sh.exC 64 128 0=0)) u3_3 u3_4 (Sh.Gy Sh.exS Sh.exC 64 128 0),sgF])) ?_ (fun hD2=> ?_)
 ·
  rintro ⟨u3_1,u3_2,u3_3,u3_4⟩
  dsimp only [cw,cS]
  refine zRa 7 kr ?_
  ·
   refine zya rfl rfl rfl rfl (zp zr46 rfl) (fun u7_1 _=> ?_)
   exact zN (hD1 (u3_1,u3_2,u3_3,u3_4,u7_1)) kr ((.of rfl):SubM _ _) .rfl .rfl ((.of [0,1,2] rfl):SelR _ _ _)
 refine zia (X:=Nat) (k':=6) (L':=(lb 10 135)) (fun u7_1=>([(2,ye (some ⟨u7_1,0,none⟩)),(10,.agg #[yc yd 0,yc yd 10,yc yd 0,yc yd 0,yc yd 0,yc yd 1000,yc yd 0,yc yd 1,yc yd 0,yc yd 0,yc yd 100,yc yd 100,yc yd 0,yc yd 1000,yc yd 0,yc yd 1,yc yd 0,yc yd 0]),(12,.agg #[yc yd 64,yc yd 128]),(11,.agg #[yc yd 640,yc yd 0,yc yd 0]),(1,ye (some ⟨b1,0,none⟩)),(0,.bool false)],[boxA u7_1 46 (cw [wz,wz,wz,wz])],[boxA b1 37 [yc yd 640,yc yd 0,yc yd 0]],[sgF])) ?_ (fun hD3=> ?_)
 ·
  rintro u7_1
  dsimp only [cw,cS]
  refine zRa 3 kr ?_
  ·
   refine zm rfl rfl rfl rfl (.c rfl (.c rfl (.c rfl (.c rfl .n)))) ce24 (zYb (s:=Sh.exS) (cm:=Sh.exC) (u:=64) (v:=128) (h:=0) (hfi:=yp) (hst:=yp) (hta:=yp) (htb:=yp) (hxa:=yp) (hya:=yp) (hza:=yp) (hqa:=yp) (hqb:=yp) (hqc:=yp) (hqd:=yp) (hxb:=yp) (hyb:=yp) (hzb:=yp) (hra:=yp) (hrb:=yp) (hrc:=yp) (hrd:=yp) (h64fo:=yp) (h64cx:=yp) (h64cy:=yp) (h64u:=yp) (h64v:=yp) (h64h:=yp)) (.c (j:=0) rfl .n) ?_
   rintro ⟨u3_1,u3_2,u3_3,u3_4⟩ hph1
   dsimp only [aq,nq,cq]
   replace hph1:yO Sh.exS Sh.exC 64 128 0≠0→u3_1=wz∧u3_2=wz∧u3_3=wz∧u3_4=wz:=hph1
   refine e_dm 4 rfl rfl rfl<|e_pv 5 rfl rfl (zw rfl rfl)<|e_pv 6 rfl rfl (zw rfl rfl) ?_
   exact zN (hD1 (u3_1,u3_2,u3_3,u3_4,u7_1)) kr ((.of rfl):SubM _ _) .rfl .rfl ((.of [0,1,2] rfl):SelR _ _ _)
 refine zia (X:=Unit) (k':=7) (L':=(lb 10 7)) (fun _=>([(10,.agg #[yc yd 0,yc yd 10,yc yd 0,yc yd 0,yc yd 0,yc yd 1000,yc yd 0,yc yd 1,yc yd 0,yc yd 0,yc yd 100,yc yd 100,yc yd 0,yc yd 1000,yc yd 0,yc yd 1,yc yd 0,yc yd 0]),(12,.agg #[yc yd 64,yc yd 128]),(11,.agg #[yc yd 640,yc yd 0,yc yd 0]),(1,ye (some ⟨b1,0,none⟩)),(0,.bool false)],[],[boxA b1 37 [yc yd 640,yc yd 0,yc yd 0]],[sgF])) ?_ (fun hD4=> ?_)
 ·
  rintro ⟨⟩
  dsimp only
  refine zqb 3 7 kr ?_ ?_
  ·
   refine zm rfl rfl rfl rfl (.c rfl (.c rfl (.c rfl (.c rfl .n)))) ce24 (zYb (s:=Sh.exS) (cm:=Sh.exC) (u:=64) (v:=128) (h:=0) (hfi:=yp) (hst:=yp) (hta:=yp) (htb:=yp) (hxa:=yp) (hya:=yp) (hza:=yp) (hqa:=yp) (hqb:=yp) (hqc:=yp) (hqd:=yp) (hxb:=yp) (hyb:=yp) (hzb:=yp) (hra:=yp) (hrb:=yp) (hrc:=yp) (hrd:=yp) (h64fo:=yp) (h64cx:=yp) (h64cy:=yp) (h64u:=yp) (h64v:=yp) (h64h:=yp)) (.c (j:=0) rfl .n) ?_
   rintro ⟨u3_1,u3_2,u3_3,u3_4⟩ hph1
   dsimp only [aq,nq,cq]
   replace hph1:yO Sh.exS Sh.exC 64 128 0≠0→u3_1=wz∧u3_2=wz∧u3_3=wz∧u3_4=wz:=hph1
   refine e_dm 4 rfl rfl rfl<|e_pv 5 rfl rfl (zw rfl rfl)<|e_pv 6 rfl rfl (zw rfl rfl) ?_
   exact zN (hD2 (u3_1,u3_2,u3_3,u3_4)) kr ((.of rfl):SubM _ _) .rfl .rfl ((.of [0,1,2] rfl):SelR _ _ _)
  ·
   refine zya rfl rfl rfl rfl (zp zr46 rfl) (fun u7_1 _=> ?_)
   exact zN (hD3 u7_1) kr ((.of rfl):SubM _ _) .rfl .rfl ((.c (j:=0) rfl .n):SelR _ _ _)
 refine zia (X:=Nat) (k':=7) (L':=(lb 10 134)) (fun u7_1=>([(2,ye (some ⟨u7_1,0,none⟩)),(12,.agg #[yc yd 64,yc yd 128]),(11,.agg #[yc yd 640,yc yd 0,yc yd 0]),(1,ye (some ⟨b1,0,none⟩)),(0,.bool false)],[boxA u7_1 46 (cw [wz,wz,wz,wz])],[boxA b1 37 [yc yd 640,yc yd 0,yc yd 0]],[sgF])) ?_ (fun hD5=> ?_)
 ·
  rintro u7_1
  dsimp only [cw,cS]
  refine zRa 0 kr ?_
  ·
   refine zBa rfl rfl rfl rfl (.n) ce40 (zwb) (.n) ?_
   exact zN (hD3 u7_1) kr ((.of rfl):SubM _ _) .rfl .rfl ((.c (j:=0) rfl .n):SelR _ _ _)
 refine zqb 0 7 kr ?_ ?_
 ·
  refine zBa rfl rfl rfl rfl (.n) ce40 (zwb) (.n) ?_
  exact zN (hD4 ()) kr ((.of rfl):SubM _ _) .rfl .rfl ((.c (j:=0) rfl .n):SelR _ _ _)
 ·
  refine zya rfl rfl rfl rfl (zp zr46 rfl) (fun u7_1 _=> ?_)
  exact zN (hD5 u7_1) kr ((.of rfl):SubM _ _) .rfl .rfl ((.c (j:=0) rfl .n):SelR _ _ _)
end Go.Proofs.YtjeahiahjgifgaaGreatDoor.Sp
namespace Go.Proofs.YtjeahiahjgifgaaGreatDoor.Sh
open Go.Proofs.YtjeahiahjgifgaaGreatDoor.Big
theorem Gc_zero {s:S} {c:C} {u v h:Int} (g:Gc s c u v h=0):chk s 1=0∧cp c u v h∧gc s c u v h=0:=by
  unfold Gc at g
  split at g
  · rename_i h1; split at g
    · rename_i h2;exact ⟨h1,h2,g⟩
    · cases g
  · rename_i h1;exact absurd g h1
theorem Gx_hq (s:S) (c:C) (u v h:Int):hq (Gx s c u v h)≤400∧hq (Gy s c u v h)≤400:=by
  unfold Gx Gy
  split
  · rename_i g
    obtain ⟨h1,h2,h3⟩:=Gc_zero g
    exact gx_hq (chk_ok h1).1 h2.1 h2.2.1 h2.2.2.1 h2.2.2.2.2 h2.2.2.2.1
  · rw [hq_zero];exact ⟨by decide,by decide⟩
theorem Cc_zero {s:S} {c:C} {u v r h:Int} (g:Cc s c u v r h=0):chk s 1=0∧(inr r∧cp c u v h)∧gc s c u v h=0∧ic s r (gx s c u v h) (gy s c u v h) h=0:=by
  unfold Cc at g
  split at g
  · rename_i h1; split at g
    · rename_i h2; split at g
      · rename_i h3;exact ⟨h1,h2,h3,g⟩
      · rename_i h3;exact absurd g h3
    · cases g
  · rename_i h1;exact absurd g h1
theorem Cx_hq (s:S) (c:C) (u v r h:Int):hq (Cx s c u v r h)≤3000∧hq (Cy s c u v r h)≤3000:=by
  unfold Cx Cy
  split
  · rename_i g
    obtain ⟨h1,h2,h3,h4⟩:=Cc_zero g
    have q:=gx_hq (chk_ok h1).1 h2.2.1 h2.2.2.1 h2.2.2.2.1 h2.2.2.2.2.2 h2.2.2.2.2.1
    exact ix_hq (chk_ok h1).1 h2.2.1 h2.1 q.1 q.2 h2.2.2.2.2.1
  · rw [hq_zero];exact ⟨by decide,by decide⟩
end Go.Proofs.YtjeahiahjgifgaaGreatDoor.Sh
namespace Go.Proofs.YtjeahiahjgifgaaGreatDoor.Sh
open Go.Proofs.YtjeahiahjgifgaaGreatDoor.Big
def tv (t:Int) (b:Bool):Int:=if t=0 then (if b=true then 0 else 1) else t
end Go.Proofs.YtjeahiahjgifgaaGreatDoor.Sh
namespace Go.Proofs.YtjeahiahjgifgaaGreatDoor.Sh
open Go.Proofs.YtjeahiahjgifgaaGreatDoor.Big
structure Mv (s:S) (k dx dy:Int):Prop where
  k:1≤k∧k≤4
  qa:wi 4096 [s.qa,s.qb,s.qc,s.qd]
  qb:wi 4096 [s.ra,s.rb,s.rc,s.rd]
  pa:wi 524288 [s.xa,s.ya]
  pb:wi 524288 [s.xb,s.yb]
  dx: -128≤dx∧dx≤127
  dy: -128≤dy∧dy≤127
theorem k_b {k a:Int} (hk:1≤k∧k≤4) (ha: -4096≤a∧a≤4096): -16384≤k*a∧k*a≤16384:=by
  have h:=mul_b (x:=k) (y:=a) (m:=4) (n:=4096) (by omega) ha
  omega
theorem wi_k {k a b c d:Int} (hk:1≤k∧k≤4) (h:wi 4096 [a,b,c,d]):wi 32768 [a,b,c,d]↔wi 32768 [k*a,k*b,k*c,k*d]:=by
  rw [wi_4] at h
  obtain ⟨h1,h2,h3,h4⟩:=h
  have g1:=k_b hk h1
  have g2:=k_b hk h2
  have g3:=k_b hk h3
  have g4:=k_b hk h4
  rw [wi_4,wi_4]
  constructor <;> intro _ <;> omega
theorem wi_p {x y z dx dy:Int} (h:wi 524288 [x,y]) (hx: -128≤dx∧dx≤127) (hy: -128≤dy∧dy≤127):wi 1048576 [x,y,z]↔wi 1048576 [x+dx,y+dy,z]:=by
  rw [wi_2] at h
  rw [wi_3,wi_3]
  constructor <;> intro _ <;> omega
theorem Mv.A {s:S} {k dx dy:Int} (m:Mv s k dx dy):okA s↔okA (moved s k dx dy):=and_congr (wi_p m.pa m.dx m.dy) (wi_k m.k m.qa)
theorem Mv.B {s:S} {k dx dy:Int} (m:Mv s k dx dy):okB s↔okB (moved s k dx dy):=and_congr (wi_p m.pb m.dx m.dy) (wi_k m.k m.qb)
theorem Gc_moved {s:S} {k dx dy:Int} (m:Mv s k dx dy) (c:C) (u v h:Int):Gc (moved s k dx dy) c u v h=Gc s c u v h:=by
  have hk:0<k:=by have:=m.k;omega
  unfold Gc
  rw [chk_moved hk m.A m.B,(ground_moved hk c u v h).1]
theorem Gx_moved {s:S} {k dx dy:Int} (m:Mv s k dx dy) {c:C} {u v h:Int} (g:Gc s c u v h=0):Gx (moved s k dx dy) c u v h=Gx s c u v h+((dx:Int):Rat)∧Gy (moved s k dx dy) c u v h=Gy s c u v h+((dy:Int):Rat):=by
  have hk:0<k:=by have:=m.k;omega
  have g2:Gc (moved s k dx dy) c u v h=0:=(Gc_moved m c u v h).trans g
  obtain ⟨e1,e2⟩:=(ground_moved (s:=s) (dx:=dx) (dy:=dy) hk c u v h).2 (Gc_zero g).2.2
  exact ⟨(if_pos g2).trans (e1.trans (by rw [show Gx s c u v h=gx s c u v h from if_pos g])),(if_pos g2).trans (e2.trans (by rw [show Gy s c u v h=gy s c u v h from if_pos g]))⟩
theorem Cc_moved {s:S} {k dx dy:Int} (m:Mv s k dx dy) (c:C) (u v r h:Int):Cc (moved s k dx dy) c u v r h=Cc s c u v r h:=by
  have hk:0<k:=by have:=m.k;omega
  obtain ⟨e0,e1⟩:=ground_moved (s:=s) (dx:=dx) (dy:=dy) hk c u v h
  unfold Cc
  rw [chk_moved hk m.A m.B,e0]
  by_cases g:gc s c u v h=0
  · rw [if_pos g,if_pos g,(e1 g).1,(e1 g).2,(image_moved hk c r _ _ h).1]
  · rw [if_neg g,if_neg g]
theorem Cx_moved {s:S} {k dx dy:Int} (m:Mv s k dx dy) (c:C) (u v r h:Int):Cx (moved s k dx dy) c u v r h=Cx s c u v r h∧Cy (moved s k dx dy) c u v r h=Cy s c u v r h:=by
  have hk:0<k:=by have:=m.k;omega
  have e:=Cc_moved m c u v r h
  unfold Cx Cy
  rw [e]
  by_cases g:Cc s c u v r h=0
  · obtain ⟨e1, e2⟩ := (ground_moved (s := s) (dx := dx) (dy := dy) hk c u v h).2 (Cc_zero g).2.2.1
    obtain ⟨-,i1,i2⟩:=image_moved (s:=s) (dx:=dx) (dy:=dy) hk c r (gx s c u v h) (gy s c u v h) h
    rw [if_pos g,if_pos g,if_pos g,if_pos g,e1,e2,i1,i2];exact ⟨rfl,rfl⟩
  · rw [if_neg g,if_neg g,if_neg g,if_neg g];exact ⟨rfl,rfl⟩
end Go.Proofs.YtjeahiahjgifgaaGreatDoor.Sh
namespace Go.Proofs.YtjeahiahjgifgaaGreatDoor.Sp
open Go
set_option linter.unusedVariables false
def rPt:Rp (Nat×Nat):=fl 1 (fun z=>[.pointer (some ⟨z.1,z.2,none⟩)]) (fun _=>True) (fun _=>rfl) (fun _=>rfl)
def andI (k:IntKind) (a b:Int):Int:=k.wrap ((BitVec.ofInt k.bits a &&& BitVec.ofInt k.bits b).toNat:Nat)
theorem andI_3 (a:Int):0≤andI .i8 a 3∧andI .i8 a 3≤3:=by
  have h:(BitVec.ofInt 8 a &&& BitVec.ofInt 8 3).toNat≤3:=by
    rw [BitVec.toNat_and]
    exact Nat.and_le_right
  have h1:andI .i8 a 3=IntKind.i8.wrap ((BitVec.ofInt 8 a &&& BitVec.ofInt 8 3).toNat:Nat):=rfl
  rw [h1]
  generalize (BitVec.ofInt 8 a &&& BitVec.ofInt 8 3).toNat=t at h
  have h2:t=0∨t=1∨t=2∨t=3:=by omega
  rcases h2 with rfl|rfl|rfl|rfl <;> exact ⟨by decide,by decide⟩
theorem zhf {z:Int}:InK .i8 z↔ -128≤z∧z≤127:=by simp [InK,IntKind.min,IntKind.max,IntKind.bits,IntKind.signed]
section
variable {P : Program} {n : Sz} {m : Fm} {O : List As} {R : List Fa} {d : Option Tmp} {ty : TypeId} {ps : String} {af : Array Edge} {gd : Option (Nat × Bool)}
theorem pv_and {t t2:TypeId} {x y:Operand} {k:IntKind} {a b:Int} (h1:evo m x=some (.int k a)) (h2:evo m y=some (.int k b)):PV P n ⟨d,.binOp .and t x y t2,ty,ps,af,gd⟩ m (.int k (andI k a b)):=fun ac w f=>by
  simp [execOp,f.ev h1,f.ev h2,eqGuard_at_int,binOp_and,Op.intBits,andI]
end
end Go.Proofs.YtjeahiahjgifgaaGreatDoor.Sp
namespace Go.Proofs.YtjeahiahjgifgaaGreatDoor.Sp
open Go
set_option linter.unusedVariables false
section
variable {P : Program} {c : Cx} {n : Sz} {Q : Exit → Act → World → Prop} {m : Fm} {O : List As} {R : List Fa} {α : Type} {d : Option Tmp} {ty : TypeId} {ps : String} {af : Array Edge} {gd : Option (Nat × Bool)}
theorem RowOn.drop {T:TypeId} {r:Rp α} {p:Option Addr} {cap:Nat} {l:List α} {g h:Hp} (k:Nat) (hk:k≤l.length) (s:RowOn T r p cap l g h):RowOn T r (newP p cap k r.sz) (cap - k) (l.drop k) g h:=by
  rcases s with ⟨h1,h2,h3,h4⟩|⟨b,off,cells,e1,e2,e3,e4,e5,e6⟩
  · subst h3; simp at hk; subst hk
    exact .inl ⟨by unfold newP;rw [h1];split <;> rfl,by omega,rfl,h4⟩
  · by_cases e : cap = k
    · refine .inr ⟨b, off, cells, by unfold newP; rw [if_pos e, e1], by rw [List.length_drop]; omega, by omega, ?_, e5, fun i x h => ?_⟩
      · rw [e,Nat.sub_self,Nat.zero_mul];omega
      · rw [List.getElem?_drop] at h
        have:=(List.getElem?_eq_some_iff.1 h).1;omega
    · refine .inr ⟨b, off + k * r.sz, cells, ?_, by rw [List.length_drop]; omega, by omega, ?_, e5, fun i x h => ?_⟩
      · unfold newP; rw [if_neg e, e1]
        by_cases z:k*r.sz=0
        · rw [z];simp [Addr.add]
        · simp [Addr.add,z]
      · have : (cap - k) * r.sz + k * r.sz = cap * r.sz := by rw [← Nat.add_mul]; congr 1; omega
        omega
      · rw [List.getElem?_drop] at h
        obtain ⟨γ,a1,a2⟩:=e6 (k+i) x h
        refine ⟨γ,⟨a1.1,fun j v hv=> ?_⟩,a2⟩
        have:=a1.2 j v hv
        rw [Nat.add_mul] at this
        rw [show off+k*r.sz+i*r.sz+j=off+(k*r.sz+i*r.sz)+j by omega];exact this
end
end Go.Proofs.YtjeahiahjgifgaaGreatDoor.Sp
namespace Go.Proofs.YtjeahiahjgifgaaGreatDoor.Sp
open Go
set_option linter.unusedVariables false
abbrev Tr:=Option Addr×Nat×Nat
section
variable {P : Program} {c : Cx} {n : Sz} {m : Fm} {O : List As} {R : List Fa} {α : Type} {r : Rp α} {Z : List Tr} {ls : List (List α)} {d : Option Tmp} {ty : TypeId} {ps : String} {af : Array Edge} {gd : Option (Nat × Bool)}
theorem zfa {x:Operand} {b o:Nat} (h:evo m x=some (.pointer (some ⟨b,o,none⟩))):PV P n ⟨d,.nilCheck x,ty,ps,af,gd⟩ m (.pointer (some ⟨b,o,none⟩)):=fun a w f=>by
  simp [execOp,f.ev h]
end
end Go.Proofs.YtjeahiahjgifgaaGreatDoor.Sp
