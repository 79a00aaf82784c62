/- Lemmas on the walk and plain lemmas that the claim of this folder uses; each states its own conditions. Lines were printed by a program of ours. -/
import Derived.Test.YtjeahiahjgifgaaGreatDoorZ10B
set_option linter.unusedVariables false
set_option linter.unusedSimpArgs false
set_option linter.unusedSectionVars false
open Go.Value renaming int → yc, pointer → ye
open Go.IntKind renaming i64 → yd
open Go.Proofs.YtjeahiahjgifgaaGreatDoor.Big renaming digs → yf, valL → yh, raw → ym, okL_getD → yo, trimL → yp, zY → yq, digs_ok → yr, raw_big → yu, okL → yw, ln → yx, sg → yz, valL_digs → yB, pw → yC, hq_num → yF, hq_den → yG, zTa → yH, cmp → yI, len_digs_nil → yJ, hq → yK, getD_set_ne → yL, okL_snoc → yN, nn → yO, ln_mono' → yP, okL_set → yQ, sign_zero → yR, qv → yS, sg_raw → yT, two_lt → yU, den_ne → yV, LgI → yW
open Go.Proofs.Tryz renaming underlying40 → yg, underlying131 → yi, underlying44 → yj, underlying130 → yk, prog → yl, underlying42 → yn, underlying29 → yt, underlying27 → yv, underlying2 → yA, underlying23 → yD, underlying4 → yE, results130 → yM
open Go.Proofs.YtjeahiahjgifgaaGreatDoor.Sh renaming ax → yX
namespace Go.Proofs.YtjeahiahjgifgaaGreatDoor.Sp
open Go
set_option linter.unusedVariables false
set_option maxRecDepth 100000
set_option maxHeartbeats 8000000
theorem zRb {p:Option Addr} {n:Nat} {cap:Nat} {l:List Int} (hn:l.length=n):Con yl 135 [.slice p n cap] [] [slF (rI .u32) p cap l] (Y:=Unit) (fun y=>True) (fun y=> .slice p ((yp l).length) cap) (fun y=>[]) (fun y=>[slF (rI .u32) p cap (yp l)]):=by
 refine zv Tryz.func135 rfl rfl rfl (fun c=> ?_)
 show RunC _ _ _ _ _ [(0,.slice p n cap)] [] [slF (rI .u32) p cap l]
 refine zqa 0 rfl (fun hL0=> ?_)
 refine zj<|zc<|e_p (zh rfl)<|zk<|zg<|zj<|zt<|zBa (X:=Nat) (fun x:Nat=>x≤l.length∧yp (l.take x)=yp l) (fun x=>[(0,.slice p x cap),(2,.slice none 0 0)]) (fun x=>[]) (fun x=>[slF (rI .u32) p cap (l.take x),slF (rI .u32) p cap l]) (fun x:Nat=>x) n (show n≤l.length∧yp (l.take n)=yp l from by exact ⟨by omega,by rw [List.take_of_length_le om]⟩) ((.c rfl (.c rfl .n)):SubM _ _) (ho:=(.n:PickO _ _ _)) ((.e (j:=0) rfl (by rw [List.take_of_length_le om]) (.c (j:=0) rfl .n)):SelR _ _ _) ?_
 rintro k hI
 replace hI:k≤l.length∧yp (l.take k)=yp l:=hI
 try dsimp only
 obtain ⟨hk,hT⟩:=hI
 have hlt:(l.take k).length=k:=by rw [List.length_take];omega
 refine zj<|zAa (X:=Unit) (fun x=>True) (fun x=>[(14,.bool (decide (0<k∧l.getD (k - 1) 0=0))),(0,.slice p k cap),(2,.slice none 0 0)]) (fun x=>[]) (fun x=>[slF (rI .u32) p cap (l.take k),slF (rI .u32) p cap l]) ?_ ?_
 ·
  refine zc<|e_mv rfl<|e_p (zfa yg rfl)<|e_p (zbb rfl rfl)<|zja rfl rfl (zka rfl) (fun h1=> ?_) (fun h1=> ?_)
  ·
   refine e_mv rfl<|e_mv rfl<|e_p (zfa yg rfl)<|e_p (zna (z:=(((k:Nat):Int) - 1)) rfl rfl (w64 om))<|zW (x0:=((l.take k).getD ((((k:Nat):Int) - 1).toNat) 0)) 0 ((((k:Nat):Int) - 1).toNat) rfl yg sz131 rfl rfl rfl cbs rfl om (gD (d:=0) om) (fun b2 o3 hok4=> ?_)
   replace hok4:=zL.1 hok4
   refine e_ru (zB (j:=0) 0 ty131 rfl rfl rfl rfl)<|e_p (zOa rfl rfl)<|e_p (zK rfl rfl)<|zk ?_
   exact zha () (show True from by first|trivial|omega|simp_all) ((.e rfl (congrArg Value.bool (by rw [Big.getD_take l om];have h1:0<k:=om;have h2:((k:Int) - 1).toNat=k - 1:=om;simp [h1,h2])) (.c rfl (.c rfl .n))):SubM _ _) (ho:=(.n:PickO _ _ _)) ((.of [1,2] rfl):SelR _ _ _)
  ·
   refine e_no<|e_no<|e_no<|e_no<|e_no<|e_no<|e_no<|e_p (zK rfl rfl)<|zk ?_
   exact zha () (show True from by first|trivial|omega|simp_all) ((.e rfl (congrArg Value.bool (by have h1:¬0<k:=om;simp [h1])) (.c rfl (.c rfl .n))):SubM _ _) (ho:=(.n:PickO _ _ _)) ((.of [0,1] rfl):SelR _ _ _)
 ·
  rintro ⟨⟩ -
  try dsimp only
  refine zT rfl (fun hc=> ?_) (fun hc=> ?_)
  ·
   refine zw<|zg<|zt<|zc<|e_mv rfl<|e_mv rfl<|e_p (zfa yg rfl)<|e_p (zna (z:=(((k - 1):Nat):Int)) rfl rfl (w64 om))<|e_p (zZb (hi:=(k - 1)) yg sz131 rfl (.s rfl) (.inr ⟨_,rfl⟩) om)<|zMc (zXc 0 rfl (k - 1) om) (fun _ _=> ?_)
   refine e_p (zh rfl)<|zk<|zI<|zwa (k - 1) (show (k - 1)≤l.length∧yp (l.take (k - 1))=yp l from by exact ⟨by omega,by rw [← hT,Big.trim_go l hc.1 hk hc.2]⟩) (by show k - 1<k;omega) ((.e rfl (by first|rfl|(congr 1;omega)|simp_all) (.c rfl .n)):SubM _ _) (ho:=(.n:PickO _ _ _)) ((.e (j:=0) rfl (by rw [List.take_take];congr 2;omega) (.c (j:=2) rfl .n)):SelR _ _ _)
  ·
   refine zla<|zn<|zn<|zA<|zg<|zj<|zc<|e_mv rfl<|e_p (zh rfl)<|zk<|zg<|zS ?_
   have hfin:yp l=l.take k:=by rw [← hT];exact Big.trim_stop l hk hc
   exact zM Tryz.results135 () trivial (zC rfl) (by rw [hfin,hlt]) (ho:=(.n:PickO _ _ _)) ((.e (j:=0) rfl (by rw [hfin]) .n):SelR _ _ _)
theorem zFe {p:Option Addr} {n:Nat} {cap:Nat} {l:List Int} {i:Nat} (hn:l.length=n) (hi:i≤4611686018427387904):Con yl 143 [.slice p n cap,yc yd ((i:Nat):Int)] [] [slF (rI .u32) p cap l] (Y:=Unit) (fun y=>True) (fun y=> .int .u32 (l.getD i 0)) (fun y=>[]) (fun y=>[]):=by
 refine zv Tryz.func143 rfl rfl rfl (fun c=> ?_)
 show RunC _ _ _ _ _ [(0,.slice p n cap),(1,yc yd ((i:Nat):Int))] [] [slF (rI .u32) p cap l]
 refine zqa 0 rfl (fun hL0=> ?_)
 refine zj<|zc<|e_p (zh rfl)<|zk<|zg<|zj<|zj<|zc<|e_mv rfl<|e_mv rfl<|e_p (zfa yg rfl)<|e_p (zO rfl rfl)<|zk<|zg<|zT rfl (fun h1=> ?_) (fun h1=> ?_)
 ·
  refine zj<|zc<|e_mv rfl<|e_mv rfl<|zW (x0:=(l.getD i 0)) 0 i rfl yg sz131 rfl rfl rfl cbs rfl rfl (gD (d:=0) om) (fun b2 o3 hok4=> ?_)
  replace hok4:=zL.1 hok4
  refine e_ru (zB (j:=0) 0 ty131 rfl rfl rfl rfl)<|e_p (zh rfl)<|zk<|zg<|zS<|zu ?_
  exact zM Tryz.results143 () trivial (zC rfl) rfl (ho:=(.n:PickO _ _ _)) (.n:SelR _ _ _)
 ·
  refine zw<|zg<|zj<|zc<|e_p (zh rfl)<|zk<|zg<|zS ?_
  exact zM Tryz.results143 () trivial (zC rfl) (by rw [show l.getD i 0=0 by simp [List.getD,List.getElem?_eq_none (show l.length≤i by omega)]]) (ho:=(.n:PickO _ _ _)) (.n:SelR _ _ _)
theorem zFf {p1:Option Addr} {n1:Nat} {c1:Nat} {l1:List Int} {p2:Option Addr} {n2:Nat} {c2:Nat} {l2:List Int} (hn1:l1.length=n1) (hn2:l2.length=n2) (hb1:n1≤1099511627776) (hb2:n2≤1099511627776) (ho1:yw l1) (ho2:yw l2):Con yl 136 [.slice p1 n1 c1,.slice p2 n2 c2] [] [slF (rI .u32) p1 c1 l1,slF (rI .u32) p2 c2 l2] (Y:=(Option Addr)×Nat) (fun y=>True) (fun y=> .slice (y.1) ((yf (yh l1+yh l2).toNat).length) (y.2)) (fun y=>[]) (fun y=>[slF (rI .u32) (y.1) (y.2) (yf (yh l1+yh l2).toNat)]):=by
 refine zv Tryz.func136 rfl rfl rfl (fun c=> ?_)
 show RunC _ _ _ _ _ [(0,.slice p1 n1 c1),(1,.slice p2 n2 c2)] [] [slF (rI .u32) p1 c1 l1,slF (rI .u32) p2 c2 l2]
 refine zqa 0 rfl (fun hL0=> ?_)
 refine zqa 1 rfl (fun hL1=> ?_)
 refine zj<|zc<|e_p (zh rfl)<|zk<|zg<|zj<|zc<|e_mv rfl<|e_p (zfa yg rfl)<|e_mv rfl<|e_p (zfa yg rfl)<|e_p (v:= yc yd (((max n1 n2):Nat):Int)) (by rw [show ((((max n1 n2):Nat):Int):Int)=max ((n1:Nat):Int) ((n2:Nat):Int) by omega];exact ztd rfl rfl)<|e_p (zH (z:=((((max n1 n2)+1):Nat):Int)) rfl rfl (w64 om))<|zDa rfl rfl (zPb (r:=rI .u32) (k:=((max n1 n2)+1)) (x0:=0) (γ0:=()) yg inf131 rfl rfl rfl rfl om om rfl (fun _ _=>by exact zL.2 dd) dd) (fun b1 _=> ?_)
 refine e_p (zh rfl)<|zk<|zg<|zj<|zc<|e_p (zh rfl)<|zk<|zg<|zj<|zj<|zc<|e_mv rfl<|e_p (zfa yg rfl)<|e_mv rfl<|zk<|zg<|zt<|zBa (X:=Nat×(List Int)×Int) (fun x:Nat×(List Int)×Int=>x.1≤max n1 n2+1∧x.2.1.length=x.1∧0≤x.2.2∧x.2.2≤1∧yw x.2.1∧yh x.2.1+yC x.1*x.2.2=yh (l1.take x.1)+yh (l2.take x.1)) (fun x=>[(6,.int .u32 (x.2.2)),(18,yc yd ((x.1:Nat):Int)),(17,yc yd ((((max n1 n2)+1):Nat):Int)),(5,.slice (some ⟨b1,0,none⟩) ((max n1 n2)+1) ((max n1 n2)+1)),(4,.slice none 0 0),(0,.slice p1 n1 c1),(1,.slice p2 n2 c2)]) (fun x=>[rowA 131 (rI .u32) (some ⟨b1,0,none⟩) ((max n1 n2)+1) (x.2.1++List.replicate (max n1 n2+1 - x.1) 0)]) (fun x=>[slF (rI .u32) p1 c1 l1,slF (rI .u32) p2 c2 l2]) (fun x:Nat×(List Int)×Int=>max n1 n2+1 - x.1) (0,[],0) (show 0≤max n1 n2+1∧([]).length=0∧0≤0∧0≤1∧yw ([])∧yh ([])+yC 0*0=yh (l1.take 0)+yh (l2.take 0) from by exact ⟨by omega,rfl,by decide,by decide,Big.okL_nil,by simp [yh]⟩) ((.c rfl (.e rfl (by first|rfl|(congr 1;omega)|simp_all) (.of rfl))):SubM _ _) (ho:=((.e (i:=0) rfl (by simp) .n):PickO _ _ _)) ((.of [0,1] rfl):SelR _ _ _) ?_
 rintro ⟨i,os,cy⟩ hI
 replace hI:i≤max n1 n2+1∧os.length=i∧0≤cy∧cy≤1∧yw os∧yh os+yC i*cy=yh (l1.take i)+yh (l2.take i):=hI
 try dsimp only
 obtain ⟨hi,hol,hc0,hc1,hok,hv⟩:=hI
 have hg1:=yo ho1 i
 have hg2:=yo ho2 i
 refine zj<|zc<|e_p (zO rfl rfl)<|zk<|zg<|zj<|zT rfl (fun h2=> ?_) (fun h2=> ?_)
 ·
  refine zw<|zg<|zj<|zt<|zj<|zc<|e_mv rfl<|e_p (zh rfl)<|zk<|zg<|zj<|zc<|e_mv rfl<|e_mv rfl<|zU rfl rfl (.c rfl (.c rfl .n)) ce143 (zFe (p:=p1) (n:=n1) (cap:=c1) (l:=l1) (i:=i) (hn:=ass) (hi:=cbb)) (.c (j:=0) rfl .n)<|e_mv rfl<|e_mv rfl<|zU rfl rfl (.c rfl (.c rfl .n)) ce143 (zFe (p:=p2) (n:=n2) (cap:=c2) (l:=l2) (i:=i) (hn:=ass) (hi:=cbb)) (.c (j:=1) rfl .n)<|e_p (zH (z:=(l1.getD i 0+l2.getD i 0)) rfl rfl (wu32 om))<|e_mv rfl<|e_p (zH (z:=((l1.getD i 0+l2.getD i 0)+cy)) rfl rfl (wu32 om))<|e_p (zh rfl)<|zk<|zg<|zj<|zc<|e_p (zh rfl)<|zk<|zg<|zj<|zj<|zc<|e_mv rfl<|e_p (zob rfl rfl)<|zk<|zg<|zT rfl (fun hc=> ?_) (fun hc=> ?_)
  ·
   refine zc<|e_mv rfl<|e_p (zna (z:=(((l1.getD i 0+l2.getD i 0)+cy) - 1000000000)) rfl rfl (wu32 om))<|e_p (zh rfl)<|e_p (zh rfl)<|zk<|zg<|zc<|e_mv rfl<|e_mv rfl<|e_mv rfl<|e_p (zra (j:=i) yg sz131 rfl rfl rfl om)<|zeb 0 rfl rfl rfl (zma (j:=i) (x0:=(((l1.getD i 0+l2.getD i 0)+cy) - 1000000000)) (γ0:=()) rfl rfl (by first|omega|(rw [List.length_map];omega)|(simp only [List.length_set];omega)|(simp;done)|(simp;omega)) rfl rfl sz131 (fun _ _=>by exact zL.2 om)) (fun _=> .z) (fun _ _=> ?_)
   refine zk<|zI<|zg<|zc<|e_p (zH (z:=(((i+1):Nat):Int)) rfl rfl (w64 om))<|e_mv rfl<|zk<|zwa ((i+1),os++[l1.getD i 0+l2.getD i 0+cy - 1000000000],1) (show (i+1)≤max n1 n2+1∧(os++[l1.getD i 0+l2.getD i 0+cy - 1000000000]).length=(i+1)∧0≤1∧1≤1∧yw (os++[l1.getD i 0+l2.getD i 0+cy - 1000000000])∧yh (os++[l1.getD i 0+l2.getD i 0+cy - 1000000000])+yC (i+1)*1=yh (l1.take (i+1))+yh (l2.take (i+1)) from by exact ⟨by omega,by simp [hol],by decide,by decide,yN hok om om,Big.plus_step hol hv om⟩) (by show max n1 n2+1 - (i+1)<max n1 n2+1 - i;omega) ((.of rfl):SubM _ _) (ho:=((.e (i:=0) rfl (by rw [Big.set_pad hol om]) .n):PickO _ _ _)) ((.of [0,1] rfl):SelR _ _ _)
  ·
   refine zw<|zg<|zc<|e_mv rfl<|e_mv rfl<|e_mv rfl<|e_p (zra (j:=i) yg sz131 rfl rfl rfl om)<|zeb 0 rfl rfl rfl (zma (j:=i) (x0:=((l1.getD i 0+l2.getD i 0)+cy)) (γ0:=()) rfl rfl (by first|omega|(rw [List.length_map];omega)|(simp only [List.length_set];omega)|(simp;done)|(simp;omega)) rfl rfl sz131 (fun _ _=>by exact zL.2 om)) (fun _=> .z) (fun _ _=> ?_)
   refine zk<|zI<|zg<|zc<|e_p (zH (z:=(((i+1):Nat):Int)) rfl rfl (w64 om))<|e_mv rfl<|zk<|zwa ((i+1),os++[l1.getD i 0+l2.getD i 0+cy],0) (show (i+1)≤max n1 n2+1∧(os++[l1.getD i 0+l2.getD i 0+cy]).length=(i+1)∧0≤0∧0≤1∧yw (os++[l1.getD i 0+l2.getD i 0+cy])∧yh (os++[l1.getD i 0+l2.getD i 0+cy])+yC (i+1)*0=yh (l1.take (i+1))+yh (l2.take (i+1)) from by exact ⟨by omega,by simp [hol],by decide,by decide,yN hok om om,Big.plus_step hol hv om⟩) (by show max n1 n2+1 - (i+1)<max n1 n2+1 - i;omega) ((.of rfl):SubM _ _) (ho:=((.e (i:=0) rfl (by rw [Big.set_pad hol om]) .n):PickO _ _ _)) ((.of [0,1] rfl):SelR _ _ _)
 ·
  have e3:os++List.replicate (max n1 n2+1 - i) 0=os:=by rw [show max n1 n2+1 - i=0 by omega];simp
  rw [e3]
  have hfin:=Big.plus_fin ho1 ho2 hok hc0 hol om hv
  have htr:yp os=yf (yh l1+yh l2).toNat:=by rw [Big.digs_valL hok,hfin]
  refine zla<|zn<|zn<|zA<|zg<|zj<|zc<|e_mv rfl<|zia 0 rfl .z<|zG rfl rfl (.c rfl .n) ce135 (zRb (p:=some ⟨b1,0,none⟩) (n:=((max n1 n2)+1)) (cap:=((max n1 n2)+1)) (l:=os) (hn:=cbb)) (.c (j:=0) rfl .n) ?_
  rintro ⟨⟩ -
  dsimp only [aq,nq,cq]
  refine e_p (zh rfl)<|zk<|zg<|zS ?_
  exact zM Tryz.results136 ((some ⟨b1,0,none⟩),((max n1 n2)+1)) trivial (zC rfl) (by rw [htr]) (ho:=(.n:PickO _ _ _)) ((.e (j:=0) rfl (by rw [htr]) .n):SelR _ _ _)
theorem zde {a:Nat} {b:Nat} {p1:Option Addr} {c1:Nat} {p2:Option Addr} {c2:Nat} (hb1:(yf (a)).length≤1099511627776) (hb2:(yf (b)).length≤1099511627776):Con yl 136 [.slice (p1) ((yf (a)).length) (c1),.slice (p2) ((yf (b)).length) (c2)] [] [slF (rI .u32) (p1) (c1) (yf (a)),slF (rI .u32) (p2) (c2) (yf (b))] (Y:=(Option Addr)×(Nat)) (fun y=>True) (fun y=> .slice (y.1) ((yf (a+b)).length) (y.2)) (fun y=>[]) (fun y=>[slF (rI .u32) (y.1) (y.2) (yf (a+b))]):=by
  have h:= @zFf p1 (yf a).length c1 (yf a) p2 (yf b).length c2 (yf b) rfl rfl hb1 hb2 (yr a) (yr b)
  rw [yB,yB,show ((a:Int)+(b:Int)).toNat=a+b by omega] at h
  exact h
theorem zxc {x:Int}:Con yl 132 [yc yd x] [] [] (Y:=Unit) (fun y=>True) (fun y=> .bool false) (fun y=>[]) (fun y=>[]):=by
 refine zv Tryz.func132 rfl rfl rfl (fun c=> ?_)
 show RunC _ _ _ _ _ [(0,yc yd x)] [] []
 refine zj<|zc<|e_p (zh rfl)<|zk<|zg<|zj<|zc<|e_mv rfl<|e_mv rfl<|e_p (zAb rfl rfl)<|e_p (zh rfl)<|zk<|zg<|zS ?_
 exact zM Tryz.results132 () trivial (zC rfl) (by simp) (ho:=(.n:PickO _ _ _)) (.n:SelR _ _ _)
theorem zyc {x:Int}:Con yl 142 [.int .u32 x] [] [] (Y:=Unit) (fun y=>True) (fun y=> .bool false) (fun y=>[]) (fun y=>[]):=by
 refine zv Tryz.func142 rfl rfl rfl (fun c=> ?_)
 show RunC _ _ _ _ _ [(0,.int .u32 x)] [] []
 refine zj<|zc<|e_p (zh rfl)<|zk<|zg<|zj<|zc<|e_mv rfl<|e_mv rfl<|e_p (zAb rfl rfl)<|e_p (zh rfl)<|zk<|zg<|zS ?_
 exact zM Tryz.results142 () trivial (zC rfl) (by simp) (ho:=(.n:PickO _ _ _)) (.n:SelR _ _ _)
theorem zed {u:Int} {v:Int}:Con yl 117 [yc yd u,yc yd v] [] [] (Y:=Unit) (fun y=>True) (fun y=> yc yd (yI u v)) (fun y=>[]) (fun y=>[]):=by
 refine zv Tryz.func117 rfl rfl rfl (fun c=> ?_)
 show RunC _ _ _ _ _ [(0,yc yd u),(1,yc yd v)] [] []
 refine zj<|zc<|e_p (zh rfl)<|zk<|zg<|zj<|zc<|e_mv rfl<|zU rfl rfl (.c rfl .n) ce132 (zxc (x:=u)) (.n)<|e_p (zh rfl)<|zk<|zg<|zj<|zc<|e_mv rfl<|zU rfl rfl (.c rfl .n) ce132 (zxc (x:=v)) (.n)<|e_p (zh rfl)<|zk<|zg<|zj<|zj<|zc<|e_mv rfl<|zk<|zg<|zta rfl rfl<|zw<|zg<|zj<|zj<|zc<|e_mv rfl<|zk<|zg<|zta rfl rfl<|zw<|zg<|zj<|zj<|zc<|e_mv rfl<|e_mv rfl<|e_p (zO rfl rfl)<|zk<|zg<|zT rfl (fun h1=> ?_) (fun h1=> ?_)
 ·
  refine zj<|zc<|e_p (zh rfl)<|zk<|zg<|zS<|zu ?_
  exact zM Tryz.results117 () trivial (zC rfl) (by rw [Big.cmp_lt om]) (ho:=(.n:PickO _ _ _)) (.n:SelR _ _ _)
 ·
  refine zw<|zg<|zj<|zj<|zc<|e_mv rfl<|e_mv rfl<|e_p (zbb rfl rfl)<|zk<|zg<|zT rfl (fun h2=> ?_) (fun h2=> ?_)
  ·
   refine zj<|zc<|e_p (zh rfl)<|zk<|zg<|zS<|zu ?_
   exact zM Tryz.results117 () trivial (zC rfl) (by rw [Big.cmp_gt om]) (ho:=(.n:PickO _ _ _)) (.n:SelR _ _ _)
  ·
   refine zw<|zg<|zj<|zc<|e_p (zh rfl)<|zk<|zg<|zS ?_
   exact zM Tryz.results117 () trivial (zC rfl) (by rw [show yI u v=0 by simp [yI];omega]) (ho:=(.n:PickO _ _ _)) (.n:SelR _ _ _)
theorem zve {u:Int} {v:Int}:Con yl 134 [.int .u32 u,.int .u32 v] [] [] (Y:=Unit) (fun y=>True) (fun y=> yc yd (yI u v)) (fun y=>[]) (fun y=>[]):=by
 refine zv Tryz.func134 rfl rfl rfl (fun c=> ?_)
 show RunC _ _ _ _ _ [(0,.int .u32 u),(1,.int .u32 v)] [] []
 refine zj<|zc<|e_p (zh rfl)<|zk<|zg<|zj<|zc<|e_mv rfl<|zU rfl rfl (.c rfl .n) ce142 (zyc (x:=u)) (.n)<|e_p (zh rfl)<|zk<|zg<|zj<|zc<|e_mv rfl<|zU rfl rfl (.c rfl .n) ce142 (zyc (x:=v)) (.n)<|e_p (zh rfl)<|zk<|zg<|zj<|zj<|zc<|e_mv rfl<|zk<|zg<|zta rfl rfl<|zw<|zg<|zj<|zj<|zc<|e_mv rfl<|zk<|zg<|zta rfl rfl<|zw<|zg<|zj<|zj<|zc<|e_mv rfl<|e_mv rfl<|e_p (zO rfl rfl)<|zk<|zg<|zT rfl (fun h1=> ?_) (fun h1=> ?_)
 ·
  refine zj<|zc<|e_p (zh rfl)<|zk<|zg<|zS<|zu ?_
  exact zM Tryz.results134 () trivial (zC rfl) (by rw [Big.cmp_lt om]) (ho:=(.n:PickO _ _ _)) (.n:SelR _ _ _)
 ·
  refine zw<|zg<|zj<|zj<|zc<|e_mv rfl<|e_mv rfl<|e_p (zbb rfl rfl)<|zk<|zg<|zT rfl (fun h2=> ?_) (fun h2=> ?_)
  ·
   refine zj<|zc<|e_p (zh rfl)<|zk<|zg<|zS<|zu ?_
   exact zM Tryz.results134 () trivial (zC rfl) (by rw [Big.cmp_gt om]) (ho:=(.n:PickO _ _ _)) (.n:SelR _ _ _)
  ·
   refine zw<|zg<|zj<|zc<|e_p (zh rfl)<|zk<|zg<|zS ?_
   exact zM Tryz.results134 () trivial (zC rfl) (by rw [show yI u v=0 by simp [yI];omega]) (ho:=(.n:PickO _ _ _)) (.n:SelR _ _ _)
theorem back_u32 {b:Nat} {p:Option Addr} {n cap:Nat} {l:List Int} (hn:l.length=n):Back yl 141 [ye (some ⟨b,0,none⟩)] [atF b 0 [.slice p n cap],slF (rI .u32) p cap l] n (fun k=>[yc yd ((k:Nat):Int),.int .u32 (l.getD k 0)]):=by
  refine back_intro Tryz.func141 rfl rfl rfl (fun l0 c X Y φ ψ OO RR OS RS H x0 hx0=> ?_)
  show RunC _ _ _ _ _ [(0,.func (.yield l0) #[] #[]),(1,ye (some ⟨b,0,none⟩))] (OO x0) (atF b 0 [.slice p n cap] :: slF (rI .u32) p cap l :: RR x0)
  refine zqa 1 rfl (fun hL=> ?_)
  refine zj<|zc<|e_ru (zB (j:=0) 0 ty40 rfl rfl rfl rfl)<|e_p (zfa yg rfl)<|e_p (zna (z:=(((n:Nat):Int) - 1)) rfl rfl (w64 om))<|e_p (zh rfl)<|zk<|zg<|zt<|zZe (X:=X×Nat) (fun z=>φ z.1 z.2∧z.2≤n) (fun z=>[(3,yc yd (((z.2:Nat):Int) - 1)),(1,ye (some ⟨b,0,none⟩)),(0,.func (.yield l0) #[] #[])]) (fun z=>OO z.1) (fun z=>atF b 0 [.slice p n cap] :: slF (rI .u32) p cap l :: RR z.1) (fun z=>z.2) (x0,n) ⟨hx0,Nat.le_refl _⟩ (.c rfl (.c rfl (.c rfl .n)):SubM _ _) (fun w m=>m) ?_
  rintro ⟨x,k⟩ ⟨hx,hk⟩
  dsimp only at hx hk
  try dsimp only
  refine zj<|zj<|zc<|e_mv rfl<|e_p (zob rfl rfl)<|zk<|zg<|zT rfl (fun h=> ?_) (fun h=> ?_)
  · refine zw ?_
    refine zg ?_
    obtain ⟨j,rfl⟩:∃j,k=j+1:=⟨k - 1,by omega⟩
    rw [show (((j+1:Nat):Int) - 1)=(j:Int) by omega]
    refine zj<|zt<|zj<|zc<|e_mv rfl<|e_mv rfl<|e_ru (zB (j:=0) 0 ty40 rfl rfl rfl rfl)<|e_mv rfl<|zW (x0:=l.getD j 0) 1 j rfl yg sz131 rfl rfl rfl hn rfl rfl (gD (d:=0) om) (fun b2 o3 hok=> ?_)
    refine e_ru (zB (j:=0) 0 ty131 rfl rfl rfl rfl)<|zWf (X:=X) (Y:=Y) (φ:=fun x'=>φ x' j) (ψ:=ψ) (OO:=OO) (RR:=fun x'=>[atF b 0 [.slice p n cap],slF (rI .u32) p cap l]++RR x') (OS:=OS) (RS:=RS) (vs:=[yc yd ((j:Nat):Int),.int .u32 (l.getD j 0)]) rfl rfl rfl (.c rfl (.c rfl .n)) (fun w m=>H x j w om hx (m.weaken fun h g s r a=>⟨h,g,s,r.2,Hp.le_refl _,Hp.le_refl _,a,fun _ _ e=> .inl e⟩)) (fun x' hx'=> ?_) (fun y hy=> ?_)
    · refine e_p (zhc rfl) ?_
      refine zk<|zg<|zta rfl rfl<|zw<|zI<|zg<|zc<|e_mv rfl<|e_p (zna (z:=((j:Int) - 1)) rfl rfl (w64 om))<|e_p (zh rfl)<|zk ?_
      exact zUf (x',j) ⟨hx',by show j≤n;omega⟩ (by show j<j+1;omega) (.c rfl (.c rfl (.c rfl .n)):SubM _ _) (fun w m=>m)
    · refine e_p (zhc rfl) ?_
      refine zk<|zg<|zX rfl rfl<|zS<|zda<|zu<|zu<|zda ?_
      exact zqe rfl y hy (fun w m=>m)
  · have hk0 : k = 0 := by omega
    subst hk0
    refine zla<|zn<|zn<|zA<|p_endI ?_
    exact zpe rfl x hx (fun w m=>m)
theorem zbc {p:Option Addr} {n:Nat} {cap:Nat}:Con yl 133 [.slice p n cap] [] [] (Y:=Nat) (fun y=>True) (fun y=> .func (.func 141) #[] #[ye (some ⟨y,0,none⟩)]) (fun y=>[]) (fun y=>[atF y 0 [.slice p n cap]]):=by
 refine zv Tryz.func133 rfl rfl rfl (fun c=> ?_)
 show RunC _ _ _ _ _ [(0,.slice p n cap)] [] []
 refine zj<|zc<|zE rfl rfl (zZ rfl rfl) (fun b1=> ?_)
 refine e_p (zh rfl)<|zk<|zg<|zj<|zc<|e_p (zmc .n (.c rfl .n))<|e_p (zh rfl)<|zk<|zg<|zS<|zdf 0 rfl .z ?_
 exact zM Tryz.results133 b1 trivial (zC rfl) rfl (ho:=(.n:PickO _ _ _)) ((.c (j:=0) rfl .n):SelR _ _ _)
theorem znc {a:Nat} {b:Nat} {p1:Option Addr} {c1:Nat} {p2:Option Addr} {c2:Nat}:Con yl 118 [.slice p1 ((yf a).length) c1,.slice p2 ((yf b).length) c2] [] [slF (rI .u32) p1 c1 (yf a),slF (rI .u32) p2 c2 (yf b)] (Y:=Unit) (fun y=>True) (fun y=> yc yd (yI (a:Int) (b:Int))) (fun y=>[]) (fun y=>[]):=by
 refine zGc Tryz.func118 rfl rfl rfl (fun c=> ?_)
 show RunC _ _ _ _ _ [(0,.slice p1 ((yf a).length) c1),(1,.slice p2 ((yf b).length) c2)] [] [slF (rI .u32) p1 c1 (yf a),slF (rI .u32) p2 c2 (yf b)]
 refine zqa 0 rfl (fun hL0=> ?_)
 refine zqa 1 rfl (fun hL1=> ?_)
 refine zj<|zc<|zE rfl rfl (zZ rfl rfl) (fun b1=> ?_)
 refine zE rfl rfl (zo zr3 rfl) (fun b2=> ?_)
 refine zk<|zg<|zj<|zj<|zc<|e_mv rfl<|e_p (zfa yg rfl)<|e_ru (ze 1 ty40 rfl rfl rfl)<|e_p (zfa yg rfl)<|e_p (zAb rfl rfl)<|zk<|zg<|zT rfl (fun hlen=> ?_) (fun hlen=> ?_)
 ·
  refine zj<|zc<|e_mv rfl<|e_p (zfa yg rfl)<|e_ru (ze 1 ty40 rfl rfl rfl)<|e_p (zfa yg rfl)<|zU rfl rfl (.c rfl (.c rfl .n)) ce117 (zed (u:=(((yf a).length:Nat):Int)) (v:=(((yf b).length:Nat):Int))) (.n)<|zl 0 rfl rfl rfl rfl rfl sz3 rfl (.take .nil) .z<|zk<|zg<|zS<|zu<|zef ?_
  exact zM Tryz.results118 () trivial (zNb 0 ty3 rfl rfl rfl) (by rw [Big.cmp_len om]) (ho:=(.n:PickO _ _ _)) (.n:SelR _ _ _)
 ·
  replace hlen:(yf a).length=(yf b).length:=by omega
  refine zw<|zg<|zj<|zj<|zc<|e_mv rfl<|zG rfl rfl (.c rfl .n) ce133 (zbc (p:=p1) (n:=(yf a).length) (cap:=c1)) (.n) ?_
  rintro b3 -
  dsimp only [aq,nq,cq]
  refine zk<|zg<|zt<|zte (fa:=[atF b3 0 [.slice p1 ((yf a).length) c1],slF (rI .u32) p1 c1 (yf a)]) (N:=((yf a).length)) (encs:=fun k=>[yc yd ((k:Nat):Int),.int .u32 ((yf a).getD k 0)]) rfl ce141 (back_u32 cbs) (fun _=>rfl) rfl (X:=Unit) (Y:=Unit) (fun x k=>k≤(yf a).length∧(yf a).drop k=(yf b).drop k) (fun y=>True) (fun x=>[boxA b2 3 [yc yd 0],boxA b1 40 [.slice p2 ((yf b).length) c2]]) (fun x=>[slF (rI .u32) p2 c2 (yf b)]) (fun y=>[boxA b2 3 [yc yd (yI (a:Int) (b:Int))],boxA b1 40 [.slice p2 ((yf b).length) c2]]) (fun y=>[atF b3 0 [.slice p1 ((yf a).length) c1],slF (rI .u32) p1 c1 (yf a),slF (rI .u32) p2 c2 (yf b)]) (fun k=>[(6,.int .u32 ((yf a).getD k 0)),(5,yc yd ((k:Nat):Int)),(20,.int .u32 ((yf a).getD k 0)),(19,yc yd ((k:Nat):Int)),(18,.func (.func 141) #[] #[ye (some ⟨b3,0,none⟩)]),(17,.slice p1 ((yf a).length) c1),(11,.bool (decide ((((yf a).length:Nat):Int)≠(((yf b).length:Nat):Int)))),(10,yc yd (((yf b).length:Nat):Int)),(9,.slice p2 ((yf b).length) c2),(8,yc yd (((yf a).length:Nat):Int)),(7,.slice p1 ((yf a).length) c1),(4,ye (some ⟨b2,0,none⟩)),(3,ye (some ⟨b1,0,none⟩)),(0,.slice p1 ((yf a).length) c1),(1,.slice p2 ((yf b).length) c2)]) () (show ((yf a).length)≤(yf a).length∧(yf a).drop ((yf a).length)=(yf b).drop ((yf a).length) from by exact ⟨Nat.le_refl _,by rw [List.drop_length,hlen,List.drop_length]⟩) (ho:=((.of [0,0] rfl):PickO _ _ _)) ((.of [0,1,2] rfl):SelR _ _ _) ?_ ?_ ?_ ?_
  ·
   intro l k O' R' Q' hP
   refine zj<|zc<|e_p (zh rfl)<|zk<|zg<|zc<|e_p (zh rfl)<|zk ?_
   exact hP
  ·
   rintro l4 D5 o6 o7 ⟨⟩ k hkN hI
   replace hI:(k+1)≤(yf a).length∧(yf a).drop (k+1)=(yf b).drop (k+1):=hI
   try dsimp only
   have hg1:=yo (yr a) k
   have hg2:=yo (yr b) k
   refine zt<|zj<|zc<|e_mv rfl<|e_ru (ze 3 ty40 rfl rfl rfl)<|e_mv rfl<|zW (x0:=((yf b).getD k 0)) 2 k rfl yg sz131 rfl rfl rfl cbs rfl rfl (gD (d:=0) om) (fun b8 o9 hok10=> ?_)
   replace hok10:=zL.1 hok10
   refine e_ru (zB (j:=0) 0 ty131 rfl rfl rfl rfl)<|e_p (zAb rfl rfl)<|zk<|zg<|zT rfl (fun hne=> ?_) (fun hne=> ?_)
   ·
    refine zj<|zc<|e_mv rfl<|e_ru (ze 3 ty40 rfl rfl rfl)<|e_mv rfl<|zW (x0:=((yf b).getD k 0)) 3 k rfl yg sz131 rfl rfl rfl cbs rfl rfl (gD (d:=0) om) (fun b11 o12 hok13=> ?_)
    replace hok13:=zL.1 hok13
    refine e_ru (zB (j:=0) 0 ty131 rfl rfl rfl rfl)<|zU rfl rfl (.c rfl (.c rfl .n)) ce134 (zve (u:=((yf a).getD k 0)) (v:=((yf b).getD k 0))) (.n)<|zl 2 rfl rfl rfl rfl rfl sz3 rfl (.take .nil) (.s (.s .z))<|zk<|zg<|zS<|zda ?_
    exact zse () (show True from by first|trivial|omega) (ho:=((.c (i:=0) rfl (.c (i:=0) rfl (.e (i:=0) rfl (by rw [Big.cmp_at hlen om hI.2 hne]) (.c (i:=0) rfl .n)))):PickO _ _ _)) ((.of [2,3,4] rfl):SelR _ _ _)
   ·
    refine zw<|zI ?_
    exact zre () (show k≤(yf a).length∧(yf a).drop k=(yf b).drop k from by exact ⟨by omega,Big.drop_more om om hI.2 (Decidable.not_not.1 hne)⟩) (ho:=((.of [0,0,0,0] rfl):PickO _ _ _)) ((.of [1,2,3] rfl):SelR _ _ _)
  ·
   rintro D14 ⟨⟩ hI
   replace hI:0≤(yf a).length∧(yf a).drop 0=(yf b).drop 0:=hI
   try dsimp only
   have heq:(yf a)=(yf b):=by simpa using hI.2
   have hab:=Big.cmp_eq heq
   refine zI<|zg<|zj<|zc<|zl 1 rfl rfl rfl rfl rfl sz3 rfl (.take .nil) (.s .z)<|zk<|zg<|zS<|zEe 0 rfl rfl ?_
   exact zM Tryz.results118 () trivial (zNb 0 ty3 rfl rfl rfl) (by rw [hab];simp [yI]) (ho:=(.n:PickO _ _ _)) (.n:SelR _ _ _)
  ·
   rintro D15 ⟨⟩ hS
   replace hS:True:=hS
   try dsimp only
   refine zda<|zu<|zEe 0 rfl rfl ?_
   exact zM Tryz.results118 () trivial (zNb 0 ty3 rfl rfl rfl) rfl (ho:=(.n:PickO _ _ _)) (.n:SelR _ _ _)
theorem zSe {g:Int}:Con yl 128 [.int .u32 g] [] [] (Y:=Unit) (fun y=>True) (fun y=> .bool (decide (1000000000≤g))) (fun y=>[]) (fun y=>[]):=by
 refine zv Tryz.func128 rfl rfl rfl (fun c=> ?_)
 show RunC _ _ _ _ _ [(0,.int .u32 g)] [] []
 refine zj<|zc<|e_p (zh rfl)<|zk<|zg<|zj<|zc<|e_mv rfl<|e_p (zob rfl rfl)<|e_p (zh rfl)<|zk<|zg<|zS ?_
 exact zM Tryz.results128 () trivial (zC rfl) rfl (ho:=(.n:PickO _ _ _)) (.n:SelR _ _ _)
theorem zrd {p:Option Addr} {n:Nat} {cap:Nat} {l:List Int} (hn:l.length=n):Con yl 138 [.slice p n cap,.func (.func 128) #[] #[]] [] [slF (rI .u32) p cap l] (Y:=Int) (fun y=>(0≤y↔∃g∈l,1000000000≤g)) (fun y=> yc yd y) (fun y=>[]) (fun y=>[]):=by
 refine zv Tryz.func138 rfl rfl rfl (fun c=> ?_)
 show RunC _ _ _ _ _ [(0,.slice p n cap),(1,.func (.func 128) #[] #[])] [] [slF (rI .u32) p cap l]
 refine zqa 0 rfl (fun hL0=> ?_)
 refine zj<|zc<|e_p (zh rfl)<|zk<|zg<|zj<|zj<|zc<|e_mv rfl<|e_p (zfa yg rfl)<|e_mv rfl<|zk<|zg<|zt<|zBa (X:=Nat) (fun x:Nat=>x≤n∧∀j,j<x→l.getD j 0<1000000000) (fun x=>[(8,yc yd ((x:Nat):Int)),(7,yc yd ((n:Nat):Int)),(0,.slice p n cap),(1,.func (.func 128) #[] #[])]) (fun x=>[]) (fun x=>[slF (rI .u32) p cap l]) (fun x:Nat=>n - x) 0 (show 0≤n∧∀j,j<0→l.getD j 0<1000000000 from by exact ⟨by omega,fun j h=>by omega⟩) ((.e rfl (by first|rfl|(congr 1;omega)|simp_all) (.of rfl)):SubM _ _) (ho:=(.n:PickO _ _ _)) ((.c (j:=0) rfl .n):SelR _ _ _) ?_
 rintro i hI
 replace hI:i≤n∧∀j,j<i→l.getD j 0<1000000000:=hI
 try dsimp only
 obtain ⟨hi,hall⟩:=hI
 refine zj<|zc<|e_p (zO rfl rfl)<|zk<|zg<|zj<|zT rfl (fun h1=> ?_) (fun h1=> ?_)
 ·
  refine zw<|zg<|zj<|zt<|zj<|zc<|e_mv rfl<|e_p (zh rfl)<|zk<|zg<|zj<|zc<|e_mv rfl<|e_mv rfl<|e_mv rfl<|zW (x0:=(l.getD i 0)) 0 i rfl yg sz131 rfl rfl rfl cbs rfl rfl (gD (d:=0) om) (fun b2 o3 hok4=> ?_)
  replace hok4:=zL.1 hok4
  refine e_ru (zB (j:=0) 0 ty131 rfl rfl rfl rfl)<|zxa (first:=[]) (cap:=[]) rfl rfl rfl (.c rfl .n) ce128 (zSe (g:=(l.getD i 0))) (.n) ?_
  rintro ⟨⟩ -
  dsimp only [aq,nq,cq]
  refine zk<|zg<|zT rfl (fun hb=> ?_) (fun hb=> ?_)
  ·
   refine zj<|zc<|e_mv rfl<|e_p (zh rfl)<|zk<|zg<|zS<|zda<|zu<|zu<|zda<|zu ?_
   exact zM Tryz.results138 ((i:Nat):Int) (⟨fun _=>⟨l.getD i 0,Big.getD_mem om,hb⟩,fun _=>by omega⟩) (zC rfl) rfl (ho:=(.n:PickO _ _ _)) (.n:SelR _ _ _)
  ·
   refine zw<|zI<|zg<|zc<|e_p (zH (z:=(((i+1):Nat):Int)) rfl rfl (w64 om))<|e_mv rfl<|zk<|zwa (i+1) (show (i+1)≤n∧∀j,j<(i+1)→l.getD j 0<1000000000 from by refine ⟨by omega,fun j hj=> ?_⟩;by_cases e:j=i;subst e;omega;exact hall j om) (by show n - (i+1)<n - i;omega) ((.of rfl):SubM _ _) (ho:=(.n:PickO _ _ _)) ((.c (j:=1) rfl .n):SelR _ _ _)
 ·
  refine zla<|zn<|zn<|zA<|zg<|zj<|zc<|e_p (zh rfl)<|zk<|zg<|zS ?_
  exact zM Tryz.results138 (-1) (⟨fun h=>by omega,fun ⟨g,hg,hb⟩=>by obtain ⟨j,hj,e⟩:=Big.mem_getD hg;have:=hall j om;omega⟩) (zC rfl) rfl (ho:=(.n:PickO _ _ _)) (.n:SelR _ _ _)
theorem zIc {p:Option Addr} {n:Nat} {cap:Nat} {l:List Int} (hn:l.length=n):Con yl 127 [.slice p n cap,.func (.func 128) #[] #[]] [] [slF (rI .u32) p cap l] (Y:=Unit) (fun y=>True) (fun y=> .bool (decide (∃g∈l,1000000000≤g))) (fun y=>[]) (fun y=>[]):=by
 refine zv Tryz.func127 rfl rfl rfl (fun c=> ?_)
 show RunC _ _ _ _ _ [(0,.slice p n cap),(1,.func (.func 128) #[] #[])] [] [slF (rI .u32) p cap l]
 refine zqa 0 rfl (fun hL0=> ?_)
 refine zj<|zc<|e_p (zh rfl)<|zk<|zg<|zj<|zc<|e_mv rfl<|e_mv rfl<|zG rfl rfl (.c rfl (.c rfl .n)) ce138 (zrd (p:=p) (n:=n) (cap:=cap) (l:=l) (hn:=ass)) (.c (j:=0) rfl .n) ?_
 rintro r1 hr
 dsimp only [aq,nq,cq]
 replace hr:(0≤r1↔∃g∈l,1000000000≤g):=hr
 refine e_p (zob rfl rfl)<|e_p (zh rfl)<|zk<|zg<|zS ?_
 exact zM Tryz.results127 () trivial (zC rfl) (congrArg Value.bool (decide_eq_decide.2 hr.symm)) (ho:=(.n:PickO _ _ _)) (.n:SelR _ _ _)
theorem zzc {s:Bool} {p:Option Addr} {n:Nat} {cap:Nat} {l:List Int} (hn:l.length=n):Con yl 111 [.agg #[.bool s,.slice p n cap]] [] [slF (rI .u32) p cap l] (Y:=Unit) (fun y=>True) (fun y=> .bool (decide (Big.canon s l))) (fun y=>[]) (fun y=>[]):=by
 refine zv Tryz.func111 rfl rfl rfl (fun c=> ?_)
 show RunC _ _ _ _ _ [(0,.agg #[.bool s,.slice p n cap])] [] [slF (rI .u32) p cap l]
 refine zqa 0 rfl (fun hL0=> ?_)
 refine zj<|zc<|zE rfl rfl (zZ rfl rfl) (fun b1=> ?_)
 refine e_p (zh rfl)<|zk<|zg<|zj<|zc<|e_p (zf yn rfl sz40 rfl rfl)<|e_ru (ze 0 ty40 rfl rfl rfl)<|e_p (zfa yg rfl)<|e_p (zh rfl)<|zk<|zg<|zj<|zj<|zc<|e_mv rfl<|e_p (zOa rfl rfl)<|zk<|zg<|zT rfl (fun h0=> ?_) (fun h0=> ?_)
 ·
  refine zj<|zc<|e_p (zf yn rfl sz4 rfl rfl)<|e_ru (ze 0 ty4 rfl rfl rfl)<|e_p (zhc rfl)<|e_p (zh rfl)<|zk<|zg<|zS<|zu ?_
  exact zM Tryz.results111 () trivial (zC rfl) (congrArg Value.bool (by have:l.length=0:=om;cases s <;> simp [Big.canon,this])) (ho:=(.n:PickO _ _ _)) (.n:SelR _ _ _)
 ·
  refine zw<|zg<|zAa (X:=Unit) (fun x=>True) (fun x=>[(2,.bool (decide (((l.getD ((((n:Nat):Int) - 1).toNat) 0)≠0)∧(¬(∃g∈l,1000000000≤g)))))]) (fun x=>[boxA b1 42 [.bool s,.slice p n cap]]) (fun x=>[slF (rI .u32) p cap l]) ?_ ?_
  ·
   refine zc<|e_p (zf yn rfl sz40 rfl rfl)<|e_ru (ze 0 ty40 rfl rfl rfl)<|e_mv rfl<|e_p (zna (z:=(((n:Nat):Int) - 1)) rfl rfl (w64 om))<|zW (x0:=(l.getD ((((n:Nat):Int) - 1).toNat) 0)) 0 ((((n:Nat):Int) - 1).toNat) rfl yg sz131 rfl rfl rfl cbs rfl om (gD (d:=0) om) (fun b2 o3 hok4=> ?_)
   replace hok4:=zL.1 hok4
   refine e_ru (zB (j:=0) 0 ty131 rfl rfl rfl rfl)<|e_p (zAb rfl rfl)<|zja rfl rfl (zka rfl) (fun h5=> ?_) (fun h5=> ?_)
   ·
    refine e_p (zf yn rfl sz40 rfl rfl)<|e_ru (ze 0 ty40 rfl rfl rfl)<|zU rfl rfl (.c rfl (.c rfl .n)) ce127 (zIc (p:=p) (n:=n) (cap:=cap) (l:=l) (hn:=ass)) (.c (j:=1) rfl .n)<|e_p (zKa rfl)<|e_p (zK rfl rfl)<|e_p (zh rfl)<|zk ?_
    exact zha () (show True from by first|trivial|omega|simp_all) ((.e rfl (congrArg Value.bool (by simp_all)) .n):SubM _ _) (ho:=((.c (i:=0) rfl .n):PickO _ _ _)) ((.c (j:=1) rfl .n):SelR _ _ _)
   ·
    refine e_no<|e_no<|e_no<|e_no<|e_p (zK rfl rfl)<|e_p (zh rfl)<|zk ?_
    exact zha () (show True from by first|trivial|omega|simp_all) ((.e rfl (congrArg Value.bool (by simp_all)) .n):SubM _ _) (ho:=((.c (i:=0) rfl .n):PickO _ _ _)) ((.c (j:=1) rfl .n):SelR _ _ _)
  ·
   rintro ⟨⟩ -
   try dsimp only
   refine zS ?_
   exact zM Tryz.results111 () trivial (zC rfl) (congrArg Value.bool (decide_eq_decide.2 (by rw [Big.canon_more om,hn];have e:((n:Int) - 1).toNat=n - 1:=om;simp [e]))) (ho:=(.n:PickO _ _ _)) (.n:SelR _ _ _)
theorem zTe {z:Int} {p:Option Addr} {cap:Nat}:Con yl 111 [.agg #[.bool (decide ((z)<0)),.slice (p) ((yf ((z).natAbs)).length) (cap)]] [] [slF (rI .u32) (p) (cap) (yf ((z).natAbs))] (Y:=Unit) (fun y=>True) (fun y=> .bool true) (fun y=>[]) (fun y=>[]):=by
  have h:= @zzc (decide ((z)<0)) p (yf (z).natAbs).length cap (yf (z).natAbs) rfl
  rw [decide_eq_true (Big.canon_digs z)] at h
  exact h
theorem zUe {w1:Wd} {x1:Int}:Con yl 111 [.agg #[w1.b,w1.l]] [] [zF w1 (x1)] (Y:=Unit) (fun y=>True) (fun y=> .bool true) (fun y=>[]) (fun y=>[]):=by
  exact zae (fun p c=>zTe)
theorem zlb {s:Bool} {p:Option Addr} {n:Nat} {cap:Nat} {l:List Int} (hn:l.length=n):Con yl 119 [.agg #[.bool s,.slice p n cap]] [] [slF (rI .u32) p cap l] (Y:=(Option Addr)×Nat) (fun y=>True) (fun y=> .slice (y.1) ((yf ((ym s l).natAbs)).length) (y.2)) (fun y=>[]) (fun y=>[slF (rI .u32) (y.1) (y.2) (yf ((ym s l).natAbs))]):=by
 refine zv Tryz.func119 rfl rfl rfl (fun c=> ?_)
 show RunC _ _ _ _ _ [(0,.agg #[.bool s,.slice p n cap])] [] [slF (rI .u32) p cap l]
 refine zqa 0 rfl (fun hL0=> ?_)
 refine zfb 0 rfl (fun hE0=> ?_)
 have hnn:yO l:=fun g hg=>(zL.1 (hE0 g hg)).1
 refine zj<|zc<|zE rfl rfl (zZ rfl rfl) (fun b1=> ?_)
 refine e_p (zh rfl)<|zk<|zg<|zj<|zj<|zc<|e_ru (zd 0 ty42 rfl rfl (.t2 .nil))<|zU rfl rfl (.c rfl .n) ce111 (zzc (s:=s) (p:=p) (n:=n) (cap:=cap) (l:=l) (hn:=ass)) (.c (j:=0) rfl .n)<|e_p (zKa rfl)<|zk<|zg<|zT rfl (fun hc=> ?_) (fun hc=> ?_)
 ·
  refine zj<|zc<|e_p (zh rfl)<|zk<|zg<|zS<|zu ?_
  have hd:yf (ym s l).natAbs=[]:=by rw [Big.raw_digs hnn,if_neg hc]
  refine zPc (rI .u32) ?_
  exact zM Tryz.results119 (none,0) trivial (zC rfl) (by rw [hd];rfl) (ho:=(.n:PickO _ _ _)) ((.e (j:=0) rfl (by rw [hd]) .n):SelR _ _ _)
 ·
  refine zw<|zg<|zj<|zc<|e_p (zf yn rfl sz40 rfl rfl)<|e_ru (ze 0 ty40 rfl rfl rfl)<|e_p (zh rfl)<|zk<|zg<|zS ?_
  have hd:yf (ym s l).natAbs=l:=by rw [Big.raw_digs hnn,if_pos (Decidable.not_not.1 hc)]
  exact zM Tryz.results119 (p,cap) trivial (zC rfl) (by rw [hd,hn]) (ho:=(.n:PickO _ _ _)) ((.e (j:=0) rfl (by rw [hd]) .n):SelR _ _ _)
theorem zSb {z:Int} {p:Option Addr} {cap:Nat}:Con yl 119 [.agg #[.bool (decide ((z)<0)),.slice (p) ((yf ((z).natAbs)).length) (cap)]] [] [slF (rI .u32) (p) (cap) (yf ((z).natAbs))] (Y:=(Option Addr)×(Nat)) (fun y=>True) (fun y=> .slice (y.1) ((yf ((z).natAbs)).length) (y.2)) (fun y=>[]) (fun y=>[slF (rI .u32) (y.1) (y.2) (yf ((z).natAbs))]):=by
  have h:= @zlb (decide ((z)<0)) p (yf (z).natAbs).length cap (yf (z).natAbs) rfl
  rw [yu] at h
  exact h
theorem zGf {s:Bool} {p:Option Addr} {n:Nat} {cap:Nat} {l:List Int} (hn:l.length=n) (ho:yw l):Con yl 120 [.bool s,.slice p n cap] [] [slF (rI .u32) p cap l] (Y:=(Option Addr)×Nat) (fun y=>True) (fun y=> .agg #[.bool (decide ((yz s (yh l))<0)),.slice (y.1) ((yf ((yz s (yh l)).natAbs)).length) (y.2)]) (fun y=>[]) (fun y=>[slF (rI .u32) (y.1) (y.2) (yf ((yz s (yh l)).natAbs))]):=by
 refine zv Tryz.func120 rfl rfl rfl (fun c=> ?_)
 show RunC _ _ _ _ _ [(0,.bool s),(1,.slice p n cap)] [] [slF (rI .u32) p cap l]
 refine zqa 0 rfl (fun hL0=> ?_)
 have htr:yp l=yf (yz s (yh l)).natAbs:=by rw [Big.sg_abs (Big.valL_nonneg ho),Big.digs_valL ho]
 refine zj<|zc<|zE rfl rfl (zo zr42 rfl) (fun b1=> ?_)
 refine zk<|zg<|zj<|zc<|e_mv rfl<|zG rfl rfl (.c rfl .n) ce135 (zRb (p:=p) (n:=n) (cap:=cap) (l:=l) (hn:=ass)) (.c (j:=0) rfl .n) ?_
 rintro ⟨⟩ -
 dsimp only [aq,nq,cq]
 refine e_p (zh rfl)<|zk<|zg<|zj<|zj<|zc<|e_mv rfl<|e_p (zfa yg rfl)<|e_p (zOa rfl rfl)<|zk<|zg<|zT rfl (fun h0=> ?_) (fun h0=> ?_)
 ·
  refine zj<|zc<|e_p (zx zr42 rfl yn (.c sz4 (.c sz40 .n)) .n .n)<|zl 0 rfl rfl rfl rfl rfl sz42 rfl (.t2 .nil) .z<|zk<|zg<|zS<|zu ?_
  have hz:yh l=0:=Big.trim_zero ho om
  refine zPc (rI .u32) ?_
  exact zM Tryz.results120 (none,0) trivial (zr 0 ty42 rfl rfl (.t2 .nil)) (by rw [hz,Big.sg_zero];rfl) (ho:=(.n:PickO _ _ _)) ((.e (j:=0) rfl (by rw [hz,Big.sg_zero];rfl) .n):SelR _ _ _)
 ·
  refine zw<|zg<|zj<|zc<|e_mv rfl<|e_mv rfl<|e_p (zx zr42 rfl yn (.c sz4 (.c sz40 .n)) (.c rfl (.c rfl .n)) (.c rfl rfl rfl (.take .nil) (.c rfl rfl rfl (.skip (.take .nil)) .n)))<|zl 0 rfl rfl rfl rfl rfl sz42 rfl (.t2 .nil) .z<|zk<|zg<|zS ?_
  have hp:0<yh l:=Big.valL_pos ho (fun e=>h0 (by rw [e];rfl))
  exact zM Tryz.results120 (p,cap) trivial (zr 0 ty42 rfl rfl (.t2 .nil)) (by rw [Big.sg_pos hp,htr]) (ho:=(.n:PickO _ _ _)) ((.e (j:=0) rfl (by rw [htr]) .n):SelR _ _ _)
theorem zWa {s:Bool} {a:Nat} {p:Option Addr} {cap:Nat}:Con yl 120 [.bool (s),.slice (p) ((yf (a)).length) (cap)] [] [slF (rI .u32) (p) (cap) (yf (a))] (Y:=(Option Addr)×(Nat)) (fun y=>True) (fun y=> .agg #[.bool (decide ((yz s (a:Int))<0)),.slice (y.1) ((yf ((yz s (a:Int)).natAbs)).length) (y.2)]) (fun y=>[]) (fun y=>[slF (rI .u32) (y.1) (y.2) (yf ((yz s (a:Int)).natAbs))]):=by
  have h:= @zGf s p (yf a).length cap (yf a) rfl (yr a)
  rw [yB] at h
  exact h
theorem zMb {n0:Nat} (hn0:n0<18446744073709551616):Con yl 122 [.int .u64 ((n0:Nat):Int)] [] [] (Y:=(Option Addr)×Nat) (fun y=>True) (fun y=> .slice (y.1) ((yf n0).length) (y.2)) (fun y=>[]) (fun y=>[slF (rI .u32) (y.1) (y.2) (yf n0)]):=by
 refine zv Tryz.func122 rfl rfl rfl (fun c=> ?_)
 show RunC _ _ _ _ _ [(0,.int .u64 ((n0:Nat):Int))] [] []
 refine zj<|zc<|e_p (zh rfl)<|zk<|zg<|zj<|zc<|e_p (zh rfl)<|zk<|zg<|zj<|zt<|zDe 131 (rI .u32)<|zBa (X:=Nat×(Option Addr)×Nat×(List Int)) (fun x:Nat×(Option Addr)×Nat×(List Int)=>x.1≤n0∧x.2.2.2++yf x.1=yf n0) (fun x=>[(3,.slice (x.2.1) (x.2.2.2.length) (x.2.2.1)),(0,.int .u64 ((x.1:Nat):Int)),(2,.slice none 0 0)]) (fun x=>[rowA 131 (rI .u32) (x.2.1) (x.2.2.1) (x.2.2.2)]) (fun x=>[]) (fun x:Nat×(Option Addr)×Nat×(List Int)=>x.1) (n0,none,0,[]) (show n0≤n0∧([])++yf n0=yf n0 from by exact ⟨Nat.le_refl _,rfl⟩) ((.e rfl (by first|rfl|(congr 1;omega)|simp_all) (.c rfl (.c rfl .n))):SubM _ _) (ho:=((.c (i:=0) rfl .n):PickO _ _ _)) (.n:SelR _ _ _) ?_
 rintro ⟨n,p,c,os⟩ hI
 replace hI:n≤n0∧os++yf n=yf n0:=hI
 try dsimp only
 obtain ⟨hnn,hos⟩:=hI
 have hlen:os.length+(yf n).length≤3:=by have:=congrArg List.length hos;rw [List.length_append] at this;have:=Big.zjf hn0;omega
 refine zj<|zj<|zc<|e_mv rfl<|e_p (zbb rfl rfl)<|zk<|zg<|zT rfl (fun hc=> ?_) (fun hc=> ?_)
 ·
  refine zw<|zg<|zj<|zt<|zc<|e_mv rfl<|e_mv rfl<|e_p (znb (z:=(((n%1000000000):Nat):Int)) rfl rfl om (remN om om))<|e_p (zQ (z:=(((n%1000000000):Nat):Int)) rfl (by rw [yk];rfl) yi (wu32 om))<|zDa rfl rfl (zR (enc:=fun z:Int=>[.int .u32 z]) (ok:=InK .u32) (h1:=fun _=>rfl) (h2:=fun _=>rfl) (k:=1) yg inf131 rfl dd dd dd (.c (x:=(((n%1000000000):Nat):Int)) rfl rfl (fun _ _=>by exact zL.2 om) .n)) (fun b1 _=> ?_)
  refine zia 0 rfl .z<|zeb 1 rfl rfl rfl (zVa 0 rfl yg inf131 dd rfl rfl cbs rfl cbs om om) (fun _=>(.s .z)) ?_
  rintro ⟨p2,c3⟩ -
  dsimp only [aq,nq,cq]
  refine e_p (zh rfl)<|zk<|zI<|zg<|zc<|e_mv rfl<|e_p (zab (z:=(((n / 1000000000):Nat):Int)) rfl rfl om (by rw [quoN (z:=(((n / 1000000000):Nat):Int)) om om];exact wu64 om))<|e_p (zh rfl)<|zk<|zwa ((n / 1000000000),p2,c3,os++[((n%1000000000:Nat):Int)]) (show (n / 1000000000)≤n0∧(os++[((n%1000000000:Nat):Int)])++yf (n / 1000000000)=yf n0 from by exact ⟨by omega,Big.split_step om hos⟩) (by show n / 1000000000<n;omega) ((.e rfl (by simp) (.c rfl (.c rfl .n))):SubM _ _) (ho:=((.e (i:=1) rfl (by first|rfl|(congr 1;omega)|simp_all) .n):PickO _ _ _)) (.n:SelR _ _ _)
 ·
  refine zla<|zn<|zn<|zA<|zg<|zj<|zc<|e_mv rfl<|e_p (zh rfl)<|zk<|zg<|zS ?_
  have hz:n=0:=by omega
  subst hz
  have hd:os=yf n0:=by simpa [Big.digs_zero] using hos
  refine zOb 0 rfl .z ?_
  exact zM Tryz.results122 (p,c) trivial (zC rfl) (by rw [hd]) (ho:=(.n:PickO _ _ _)) ((.e (j:=0) rfl (by rw [hd]) .n):SelR _ _ _)
theorem zSf {z:Int} (hz: -9223372036854775808≤z∧z≤9223372036854775807):Con yl 104 [yc yd z] [] [] (Y:=(Option Addr)×Nat) (fun y=>True) (fun y=> .agg #[.bool (decide (z<0)),.slice (y.1) ((yf ((z).natAbs)).length) (y.2)]) (fun y=>[]) (fun y=>[slF (rI .u32) (y.1) (y.2) (yf ((z).natAbs))]):=by
 refine zv Tryz.func104 rfl rfl rfl (fun c=> ?_)
 show RunC _ _ _ _ _ [(0,yc yd z)] [] []
 refine zj<|zc<|zE rfl rfl (zo zr42 rfl) (fun b1=> ?_)
 refine zk<|zg<|zj<|zc<|e_mv rfl<|e_p (zQ (z:=(z%18446744073709551616)) rfl (by rw [Tryz.underlying3];rfl) yk (wu64m om))<|e_p (zh rfl)<|zk<|zg<|zj<|zj<|zc<|e_mv rfl<|e_p (zO rfl rfl)<|zk<|zg<|zT rfl (fun hs=> ?_) (fun hs=> ?_)
 ·
  refine zc<|e_mv rfl<|e_p (zgc (z:=((z.natAbs:Nat):Int)) rfl (wu64m om))<|e_p (zh rfl)<|zk<|zg<|zj<|zc<|e_mv rfl<|e_p (zO rfl rfl)<|e_mv rfl<|zG rfl rfl (.c rfl .n) ce122 (zMb (n0:=z.natAbs) (hn0:=om)) (.n) ?_
  rintro ⟨p22,c23⟩ -
  dsimp only [aq,nq,cq]
  refine zG rfl rfl (.c rfl (.c rfl .n)) ce120 (zWa (s:=decide (z<0)) (a:=z.natAbs) (p:=p22) (cap:=c23)) (.c (j:=0) rfl .n) ?_
  rintro ⟨p24,c25⟩ -
  dsimp only [aq,nq,cq]
  refine zl 0 rfl rfl rfl rfl rfl sz42 rfl (.t2 .nil) .z<|zk<|zg<|zS ?_
  have hsg:yz (decide (z<0)) (z.natAbs:Int)=z:=Big.sg_big z
  exact zM Tryz.results104 (p24,c25) trivial (zr 0 ty42 rfl rfl (.t2 .nil)) (by rw [hsg]) (ho:=(.n:PickO _ _ _)) ((.e (j:=0) rfl (by rw [hsg]) .n):SelR _ _ _)
 ·
  have e6:((z%18446744073709551616):Int)=((z.natAbs:Nat):Int):=by omega
  rw [e6]
  refine zw<|zg<|zj<|zc<|e_mv rfl<|e_p (zO rfl rfl)<|e_mv rfl<|zG rfl rfl (.c rfl .n) ce122 (zMb (n0:=z.natAbs) (hn0:=om)) (.n) ?_
  rintro ⟨p27,c28⟩ -
  dsimp only [aq,nq,cq]
  refine zG rfl rfl (.c rfl (.c rfl .n)) ce120 (zWa (s:=decide (z<0)) (a:=z.natAbs) (p:=p27) (cap:=c28)) (.c (j:=0) rfl .n) ?_
  rintro ⟨p29,c210⟩ -
  dsimp only [aq,nq,cq]
  refine zl 0 rfl rfl rfl rfl rfl sz42 rfl (.t2 .nil) .z<|zk<|zg<|zS ?_
  have hsg:yz (decide (z<0)) (z.natAbs:Int)=z:=Big.sg_big z
  exact zM Tryz.results104 (p29,c210) trivial (zr 0 ty42 rfl rfl (.t2 .nil)) (by rw [hsg]) (ho:=(.n:PickO _ _ _)) ((.e (j:=0) rfl (by rw [hsg]) .n):SelR _ _ _)
theorem zNd {z:Int} (hz: -9223372036854775808≤z∧z≤9223372036854775807):Con yl 104 [yc yd (z)] [] [] (Y:=(Wd)) (fun y=>True) (fun y=> .agg #[y.b,y.l]) (fun y=>[]) (fun y=>[zF y (z)]):=by
  exact zkc (zSf hz)
theorem zfd {a:Nat} {b:Nat} {p1:Option Addr} {c1:Nat} {p2:Option Addr} {c2:Nat} (hb1:(yf a).length≤1099511627776) (hb2:(yf b).length≤1099511627776) (hab:b≤a):Con yl 137 [.slice p1 ((yf a).length) c1,.slice p2 ((yf b).length) c2] [] [slF (rI .u32) p1 c1 (yf a),slF (rI .u32) p2 c2 (yf b)] (Y:=(Option Addr)×Nat) (fun y=>True) (fun y=> .slice (y.1) ((yf (a - b)).length) (y.2)) (fun y=>[]) (fun y=>[slF (rI .u32) (y.1) (y.2) (yf (a - b))]):=by
 refine zv Tryz.func137 rfl rfl rfl (fun c=> ?_)
 show RunC _ _ _ _ _ [(0,.slice p1 ((yf a).length) c1),(1,.slice p2 ((yf b).length) c2)] [] [slF (rI .u32) p1 c1 (yf a),slF (rI .u32) p2 c2 (yf b)]
 refine zqa 0 rfl (fun hL0=> ?_)
 refine zqa 1 rfl (fun hL1=> ?_)
 refine zj<|zc<|e_p (zh rfl)<|zk<|zg<|zj<|zc<|e_mv rfl<|e_p (zfa yg rfl)<|zDa rfl rfl (zPb (r:=rI .u32) (k:=(yf a).length) (x0:=0) (γ0:=()) yg inf131 rfl rfl rfl rfl om om rfl (fun _ _=>by exact zL.2 dd) dd) (fun b1 _=> ?_)
 refine e_p (zh rfl)<|zk<|zg<|zj<|zc<|e_p (zh rfl)<|zk<|zg<|zj<|zj<|zc<|e_mv rfl<|e_p (zfa yg rfl)<|e_mv rfl<|zk<|zg<|zt<|zBa (X:=Nat×(List Int)×Int) (fun x:Nat×(List Int)×Int=>x.1≤(yf a).length∧x.2.1.length=x.1∧0≤x.2.2∧x.2.2≤1∧yw x.2.1∧yh x.2.1+yh ((yf b).take x.1)=yh ((yf a).take x.1)+yC x.1*x.2.2) (fun x=>[(6,.int .u32 (x.2.2)),(14,yc yd ((x.1:Nat):Int)),(13,yc yd (((yf a).length:Nat):Int)),(5,.slice (some ⟨b1,0,none⟩) ((yf a).length) ((yf a).length)),(4,.slice none 0 0),(0,.slice p1 ((yf a).length) c1),(1,.slice p2 ((yf b).length) c2)]) (fun x=>[rowA 131 (rI .u32) (some ⟨b1,0,none⟩) ((yf a).length) (x.2.1++List.replicate ((yf a).length - x.1) 0)]) (fun x=>[slF (rI .u32) p1 c1 (yf a),slF (rI .u32) p2 c2 (yf b)]) (fun x:Nat×(List Int)×Int=>(yf a).length - x.1) (0,[],0) (show 0≤(yf a).length∧([]).length=0∧0≤0∧0≤1∧yw ([])∧yh ([])+yh ((yf b).take 0)=yh ((yf a).take 0)+yC 0*0 from by exact ⟨by omega,rfl,by decide,by decide,Big.okL_nil,by simp [yh]⟩) ((.c rfl (.e rfl (by first|rfl|(congr 1;omega)|simp_all) (.of rfl))):SubM _ _) (ho:=((.e (i:=0) rfl (by simp) .n):PickO _ _ _)) ((.of [0,1] rfl):SelR _ _ _) ?_
 rintro ⟨i,os,bo⟩ hI
 replace hI:i≤(yf a).length∧os.length=i∧0≤bo∧bo≤1∧yw os∧yh os+yh ((yf b).take i)=yh ((yf a).take i)+yC i*bo:=hI
 try dsimp only
 obtain ⟨hi,hol,hc0,hc1,hok,hv⟩:=hI
 have hg1:=yo (yr a) i
 have hg2:=yo (yr b) i
 refine zj<|zc<|e_p (zO rfl rfl)<|zk<|zg<|zj<|zT rfl (fun h2=> ?_) (fun h2=> ?_)
 ·
  refine zw<|zg<|zj<|zt<|zj<|zc<|e_mv rfl<|e_p (zh rfl)<|zk<|zg<|zj<|zc<|e_mv rfl<|e_mv rfl<|zU rfl rfl (.c rfl (.c rfl .n)) ce143 (zFe (p:=p2) (n:=(yf b).length) (cap:=c2) (l:=yf b) (i:=i) (hn:=cbb) (hi:=cbb)) (.c (j:=1) rfl .n)<|e_mv rfl<|e_p (zH (z:=((yf b).getD i 0+bo)) rfl rfl (wu32 om))<|e_p (zh rfl)<|zk<|zg<|zj<|zc<|e_p (zh rfl)<|zk<|zg<|zj<|zc<|e_mv rfl<|e_mv rfl<|zW (x0:=((yf a).getD i 0)) 0 i rfl yg sz131 rfl rfl rfl (by first|rfl|assumption|(simp;omega)) rfl rfl (gD (d:=0) om) (fun b3 o4 hok5=> ?_)
  replace hok5:=zL.1 hok5
  refine e_ru (zB (j:=0) 0 ty131 rfl rfl rfl rfl)<|e_mv rfl<|e_p (zO rfl rfl)<|zk<|zg<|zT rfl (fun hc=> ?_) (fun hc=> ?_)
  ·
   refine zc<|e_mv rfl<|e_mv rfl<|e_mv rfl<|e_mv rfl<|zW (x0:=((yf a).getD i 0)) 1 i rfl yg sz131 rfl rfl rfl (by first|rfl|assumption|(simp;omega)) rfl rfl (gD (d:=0) om) (fun b6 o7 hok8=> ?_)
   replace hok8:=zL.1 hok8
   refine e_ru (zB (j:=0) 0 ty131 rfl rfl rfl rfl)<|e_p (zH (z:=(((yf a).getD i 0)+1000000000)) rfl rfl (wu32 om))<|e_mv rfl<|e_p (zna (z:=((((yf a).getD i 0)+1000000000) - ((yf b).getD i 0+bo))) rfl rfl (wu32 om))<|e_p (zra (j:=i) yg sz131 rfl rfl rfl om)<|zeb 0 rfl rfl rfl (zma (j:=i) (x0:=((((yf a).getD i 0)+1000000000) - ((yf b).getD i 0+bo))) (γ0:=()) rfl rfl (by first|omega|(rw [List.length_map];omega)|(simp only [List.length_set];omega)|(simp;done)|(simp;omega)) rfl rfl sz131 (fun _ _=>by exact zL.2 om)) (fun _=> .z) (fun _ _=> ?_)
   refine e_p (zh rfl)<|zk<|zI<|zg<|zc<|e_p (zH (z:=(((i+1):Nat):Int)) rfl rfl (w64 om))<|e_mv rfl<|zk<|zwa ((i+1),os++[(yf a).getD i 0+1000000000 - ((yf b).getD i 0+bo)],1) (show (i+1)≤(yf a).length∧(os++[(yf a).getD i 0+1000000000 - ((yf b).getD i 0+bo)]).length=(i+1)∧0≤1∧1≤1∧yw (os++[(yf a).getD i 0+1000000000 - ((yf b).getD i 0+bo)])∧yh (os++[(yf a).getD i 0+1000000000 - ((yf b).getD i 0+bo)])+yh ((yf b).take (i+1))=yh ((yf a).take (i+1))+yC (i+1)*1 from by exact ⟨by omega,by simp [hol],by decide,by decide,yN hok om om,Big.minus_step hol hv om⟩) (by show (yf a).length - (i+1)<(yf a).length - i;omega) ((.of rfl):SubM _ _) (ho:=((.e (i:=0) rfl (by rw [Big.set_pad hol om]) .n):PickO _ _ _)) ((.of [2,3] rfl):SelR _ _ _)
  ·
   refine zc<|e_mv rfl<|e_mv rfl<|e_mv rfl<|e_mv rfl<|zW (x0:=((yf a).getD i 0)) 1 i rfl yg sz131 rfl rfl rfl (by first|rfl|assumption|(simp;omega)) rfl rfl (gD (d:=0) om) (fun b9 o10 hok11=> ?_)
   replace hok11:=zL.1 hok11
   refine e_ru (zB (j:=0) 0 ty131 rfl rfl rfl rfl)<|e_mv rfl<|e_p (zna (z:=(((yf a).getD i 0) - ((yf b).getD i 0+bo))) rfl rfl (wu32 om))<|e_p (zra (j:=i) yg sz131 rfl rfl rfl om)<|zeb 0 rfl rfl rfl (zma (j:=i) (x0:=(((yf a).getD i 0) - ((yf b).getD i 0+bo))) (γ0:=()) rfl rfl (by first|omega|(rw [List.length_map];omega)|(simp only [List.length_set];omega)|(simp;done)|(simp;omega)) rfl rfl sz131 (fun _ _=>by exact zL.2 om)) (fun _=> .z) (fun _ _=> ?_)
   refine zk<|zI<|zg<|zc<|e_p (zH (z:=(((i+1):Nat):Int)) rfl rfl (w64 om))<|e_mv rfl<|zk<|zwa ((i+1),os++[(yf a).getD i 0 - ((yf b).getD i 0+bo)],0) (show (i+1)≤(yf a).length∧(os++[(yf a).getD i 0 - ((yf b).getD i 0+bo)]).length=(i+1)∧0≤0∧0≤1∧yw (os++[(yf a).getD i 0 - ((yf b).getD i 0+bo)])∧yh (os++[(yf a).getD i 0 - ((yf b).getD i 0+bo)])+yh ((yf b).take (i+1))=yh ((yf a).take (i+1))+yC (i+1)*0 from by exact ⟨by omega,by simp [hol],by decide,by decide,yN hok om om,Big.minus_step hol hv om⟩) (by show (yf a).length - (i+1)<(yf a).length - i;omega) ((.of rfl):SubM _ _) (ho:=((.e (i:=0) rfl (by rw [Big.set_pad hol om]) .n):PickO _ _ _)) ((.of [2,3] rfl):SelR _ _ _)
 ·
  have e12:os++List.replicate ((yf a).length - i) 0=os:=by rw [show (yf a).length - i=0 by omega];simp
  rw [e12]
  have htr:yp os=yf (a - b):=Big.minus_fin hab hok hc0 hol om hv
  refine zla<|zn<|zn<|zA<|zg<|zj<|zc<|e_mv rfl<|zia 0 rfl .z<|zG rfl rfl (.c rfl .n) ce135 (zRb (p:=some ⟨b1,0,none⟩) (n:=(yf a).length) (cap:=(yf a).length) (l:=os) (hn:=cbb)) (.c (j:=0) rfl .n) ?_
  rintro ⟨⟩ -
  dsimp only [aq,nq,cq]
  refine e_p (zh rfl)<|zk<|zg<|zS ?_
  exact zM Tryz.results137 ((some ⟨b1,0,none⟩),((yf a).length)) trivial (zC rfl) (by rw [htr]) (ho:=(.n:PickO _ _ _)) ((.e (j:=0) rfl (by rw [htr]) .n):SelR _ _ _)
theorem zag {s:Bool} {t:Bool} {a:Nat} {b:Nat} {p1:Option Addr} {c1:Nat} {p2:Option Addr} {c2:Nat} (hb1:(yf a).length≤1099511627776) (hb2:(yf b).length≤1099511627776):Con yl 125 [.bool s,.slice p1 ((yf a).length) c1,.bool t,.slice p2 ((yf b).length) c2] [] [slF (rI .u32) p1 c1 (yf a),slF (rI .u32) p2 c2 (yf b)] (Y:=(Option Addr)×Nat) (fun y=>True) (fun y=> .agg #[.bool (decide ((yz s (a:Int)+yz t (b:Int))<0)),.slice (y.1) ((yf ((yz s (a:Int)+yz t (b:Int)).natAbs)).length) (y.2)]) (fun y=>[]) (fun y=>[slF (rI .u32) (y.1) (y.2) (yf ((yz s (a:Int)+yz t (b:Int)).natAbs))]):=by
 refine zv Tryz.func125 rfl rfl rfl (fun c=> ?_)
 show RunC _ _ _ _ _ [(0,.bool s),(1,.slice p1 ((yf a).length) c1),(2,.bool t),(3,.slice p2 ((yf b).length) c2)] [] [slF (rI .u32) p1 c1 (yf a),slF (rI .u32) p2 c2 (yf b)]
 refine zqa 0 rfl (fun hL0=> ?_)
 refine zqa 1 rfl (fun hL1=> ?_)
 refine zj<|zc<|zE rfl rfl (zo zr42 rfl) (fun b1=> ?_)
 refine zk<|zg<|zj<|zt<|zj<|zc<|e_mv rfl<|e_mv rfl<|e_p (zZc yE rfl rfl)<|e_p (zh rfl)<|zk<|zg<|zT rfl (fun hst=> ?_) (fun hst=> ?_)
 ·
  refine zj<|zc<|e_mv rfl<|e_mv rfl<|e_mv rfl<|zG rfl rfl (.c rfl (.c rfl .n)) ce136 (zde (a:=a) (b:=b) (p1:=p1) (c1:=c1) (p2:=p2) (c2:=c2) (hb1:=ass) (hb2:=ass)) (.c (j:=0) rfl (.c (j:=1) rfl .n)) ?_
  rintro ⟨p32,c33⟩ -
  dsimp only [aq,nq,cq]
  refine zG rfl rfl (.c rfl (.c rfl .n)) ce120 (zWa (s:=s) (a:=a+b) (p:=p32) (cap:=c33)) (.c (j:=0) rfl .n) ?_
  rintro ⟨p24,c25⟩ -
  dsimp only [aq,nq,cq]
  refine zl 0 rfl rfl rfl rfl rfl sz42 rfl (.t2 .nil) .z<|zk<|zg<|zS<|zda<|zu ?_
  have hz:yz s ((a+b:Nat):Int)=yz s (a:Int)+yz t (b:Int):=by rw [← hst];unfold yz;split <;> omega
  exact zM Tryz.results125 (p24,c25) trivial (zr 0 ty42 rfl rfl (.t2 .nil)) (by rw [hz]) (ho:=(.n:PickO _ _ _)) ((.e (j:=0) rfl (by rw [hz]) .n):SelR _ _ _)
 ·
  refine zj<|zc<|e_mv rfl<|e_mv rfl<|zU rfl rfl (.c rfl (.c rfl .n)) ce118 (znc (a:=a) (b:=b) (p1:=p1) (c1:=c1) (p2:=p2) (c2:=c2)) (.c (j:=0) rfl (.c (j:=1) rfl .n))<|e_p (zob rfl rfl)<|e_p (zh rfl)<|zk<|zg<|zT rfl (fun hcmp=> ?_) (fun hcmp=> ?_)
  ·
   have hab:b≤a:=by have:=Big.cmp_ge.1 hcmp;omega
   refine zj<|zc<|e_mv rfl<|e_mv rfl<|e_mv rfl<|zG rfl rfl (.c rfl (.c rfl .n)) ce137 (zfd (a:=a) (b:=b) (p1:=p1) (c1:=c1) (p2:=p2) (c2:=c2) (hb1:=ass) (hb2:=ass) (hab:=cbb)) (.c (j:=0) rfl (.c (j:=1) rfl .n)) ?_
   rintro ⟨p36,c37⟩ -
   dsimp only [aq,nq,cq]
   refine zG rfl rfl (.c rfl (.c rfl .n)) ce120 (zWa (s:=s) (a:=a - b) (p:=p36) (cap:=c37)) (.c (j:=0) rfl .n) ?_
   rintro ⟨p28,c29⟩ -
   dsimp only [aq,nq,cq]
   refine zl 0 rfl rfl rfl rfl rfl sz42 rfl (.t2 .nil) .z<|zk<|zg<|zS<|zda<|zu ?_
   have hz:yz s ((a - b:Nat):Int)=yz s (a:Int)+yz t (b:Int):=by revert hst;unfold yz;cases s <;> cases t <;> simp <;> omega
   exact zM Tryz.results125 (p28,c29) trivial (zr 0 ty42 rfl rfl (.t2 .nil)) (by rw [hz]) (ho:=(.n:PickO _ _ _)) ((.e (j:=0) rfl (by rw [hz]) .n):SelR _ _ _)
  ·
   have hab:a≤b:=by have:¬(b:Int)≤a:=fun h=>hcmp (Big.cmp_ge.2 h);omega
   refine zw<|zI<|zg<|zj<|zc<|e_mv rfl<|e_mv rfl<|e_mv rfl<|zG rfl rfl (.c rfl (.c rfl .n)) ce137 (zfd (a:=b) (b:=a) (p1:=p2) (c1:=c2) (p2:=p1) (c2:=c1) (hb1:=ass) (hb2:=ass) (hab:=cbb)) (.c (j:=1) rfl (.c (j:=0) rfl .n)) ?_
   rintro ⟨p310,c311⟩ -
   dsimp only [aq,nq,cq]
   refine zG rfl rfl (.c rfl (.c rfl .n)) ce120 (zWa (s:=t) (a:=b - a) (p:=p310) (cap:=c311)) (.c (j:=0) rfl .n) ?_
   rintro ⟨p212,c213⟩ -
   dsimp only [aq,nq,cq]
   refine zl 0 rfl rfl rfl rfl rfl sz42 rfl (.t2 .nil) .z<|zk<|zg<|zS ?_
   have hz:yz t ((b - a:Nat):Int)=yz s (a:Int)+yz t (b:Int):=by revert hst;unfold yz;cases s <;> cases t <;> simp <;> omega
   exact zM Tryz.results125 (p212,c213) trivial (zr 0 ty42 rfl rfl (.t2 .nil)) (by rw [hz]) (ho:=(.n:PickO _ _ _)) ((.e (j:=0) rfl (by rw [hz]) .n):SelR _ _ _)
theorem zee {a:Nat} {b:Nat} {p1:Option Addr} {c1:Nat} {p2:Option Addr} {c2:Nat} (hb1:(yf a).length≤1099511627776) (hb2:(yf b).length≤1099511627776):Con yl 121 [.slice p1 ((yf a).length) c1,.slice p2 ((yf b).length) c2] [] [slF (rI .u32) p1 c1 (yf a),slF (rI .u32) p2 c2 (yf b)] (Y:=(Option Addr)×Nat) (fun y=>True) (fun y=> .slice (y.1) ((yf (a*b)).length) (y.2)) (fun y=>[]) (fun y=>[slF (rI .u32) (y.1) (y.2) (yf (a*b))]):=by
 refine zv Tryz.func121 rfl rfl rfl (fun c=> ?_)
 show RunC _ _ _ _ _ [(0,.slice p1 ((yf a).length) c1),(1,.slice p2 ((yf b).length) c2)] [] [slF (rI .u32) p1 c1 (yf a),slF (rI .u32) p2 c2 (yf b)]
 refine zqa 0 rfl (fun hL0=> ?_)
 refine zqa 1 rfl (fun hL1=> ?_)
 have hoa:=yr a
 have hob:=yr b
 refine zj<|zc<|e_p (zh rfl)<|zk<|zg<|zj<|zc<|e_mv rfl<|e_p (zfa yg rfl)<|e_mv rfl<|e_p (zfa yg rfl)<|e_p (zH (z:=(((((yf a).length)+((yf b).length)):Nat):Int)) rfl rfl (w64 om))<|zDa rfl rfl (zPb (r:=rI .u32) (k:=(((yf a).length)+((yf b).length))) (x0:=0) (γ0:=()) yg inf131 rfl rfl rfl rfl om om rfl (fun _ _=>by exact zL.2 dd) dd) (fun b1 _=> ?_)
 refine e_p (zh rfl)<|zk<|zg<|zj<|zj<|zc<|e_mv rfl<|e_p (zfa yg rfl)<|e_mv rfl<|zk<|zg<|zt<|zBa (X:=Nat×(List Int)) (fun x:Nat×(List Int)=>x.1≤(yf a).length∧x.2.length=(yf a).length+(yf b).length∧yw x.2∧(∀k,x.1+(yf b).length≤k→x.2.getD k 0=0)∧yh x.2=yh ((yf a).take x.1)*yh (yf b)) (fun x=>[(20,yc yd ((x.1:Nat):Int)),(19,yc yd (((yf a).length:Nat):Int)),(18,.slice p1 ((yf a).length) c1),(5,.slice (some ⟨b1,0,none⟩) (((yf a).length)+((yf b).length)) (((yf a).length)+((yf b).length))),(4,.slice none 0 0),(1,.slice p2 ((yf b).length) c2)]) (fun x=>[rowA 131 (rI .u32) (some ⟨b1,0,none⟩) (((yf a).length)+((yf b).length)) (x.2)]) (fun x=>[slF (rI .u32) p1 c1 (yf a),slF (rI .u32) p2 c2 (yf b)]) (fun x:Nat×(List Int)=>(yf a).length - x.1) (0,List.replicate ((yf a).length+(yf b).length) 0) (show 0≤(yf a).length∧(List.replicate ((yf a).length+(yf b).length) 0).length=(yf a).length+(yf b).length∧yw (List.replicate ((yf a).length+(yf b).length) 0)∧(∀k,0+(yf b).length≤k→(List.replicate ((yf a).length+(yf b).length) 0).getD k 0=0)∧yh (List.replicate ((yf a).length+(yf b).length) 0)=yh ((yf a).take 0)*yh (yf b) from by exact ⟨by omega,by simp,Big.okL_zeros _,fun k _=>Big.getD_zeros _ k,by simp [Big.valL_zeros,yh]⟩) ((.e rfl (by first|rfl|(congr 1;omega)|simp_all) (.of rfl)):SubM _ _) (ho:=((.e (i:=0) rfl (by first|rfl|(congr 1;omega)|simp_all) .n):PickO _ _ _)) ((.of [0,1] rfl):SelR _ _ _) ?_
 rintro ⟨i,os⟩ hI
 replace hI:i≤(yf a).length∧os.length=(yf a).length+(yf b).length∧yw os∧(∀k,i+(yf b).length≤k→os.getD k 0=0)∧yh os=yh ((yf a).take i)*yh (yf b):=hI
 try dsimp only
 obtain ⟨hi,hol,hok,hz,hv⟩:=hI
 have hg1:=yo hoa i
 refine zj<|zc<|e_p (zO rfl rfl)<|zk<|zg<|zj<|zT rfl (fun h2=> ?_) (fun h2=> ?_)
 ·
  refine zw<|zg<|zj<|zt<|zj<|zc<|e_mv rfl<|zW (x0:=((yf a).getD i 0)) 0 i rfl yg sz131 rfl rfl rfl (by first|rfl|assumption|(simp;omega)|omega) rfl rfl (gD (d:=0) om) (fun b3 o4 hok5=> ?_)
  replace hok5:=zL.1 hok5
  refine e_ru (zB (j:=0) 0 ty131 rfl rfl rfl rfl)<|e_p (zh rfl)<|e_p (zh rfl)<|zk<|zg<|zj<|zc<|e_p (zh rfl)<|zk<|zg<|zj<|zj<|zc<|e_mv rfl<|e_p (zfa yg rfl)<|e_mv rfl<|zk<|zg<|zt<|zBa (X:=Nat×(List Int)×Int) (fun x:Nat×(List Int)×Int=>x.1≤(yf b).length∧x.2.1.length=(yf a).length+(yf b).length∧yw x.2.1∧0≤x.2.2∧x.2.2<1000000000∧(∀k,i+(yf b).length≤k→x.2.1.getD k 0=0)∧yh x.2.1+yC (i+x.1)*x.2.2=yh ((yf a).take i)*yh (yf b)+yC i*(yf a).getD i 0*yh ((yf b).take x.1)) (fun x=>[(8,.int .u64 (x.2.2)),(27,yc yd ((x.1:Nat):Int)),(26,yc yd (((yf b).length:Nat):Int)),(25,.slice p2 ((yf b).length) c2),(7,.int .u32 ((yf a).getD i 0)),(6,yc yd ((i:Nat):Int)),(20,yc yd ((i:Nat):Int)),(19,yc yd (((yf a).length:Nat):Int)),(18,.slice p1 ((yf a).length) c1),(5,.slice (some ⟨b1,0,none⟩) (((yf a).length)+((yf b).length)) (((yf a).length)+((yf b).length))),(4,.slice none 0 0),(1,.slice p2 ((yf b).length) c2)]) (fun x=>[rowA 131 (rI .u32) (some ⟨b1,0,none⟩) (((yf a).length)+((yf b).length)) (x.2.1)]) (fun x=>[atF b3 o4 [.int .u32 ((yf a).getD i 0)],slF (rI .u32) p1 c1 (yf a),slF (rI .u32) p2 c2 (yf b)]) (fun x:Nat×(List Int)×Int=>(yf b).length - x.1) (0,os,0) (show 0≤(yf b).length∧os.length=(yf a).length+(yf b).length∧yw os∧0≤0∧0<1000000000∧(∀k,i+(yf b).length≤k→os.getD k 0=0)∧yh os+yC (i+0)*0=yh ((yf a).take i)*yh (yf b)+yC i*(yf a).getD i 0*yh ((yf b).take 0) from by exact ⟨by omega,hol,hok,by decide,by decide,hz,by rw [hv];simp [yh]⟩) ((.c rfl (.e rfl (by first|rfl|(congr 1;omega)|simp_all) (.of rfl))):SubM _ _) (ho:=((.c (i:=0) rfl .n):PickO _ _ _)) ((.of [0,1,2] rfl):SelR _ _ _) ?_
  rintro ⟨j,os2,cy⟩ hJ
  replace hJ:j≤(yf b).length∧os2.length=(yf a).length+(yf b).length∧yw os2∧0≤cy∧cy<1000000000∧(∀k,i+(yf b).length≤k→os2.getD k 0=0)∧yh os2+yC (i+j)*cy=yh ((yf a).take i)*yh (yf b)+yC i*(yf a).getD i 0*yh ((yf b).take j):=hJ
  try dsimp only
  obtain ⟨hj,hol2,hok2,hcy0,hcy1,hz2,hv2⟩:=hJ
  have hg2:=yo hob j
  have hg3:=yo hok2 (i+j)
  have hpq:=Big.mul_lim hg1 hg2
  refine zj<|zc<|e_p (zO rfl rfl)<|zk<|zg<|zj<|zT rfl (fun h6=> ?_) (fun h6=> ?_)
  ·
   refine zw<|zg<|zj<|zt<|zj<|zc<|e_mv rfl<|zW (x0:=((yf b).getD j 0)) 2 j rfl yg sz131 rfl rfl rfl (by first|rfl|assumption|(simp;omega)|omega) rfl rfl (gD (d:=0) om) (fun b7 o8 hok9=> ?_)
   replace hok9:=zL.1 hok9
   refine e_ru (zB (j:=0) 0 ty131 rfl rfl rfl rfl)<|e_p (zh rfl)<|e_p (zh rfl)<|zk<|zg<|zj<|zc<|e_mv rfl<|e_mv rfl<|e_mv rfl<|e_p (zH (z:=(((i+j):Nat):Int)) rfl rfl (w64 om))<|e_p (zra (j:=(i+j)) yg sz131 rfl rfl rfl om)<|r_vl rfl rfl (zGa 0 (i+j) rfl ty131 rfl rfl (gD (d:=0) om) rfl) (fun _ hok10=> ?_)
   replace hok10:=zL.1 hok10
   refine e_p (zQ (z:=(os2.getD (i+j) 0)) rfl (by rw [yi];rfl) yk (wu64 om))<|e_mv rfl<|e_p (zQ (z:=((yf a).getD i 0)) rfl (by rw [yi];rfl) yk (wu64 om))<|e_mv rfl<|e_p (zQ (z:=((yf b).getD j 0)) rfl (by rw [yi];rfl) yk (wu64 om))<|e_p (zJa (z:=(((yf a).getD i 0)*((yf b).getD j 0))) rfl rfl (wu64 om))<|e_p (zH (z:=((os2.getD (i+j) 0)+(((yf a).getD i 0)*((yf b).getD j 0)))) rfl rfl (wu64 om))<|e_mv rfl<|e_p (zH (z:=(((os2.getD (i+j) 0)+(((yf a).getD i 0)*((yf b).getD j 0)))+cy)) rfl rfl (wu64 om))<|e_p (zh rfl)<|zk<|zg<|zc<|e_mv rfl<|e_mv rfl<|e_mv rfl<|e_p (zH (z:=(((i+j):Nat):Int)) rfl rfl (w64 om))<|e_mv rfl<|e_p (znb (z:=((((os2.getD (i+j) 0)+(((yf a).getD i 0)*((yf b).getD j 0)))+cy)%1000000000)) rfl rfl om (remN om om))<|e_p (zQ (z:=((((os2.getD (i+j) 0)+(((yf a).getD i 0)*((yf b).getD j 0)))+cy)%1000000000)) rfl (by rw [yk];rfl) yi (wu32 om))<|e_mv rfl<|e_p (zab (z:=((((os2.getD (i+j) 0)+(((yf a).getD i 0)*((yf b).getD j 0)))+cy) / 1000000000)) rfl rfl om (by rw [quoN (z:=((((os2.getD (i+j) 0)+(((yf a).getD i 0)*((yf b).getD j 0)))+cy) / 1000000000)) om om];exact wu64 om))<|e_p (zra (j:=(i+j)) yg sz131 rfl rfl rfl om)<|zeb 0 rfl rfl rfl (zma (j:=(i+j)) (x0:=((((os2.getD (i+j) 0)+(((yf a).getD i 0)*((yf b).getD j 0)))+cy)%1000000000)) (γ0:=()) rfl rfl (by first|omega|(rw [List.length_map];omega)|(simp only [List.length_set];omega)|(simp;done)|(simp;omega)) rfl rfl sz131 (fun _ _=>by exact zL.2 om)) (fun _=> .z) (fun _ _=> ?_)
   refine e_p (zh rfl)<|zk<|zI<|zg<|zc<|e_p (zH (z:=(((j+1):Nat):Int)) rfl rfl (w64 om))<|e_mv rfl<|zk<|zwa ((j+1),os2.set (i+j) ((os2.getD (i+j) 0+(yf a).getD i 0*(yf b).getD j 0+cy)%1000000000),(os2.getD (i+j) 0+(yf a).getD i 0*(yf b).getD j 0+cy) / 1000000000) (show (j+1)≤(yf b).length∧(os2.set (i+j) ((os2.getD (i+j) 0+(yf a).getD i 0*(yf b).getD j 0+cy)%1000000000)).length=(yf a).length+(yf b).length∧yw (os2.set (i+j) ((os2.getD (i+j) 0+(yf a).getD i 0*(yf b).getD j 0+cy)%1000000000))∧0≤((os2.getD (i+j) 0+(yf a).getD i 0*(yf b).getD j 0+cy) / 1000000000)∧((os2.getD (i+j) 0+(yf a).getD i 0*(yf b).getD j 0+cy) / 1000000000)<1000000000∧(∀k,i+(yf b).length≤k→(os2.set (i+j) ((os2.getD (i+j) 0+(yf a).getD i 0*(yf b).getD j 0+cy)%1000000000)).getD k 0=0)∧yh (os2.set (i+j) ((os2.getD (i+j) 0+(yf a).getD i 0*(yf b).getD j 0+cy)%1000000000))+yC (i+(j+1))*((os2.getD (i+j) 0+(yf a).getD i 0*(yf b).getD j 0+cy) / 1000000000)=yh ((yf a).take i)*yh (yf b)+yC i*(yf a).getD i 0*yh ((yf b).take (j+1)) from by exact ⟨by omega,by simpa using hol2,yQ hok2 om om,by omega,by omega,fun k hk=>by rw [yL om];exact hz2 k om,Big.mul_step hv2 om om⟩) (by show (yf b).length - (j+1)<(yf b).length - j;omega) ((.e rfl (by first|rfl|(congr 1;omega)|simp_all) (.of rfl)):SubM _ _) (ho:=((.e (i:=0) rfl (by first|rfl|(congr 1;omega)|simp_all) .n):PickO _ _ _)) ((.of [1,2,3] rfl):SelR _ _ _)
  ·
   have hjb:j=(yf b).length:=by omega
   subst hjb
   have hv3:=hv2
   refine zla<|zn<|zn<|zA<|zg<|zc<|e_mv rfl<|e_mv rfl<|e_mv rfl<|e_p (zfa yg rfl)<|e_p (zH (z:=(((i+((yf b).length)):Nat):Int)) rfl rfl (w64 om))<|e_mv rfl<|e_p (zQ (z:=cy) rfl (by rw [yk];rfl) yi (wu32 om))<|e_p (zra (j:=(i+((yf b).length))) yg sz131 rfl rfl rfl om)<|zeb 0 rfl rfl rfl (zma (j:=(i+((yf b).length))) (x0:=cy) (γ0:=()) rfl rfl (by first|omega|(rw [List.length_map];omega)|(simp only [List.length_set];omega)|(simp;done)|(simp;omega)) rfl rfl sz131 (fun _ _=>by exact zL.2 om)) (fun _=> .z) (fun _ _=> ?_)
   refine zk<|zI<|zg<|zc<|e_p (zH (z:=(((i+1):Nat):Int)) rfl rfl (w64 om))<|e_mv rfl<|zk<|zwa ((i+1),os2.set (i+(yf b).length) cy) (show (i+1)≤(yf a).length∧(os2.set (i+(yf b).length) cy).length=(yf a).length+(yf b).length∧yw (os2.set (i+(yf b).length) cy)∧(∀k,(i+1)+(yf b).length≤k→(os2.set (i+(yf b).length) cy).getD k 0=0)∧yh (os2.set (i+(yf b).length) cy)=yh ((yf a).take (i+1))*yh (yf b) from by exact ⟨by omega,by simpa using hol2,yQ hok2 om om,fun k hk=>by rw [yL om];exact hz2 k om,Big.mul_round hv3 om (hz2 _ (Nat.le_refl _))⟩) (by show (yf a).length - (i+1)<(yf a).length - i;omega) ((.of rfl):SubM _ _) (ho:=((.e (i:=0) rfl (by first|rfl|(congr 1;omega)|simp_all) .n):PickO _ _ _)) ((.of [1,2] rfl):SelR _ _ _)
 ·
  have hia:i=(yf a).length:=by omega
  have hfin:yp os=yf (a*b):=Big.trimL_of hok (by rw [hv,hia,List.take_length,yB,yB,Int.natCast_mul])
  refine zla<|zn<|zn<|zA<|zg<|zj<|zc<|e_mv rfl<|zia 0 rfl .z<|zG rfl rfl (.c rfl .n) ce135 (zRb (p:=some ⟨b1,0,none⟩) (n:=(((yf a).length)+((yf b).length))) (cap:=(((yf a).length)+((yf b).length))) (l:=os) (hn:=cbb)) (.c (j:=0) rfl .n) ?_
  rintro ⟨⟩ -
  dsimp only [aq,nq,cq]
  refine e_p (zh rfl)<|zk<|zg<|zS ?_
  exact zM Tryz.results121 ((some ⟨b1,0,none⟩),(((yf a).length)+((yf b).length))) trivial (zC rfl) (by rw [hfin]) (ho:=(.n:PickO _ _ _)) ((.e (j:=0) rfl (by rw [hfin]) .n):SelR _ _ _)
theorem zGe {s:Bool} {p:Option Addr} {n:Nat} {cap:Nat} {l:List Int} (hn:l.length=n):Con yl 105 [.agg #[.bool s,.slice p n cap]] [] [slF (rI .u32) p cap l] (Y:=Unit) (fun y=>True) (fun y=> yc yd ((ym s l).sign)) (fun y=>[]) (fun y=>[]):=by
 refine zv Tryz.func105 rfl rfl rfl (fun c=> ?_)
 show RunC _ _ _ _ _ [(0,.agg #[.bool s,.slice p n cap])] [] [slF (rI .u32) p cap l]
 refine zqa 0 rfl (fun hL0=> ?_)
 refine zfb 0 rfl (fun hE0=> ?_)
 have hnn:yO l:=fun g hg=>(zL.1 (hE0 g hg)).1
 refine zj<|zc<|zE rfl rfl (zZ rfl rfl) (fun b1=> ?_)
 refine e_p (zh rfl)<|zk<|zg<|zj<|zt<|zj<|zc<|e_ru (zd 0 ty42 rfl rfl (.t2 .nil))<|zG rfl rfl (.c rfl .n) ce119 (zlb (s:=s) (p:=p) (n:=n) (cap:=cap) (l:=l) (hn:=ass)) (.c (j:=0) rfl .n) ?_
 rintro ⟨p22,c23⟩ -
 dsimp only [aq,nq,cq]
 refine e_p (zfa yg rfl)<|e_p (zOa rfl rfl)<|e_p (zh rfl)<|zk<|zg<|zT rfl (fun h0=> ?_) (fun h0=> ?_)
 ·
  refine zj<|zc<|e_p (zh rfl)<|zk<|zg<|zS<|zda<|zu ?_
  exact zM Tryz.results105 () trivial (zC rfl) (by rw [show ym s l=0 by have:=yJ.1 (show (yf (ym s l).natAbs).length=0 by omega);omega];rfl) (ho:=(.n:PickO _ _ _)) (.n:SelR _ _ _)
 ·
  refine zj<|zc<|e_p (zf yn rfl sz4 rfl rfl)<|e_ru (ze 0 ty4 rfl rfl rfl)<|e_p (zh rfl)<|zk<|zg<|zPa rfl (fun hs=> ?_) (fun hs=> ?_)
  ·
   refine zj<|zc<|e_p (zh rfl)<|zk<|zg<|zS<|zda<|zu ?_
   exact zM Tryz.results105 () trivial (zC rfl) (by rw [Big.sign_neg hnn hs (by intro e;rw [e] at h0;exact h0 rfl)]) (ho:=(.n:PickO _ _ _)) (.n:SelR _ _ _)
  ·
   refine zw<|zI<|zg<|zj<|zc<|e_p (zh rfl)<|zk<|zg<|zS ?_
   exact zM Tryz.results105 () trivial (zC rfl) (by rw [Big.sign_pos hnn hs (by intro e;rw [e] at h0;exact h0 rfl)]) (ho:=(.n:PickO _ _ _)) (.n:SelR _ _ _)
theorem zgd {z:Int} {p:Option Addr} {cap:Nat}:Con yl 105 [.agg #[.bool (decide ((z)<0)),.slice (p) ((yf ((z).natAbs)).length) (cap)]] [] [slF (rI .u32) (p) (cap) (yf ((z).natAbs))] (Y:=Unit) (fun y=>True) (fun y=> yc yd ((z).sign)) (fun y=>[]) (fun y=>[]):=by
  have h:= @zGe (decide ((z)<0)) p (yf (z).natAbs).length cap (yf (z).natAbs) rfl
  rw [yu] at h
  exact h
theorem zAc {w1:Wd} {x1:Int}:Con yl 105 [.agg #[w1.b,w1.l]] [] [zF w1 (x1)] (Y:=Unit) (fun y=>True) (fun y=> yc yd ((x1).sign)) (fun y=>[]) (fun y=>[]):=by
  exact zae (fun p c=>zgd)
theorem zbg {s:Bool} {p1:Option Addr} {n1:Nat} {c1:Nat} {l1:List Int} {t:Bool} {p2:Option Addr} {n2:Nat} {c2:Nat} {l2:List Int} (hn1:l1.length=n1) (hn2:l2.length=n2) (hb1:yx (ym s l1)≤1099511627776) (hb2:yx (ym t l2)≤1099511627776):Con yl 108 [.agg #[.bool s,.slice p1 n1 c1],.agg #[.bool t,.slice p2 n2 c2]] [] [slF (rI .u32) p1 c1 l1,slF (rI .u32) p2 c2 l2] (Y:=(Option Addr)×Nat) (fun y=>True) (fun y=> .agg #[.bool (decide ((ym s l1+ym t l2)<0)),.slice (y.1) ((yf ((ym s l1+ym t l2).natAbs)).length) (y.2)]) (fun y=>[]) (fun y=>[slF (rI .u32) (y.1) (y.2) (yf ((ym s l1+ym t l2).natAbs))]):=by
 refine zv Tryz.func108 rfl rfl rfl (fun c=> ?_)
 show RunC _ _ _ _ _ [(0,.agg #[.bool s,.slice p1 n1 c1]),(1,.agg #[.bool t,.slice p2 n2 c2])] [] [slF (rI .u32) p1 c1 l1,slF (rI .u32) p2 c2 l2]
 refine zqa 0 rfl (fun hL0=> ?_)
 refine zfb 0 rfl (fun hE0=> ?_)
 refine zqa 1 rfl (fun hL1=> ?_)
 refine zfb 1 rfl (fun hE1=> ?_)
 have hnn1:yO l1:=fun g hg=>(zL.1 (hE0 g hg)).1
 have hnn2:yO l2:=fun g hg=>(zL.1 (hE1 g hg)).1
 refine zj<|zc<|zE rfl rfl (zZ rfl rfl) (fun b1=> ?_)
 refine zE rfl rfl (zZ rfl rfl) (fun b2=> ?_)
 refine zE rfl rfl (zo zr42 rfl) (fun b3=> ?_)
 refine zk<|zg<|zj<|zP (OW:=[boxA b3 42 [wz.b,wz.l]]) (O:=[boxA b2 42 [.bool t,.slice p2 n2 c2],boxA b1 42 [.bool s,.slice p1 n1 c1]]) 9 mixed (.then .ret) kr<|e_pv 0 rfl rfl (zf yn rfl sz4 rfl rfl)<|e_uw 1 rfl rfl (ze 2 ty4 rfl rfl rfl)<|e_uw 2 rfl rfl (zd 2 ty42 rfl rfl (.t2 .nil))<|e_pv 4 rfl rfl (zf yn rfl sz4 rfl rfl)<|e_uw 5 rfl rfl (ze 1 ty4 rfl rfl rfl)<|e_uw 6 rfl rfl (zd 1 ty42 rfl rfl (.t2 .nil))<|e_one 3 (zm rfl rfl rfl rfl (.c rfl .n) ce119 (zlb (s:=s) (p:=p1) (n:=n1) (cap:=c1) (l:=l1) (hn:=ass)) (.c (j:=0) rfl .n) ?_)
 rintro ⟨p24,c25⟩ -
 dsimp only [aq,nq,cq]
 refine e_one 7 (zm rfl rfl rfl rfl (.c rfl .n) ce119 (zlb (s:=t) (p:=p2) (n:=n2) (cap:=c2) (l:=l2) (hn:=ass)) (.c (j:=2) rfl .n) ?_)
 rintro ⟨p26,c27⟩ -
 dsimp only [aq,nq,cq]
 refine e_one 8 (zm rfl rfl rfl rfl (.c rfl (.c rfl (.c rfl (.c rfl .n)))) ce125 (zag (s:=s) (t:=t) (a:=(ym s l1).natAbs) (b:=(ym t l2).natAbs) (p1:=p24) (c1:=c25) (p2:=p26) (c2:=c27) (hb1:=cbb) (hb2:=cbb)) (.c (j:=1) rfl (.c (j:=0) rfl .n)) ?_)
 rintro ⟨p38,c39⟩ -
 dsimp only [aq,nq,cq]
 refine e_one 9 (zp kr rfl rfl rfl rfl rfl sz42 rfl (.t2 .nil) ?_)
 refine zN kr<|zg<|zS ?_
 have hz:yz s ((ym s l1).natAbs:Int)+yz t ((ym t l2).natAbs:Int)=ym s l1+ym t l2:=by rw [yT hnn1,yT hnn2]
 exact zM Tryz.results108 (p38,c39) trivial (zr 0 ty42 rfl rfl (.t2 .nil)) (by rw [hz]) (ho:=(.n:PickO _ _ _)) ((.e (j:=0) rfl (by rw [hz]) .n):SelR _ _ _)
theorem zHf {x1:Int} {x2:Int} {p1:Option Addr} {c1:Nat} {p2:Option Addr} {c2:Nat} (hb1:yx x1≤1099511627776) (hb2:yx x2≤1099511627776):Con yl 108 [.agg #[.bool (decide ((x1)<0)),.slice (p1) ((yf ((x1).natAbs)).length) (c1)],.agg #[.bool (decide ((x2)<0)),.slice (p2) ((yf ((x2).natAbs)).length) (c2)]] [] [slF (rI .u32) (p1) (c1) (yf ((x1).natAbs)),slF (rI .u32) (p2) (c2) (yf ((x2).natAbs))] (Y:=(Option Addr)×(Nat)) (fun y=>True) (fun y=> .agg #[.bool (decide ((x1+x2)<0)),.slice (y.1) ((yf ((x1+x2).natAbs)).length) (y.2)]) (fun y=>[]) (fun y=>[slF (rI .u32) (y.1) (y.2) (yf ((x1+x2).natAbs))]):=by
  have h:= @zbg (decide ((x1)<0)) p1 (yf (x1).natAbs).length c1 (yf (x1).natAbs) (decide ((x2)<0)) p2 (yf (x2).natAbs).length c2 (yf (x2).natAbs) rfl rfl (by rw [yu];exact hb1) (by rw [yu];exact hb2)
  rw [yu,yu] at h
  exact h
theorem zIf {w1:Wd} {w2:Wd} {x1:Int} {x2:Int} (hb1:yx x1≤1099511627776) (hb2:yx x2≤1099511627776):Con yl 108 [.agg #[w1.b,w1.l],.agg #[w2.b,w2.l]] [] [zF w1 (x1),zF w2 (x2)] (Y:=(Wd)) (fun y=>True) (fun y=> .agg #[y.b,y.l]) (fun y=>[]) (fun y=>[zF y (x1+x2)]):=by
  exact zkc (zvc (fun p1 c1 p2 c2=>zHf hb1 hb2))
theorem zcg {s:Bool} {p1:Option Addr} {n1:Nat} {c1:Nat} {l1:List Int} {t:Bool} {p2:Option Addr} {n2:Nat} {c2:Nat} {l2:List Int} (hn1:l1.length=n1) (hn2:l2.length=n2) (hb1:yx (ym s l1)≤1099511627776) (hb2:yx (ym t l2)≤1099511627776):Con yl 103 [.agg #[.bool s,.slice p1 n1 c1],.agg #[.bool t,.slice p2 n2 c2]] [] [slF (rI .u32) p1 c1 l1,slF (rI .u32) p2 c2 l2] (Y:=(Option Addr)×Nat) (fun y=>True) (fun y=> .agg #[.bool (decide ((ym s l1*ym t l2)<0)),.slice (y.1) ((yf ((ym s l1*ym t l2).natAbs)).length) (y.2)]) (fun y=>[]) (fun y=>[slF (rI .u32) (y.1) (y.2) (yf ((ym s l1*ym t l2).natAbs))]):=by
 refine zv Tryz.func103 rfl rfl rfl (fun c=> ?_)
 show RunC _ _ _ _ _ [(0,.agg #[.bool s,.slice p1 n1 c1]),(1,.agg #[.bool t,.slice p2 n2 c2])] [] [slF (rI .u32) p1 c1 l1,slF (rI .u32) p2 c2 l2]
 refine zqa 0 rfl (fun hL0=> ?_)
 refine zfb 0 rfl (fun hE0=> ?_)
 refine zqa 1 rfl (fun hL1=> ?_)
 refine zfb 1 rfl (fun hE1=> ?_)
 have hnn1:yO l1:=fun g hg=>(zL.1 (hE0 g hg)).1
 have hnn2:yO l2:=fun g hg=>(zL.1 (hE1 g hg)).1
 refine zj<|zc<|zE rfl rfl (zZ rfl rfl) (fun b1=> ?_)
 refine zE rfl rfl (zZ rfl rfl) (fun b2=> ?_)
 refine zE rfl rfl (zo zr42 rfl) (fun b3=> ?_)
 refine zk<|zg<|zj<|zP (OW:=[boxA b3 42 [wz.b,wz.l]]) (O:=[boxA b2 42 [.bool t,.slice p2 n2 c2],boxA b1 42 [.bool s,.slice p1 n1 c1]]) 11 mixed (.then .ret) kr<|e_pv 0 rfl rfl (zf yn rfl sz4 rfl rfl)<|e_uw 1 rfl rfl (ze 2 ty4 rfl rfl rfl)<|e_pv 2 rfl rfl (zf yn rfl sz4 rfl rfl)<|e_uw 3 rfl rfl (ze 1 ty4 rfl rfl rfl)<|e_pv 4 rfl rfl (zgb yE rfl rfl)<|e_uw 5 rfl rfl (zd 2 ty42 rfl rfl (.t2 .nil))<|e_uw 7 rfl rfl (zd 1 ty42 rfl rfl (.t2 .nil))<|e_one 6 (zm rfl rfl rfl rfl (.c rfl .n) ce119 (zlb (s:=s) (p:=p1) (n:=n1) (cap:=c1) (l:=l1) (hn:=ass)) (.c (j:=0) rfl .n) ?_)
 rintro ⟨p24,c25⟩ -
 dsimp only [aq,nq,cq]
 refine e_one 8 (zm rfl rfl rfl rfl (.c rfl .n) ce119 (zlb (s:=t) (p:=p2) (n:=n2) (cap:=c2) (l:=l2) (hn:=ass)) (.c (j:=2) rfl .n) ?_)
 rintro ⟨p26,c27⟩ -
 dsimp only [aq,nq,cq]
 refine e_one 9 (zm rfl rfl rfl rfl (.c rfl (.c rfl .n)) ce121 (zee (a:=(ym s l1).natAbs) (b:=(ym t l2).natAbs) (p1:=p24) (c1:=c25) (p2:=p26) (c2:=c27) (hb1:=cbb) (hb2:=cbb)) (.c (j:=1) rfl (.c (j:=0) rfl .n)) ?_)
 rintro ⟨p38,c39⟩ -
 dsimp only [aq,nq,cq]
 refine e_one 10 (zm rfl rfl rfl rfl (.c rfl (.c rfl .n)) ce120 (zWa (s:=decide (s≠t)) (a:=((ym s l1).natAbs)*((ym t l2).natAbs)) (p:=p38) (cap:=c39)) (.c (j:=0) rfl .n) ?_)
 rintro ⟨p210,c211⟩ -
 dsimp only [aq,nq,cq]
 refine e_one 11 (zp kr rfl rfl rfl rfl rfl sz42 rfl (.t2 .nil) ?_)
 refine zN kr<|zg<|zS ?_
 have hz:yz (decide (s≠t)) (((ym s l1).natAbs*(ym t l2).natAbs:Nat):Int)=ym s l1*ym t l2:=by rw [Big.sg_mul,yT hnn1,yT hnn2]
 exact zM Tryz.results103 (p210,c211) trivial (zr 0 ty42 rfl rfl (.t2 .nil)) (by rw [hz]) (ho:=(.n:PickO _ _ _)) ((.e (j:=0) rfl (by rw [hz]) .n):SelR _ _ _)
theorem zJf {x1:Int} {x2:Int} {p1:Option Addr} {c1:Nat} {p2:Option Addr} {c2:Nat} (hb1:yx x1≤1099511627776) (hb2:yx x2≤1099511627776):Con yl 103 [.agg #[.bool (decide ((x1)<0)),.slice (p1) ((yf ((x1).natAbs)).length) (c1)],.agg #[.bool (decide ((x2)<0)),.slice (p2) ((yf ((x2).natAbs)).length) (c2)]] [] [slF (rI .u32) (p1) (c1) (yf ((x1).natAbs)),slF (rI .u32) (p2) (c2) (yf ((x2).natAbs))] (Y:=(Option Addr)×(Nat)) (fun y=>True) (fun y=> .agg #[.bool (decide ((x1*x2)<0)),.slice (y.1) ((yf ((x1*x2).natAbs)).length) (y.2)]) (fun y=>[]) (fun y=>[slF (rI .u32) (y.1) (y.2) (yf ((x1*x2).natAbs))]):=by
  have h:= @zcg (decide ((x1)<0)) p1 (yf (x1).natAbs).length c1 (yf (x1).natAbs) (decide ((x2)<0)) p2 (yf (x2).natAbs).length c2 (yf (x2).natAbs) rfl rfl (by rw [yu];exact hb1) (by rw [yu];exact hb2)
  rw [yu,yu] at h
  exact h
theorem zCb {w1:Wd} {w2:Wd} {x1:Int} {x2:Int} (hb1:yx x1≤1099511627776) (hb2:yx x2≤1099511627776):Con yl 103 [.agg #[w1.b,w1.l],.agg #[w2.b,w2.l]] [] [zF w1 (x1),zF w2 (x2)] (Y:=(Wd)) (fun y=>True) (fun y=> .agg #[y.b,y.l]) (fun y=>[]) (fun y=>[zF y (x1*x2)]):=by
  exact zkc (zvc (fun p1 c1 p2 c2=>zJf hb1 hb2))
end Go.Proofs.YtjeahiahjgifgaaGreatDoor.Sp
namespace Go.Proofs.YtjeahiahjgifgaaGreatDoor.Sp
open Go
set_option linter.unusedVariables false
set_option maxRecDepth 100000
set_option maxHeartbeats 8000000
theorem zdg {p:Option Addr} {n:Nat} {cap:Nat} {l:List Int} (hn:l.length=n) (hb:n≤2199023255552):Con yl 131 [.slice p n cap] [] [slF (rI .u32) p cap l] (Y:=(Option Addr)×Nat) (fun y=>True) (fun y=> .slice (y.1) (l.length) (y.2)) (fun y=>[]) (fun y=>[slF (rI .u32) (y.1) (y.2) l]):=by
 refine zv Tryz.func131 rfl rfl rfl (fun c=> ?_)
 show RunC _ _ _ _ _ [(0,.slice p n cap)] [] [slF (rI .u32) p cap l]
 refine zqa 0 rfl (fun hL0=> ?_)
 refine c_nil 0 rfl (fun hnil=> ?_)
 refine zj<|zc<|e_p (zh rfl)<|zk<|zg<|zj<|zj<|zc<|e_mv rfl<|e_p (zYd yg rfl rfl)<|zk<|zg<|zPa rfl (fun h0=> ?_) (fun h0=> ?_)
 ·
  refine zj<|zc<|e_p (zh rfl)<|zk<|zg<|zS<|zu ?_
  obtain rfl:l=[]:=hnil (by simpa using h0)
  refine zPc (rI .u32) ?_
  exact zM Tryz.results131 (none,0) trivial (zC rfl) rfl (ho:=(.n:PickO _ _ _)) ((.c (j:=0) rfl .n):SelR _ _ _)
 ·
  refine zw<|zg<|zj<|zc<|zDa rfl rfl (zHa (rI .u32) yg inf131) (fun b1 _=> ?_)
  refine e_mv rfl<|zeb 0 rfl rfl rfl (zVa 0 rfl yg inf131 dd rfl rfl cbs rfl cbs (by first|omega|(simp;omega)) (by first|omega|(simp;omega))) (fun _=> .z) ?_
  rintro ⟨p2,c3⟩ -
  dsimp only [aq,nq,cq]
  refine e_p (zh rfl)<|zk<|zg<|zS<|zOb 0 rfl .z ?_
  exact zM Tryz.results131 (p2,c3) trivial (zC rfl) (by simp [hn]) (ho:=(.n:PickO _ _ _)) ((.c (j:=0) rfl .n):SelR _ _ _)
theorem zOd {a:Nat} {p:Option Addr} {cap:Nat} (hb:(yf (a)).length≤2199023255552):Con yl 131 [.slice (p) ((yf (a)).length) (cap)] [] [slF (rI .u32) (p) (cap) (yf (a))] (Y:=(Option Addr)×(Nat)) (fun y=>True) (fun y=> .slice (y.1) ((yf (a)).length) (y.2)) (fun y=>[]) (fun y=>[slF (rI .u32) (y.1) (y.2) (yf (a))]):=by
  exact zdg rfl hb
theorem zYc {a:Nat} {p:Option Addr} {cap:Nat}:Con yl 129 [.slice p ((yf a).length) cap] [] [slF (rI .u32) p cap (yf a)] (Y:=Unit) (fun y=>True) (fun y=> .tuple #[.int .u64 (((if (yf a).length≤2 then a else 0):Nat):Int),.bool (decide ((yf a).length≤2))]) (fun y=>[]) (fun y=>[]):=by
 refine zGc Tryz.func129 rfl rfl rfl (fun c=> ?_)
 show RunC _ _ _ _ _ [(0,.slice p ((yf a).length) cap)] [] [slF (rI .u32) p cap (yf a)]
 refine zqa 0 rfl (fun hL0=> ?_)
 refine zj<|zc<|e_p (zh rfl)<|e_p (zh rfl)<|zk<|zg<|zj<|zj<|zc<|e_mv rfl<|e_p (zfa yg rfl)<|e_p (zbb rfl rfl)<|zk<|zg<|zT rfl (fun hgt=> ?_) (fun hgt=> ?_)
 ·
  refine zj<|zc<|e_p (zh rfl)<|e_p (zh rfl)<|zk<|zg<|zS<|zu<|zef ?_
  exact zCa Tryz.results129 () trivial (zC rfl) (zC rfl) (by rw [if_neg om,decide_eq_false (show ¬(yf a).length≤2 by omega)];rfl) (ho:=(.n:PickO _ _ _)) (.n:SelR _ _ _)
 ·
  have hle:(yf a).length≤2:=by omega
  have h18:=yU hle
  refine zw<|zg<|zj<|zc<|zE rfl rfl (zo zr130 rfl) (fun b1=> ?_)
  refine zl 0 rfl rfl rfl rfl rfl sz130 rfl (.take .nil) .z<|zk<|zg<|zj<|zj<|zc<|e_mv rfl<|zG rfl rfl (.c rfl .n) ce133 (zbc (p:=p) (n:=(yf a).length) (cap:=cap)) (.n) ?_
  rintro b2 -
  dsimp only [aq,nq,cq]
  refine zk<|zg<|zt<|zte (fa:=[atF b2 0 [.slice p ((yf a).length) cap],slF (rI .u32) p cap (yf a)]) (N:=((yf a).length)) (encs:=fun k=>[yc yd ((k:Nat):Int),.int .u32 ((yf a).getD k 0)]) rfl ce141 (back_u32 cbs) (fun _=>rfl) rfl (X:=Int) (Y:=Unit) (fun x k=>k≤(yf a).length∧x=yh ((yf a).drop k)∧0≤x∧x*yC k≤(a:Int)) (fun y=>False) (fun x=>[boxA b1 130 [.int .u64 x]]) (fun x=>[]) (fun y=>[]) (fun y=>[]) (fun k=>[(6,.int .u32 ((yf a).getD k 0)),(13,.int .u32 ((yf a).getD k 0)),(12,yc yd ((k:Nat):Int)),(11,.func (.func 141) #[] #[ye (some ⟨b2,0,none⟩)]),(10,.slice p ((yf a).length) cap),(4,ye (some ⟨b1,0,none⟩)),(9,.bool (decide (2<(((yf a).length:Nat):Int)))),(8,yc yd (((yf a).length:Nat):Int)),(7,.slice p ((yf a).length) cap),(3,.bool false),(2,.int .u64 0),(0,.slice p ((yf a).length) cap)]) (0:Int) (show ((yf a).length)≤(yf a).length∧(0:Int)=yh ((yf a).drop ((yf a).length))∧0≤(0:Int)∧(0:Int)*yC ((yf a).length)≤(a:Int) from by exact ⟨Nat.le_refl _,by simp [yh],Int.le_refl _,by simp⟩) (ho:=((.e (i:=0) rfl (by first|rfl|(congr 1;omega)|simp_all) .n):PickO _ _ _)) ((.of [0,1] rfl):SelR _ _ _) ?_ ?_ ?_ ?_
  ·
   intro l k O' R' Q' hP
   refine zc<|e_p (zh rfl)<|zk ?_
   exact hP
  ·
   rintro l3 D4 o5 o6 z k hkN hI
   replace hI:(k+1)≤(yf a).length∧z=yh ((yf a).drop (k+1))∧0≤z∧z*yC (k+1)≤(a:Int):=hI
   try dsimp only
   obtain ⟨hk,hz,hz0,hzp⟩:=hI
   have hg:=yo (yr a) k
   have hlim:=Big.word_lim hle (show k+1≤(yf a).length by omega) hz0 hzp
   refine zt<|zc<|e_ru (ze 2 ty130 rfl rfl rfl)<|e_p (zJa (z:=(z*1000000000)) rfl rfl (wu64 om))<|e_mv rfl<|e_p (zQ (z:=((yf a).getD k 0)) rfl (by rw [yi];rfl) yk (wu64 om))<|e_p (zH (z:=((z*1000000000)+((yf a).getD k 0))) rfl rfl (wu64 om))<|zl 2 rfl rfl rfl rfl rfl sz130 rfl (.take .nil) (.s (.s .z))<|zk<|zI ?_
   exact zre (z*1000000000+(yf a).getD k 0) (show k≤(yf a).length∧(z*1000000000+(yf a).getD k 0)=yh ((yf a).drop k)∧0≤(z*1000000000+(yf a).getD k 0)∧(z*1000000000+(yf a).getD k 0)*yC k≤(a:Int) from by exact ⟨by omega,by rw [hz];exact Big.word_step k,by omega,Big.word_keep (show k+1≤(yf a).length by omega) hz⟩) (ho:=((.c (i:=0) rfl (.c (i:=0) rfl (.e (i:=0) rfl (by first|rfl|(congr 1;omega)|simp_all) .n))):PickO _ _ _)) ((.of [0,1] rfl):SelR _ _ _)
  ·
   rintro D7 z hI
   replace hI:0≤(yf a).length∧z=yh ((yf a).drop 0)∧0≤z∧z*yC 0≤(a:Int):=hI
   try dsimp only
   have hz9:z=(a:Int):=by rw [hI.2.1,List.drop_zero,yB]
   refine zI<|zg<|zj<|zc<|e_ru (ze 1 ty130 rfl rfl rfl)<|e_p (zh rfl)<|e_p (zh rfl)<|zk<|zg<|zS<|zEe 0 rfl rfl ?_
   exact zCa Tryz.results129 () trivial (zC rfl) (zC rfl) (by rw [if_pos hle,decide_eq_true hle,hz9]) (ho:=(.n:PickO _ _ _)) (.n:SelR _ _ _)
  ·
   intro _ _ h;exact h.elim
theorem zfe {a:Nat} {mm:Nat} {p:Option Addr} {cap:Nat} (hb:(yf a).length≤1099511627776) (hm0:0<mm) (hm1:mm<4294967296):Con yl 139 [.slice p ((yf a).length) cap,.int .u32 ((mm:Nat):Int)] [] [slF (rI .u32) p cap (yf a)] (Y:=(Option Addr)×Nat) (fun y=>True) (fun y=> .tuple #[.slice (y.1) ((yf (a / mm)).length) (y.2),.int .u32 (((a%mm):Nat):Int)]) (fun y=>[]) (fun y=>[slF (rI .u32) (y.1) (y.2) (yf (a / mm))]):=by
 refine zGc Tryz.func139 rfl rfl rfl (fun c=> ?_)
 show RunC _ _ _ _ _ [(0,.slice p ((yf a).length) cap),(1,.int .u32 ((mm:Nat):Int))] [] [slF (rI .u32) p cap (yf a)]
 refine zqa 0 rfl (fun hL0=> ?_)
 refine zj<|zc<|zE rfl rfl (zZ rfl rfl) (fun b1=> ?_)
 refine zE rfl rfl (zo zr40 rfl) (fun b2=> ?_)
 refine e_p (zh rfl)<|zk<|zg<|zj<|zc<|e_mv rfl<|e_p (zfa yg rfl)<|zDa rfl rfl (zPb (r:=rI .u32) (k:=(yf a).length) (x0:=0) (γ0:=()) yg inf131 rfl rfl rfl rfl om om rfl (fun _ _=>by exact zL.2 dd) dd) (fun b3 _=> ?_)
 refine zl 1 rfl rfl rfl rfl rfl sz40 rfl (.take .nil) (.s .z)<|zk<|zg<|zj<|zc<|zE rfl rfl (zo zr130 rfl) (fun b4=> ?_)
 refine zl 0 rfl rfl rfl rfl rfl sz130 rfl (.take .nil) .z<|zk<|zg<|zj<|zj<|zc<|e_mv rfl<|zG rfl rfl (.c rfl .n) ce133 (zbc (p:=p) (n:=(yf a).length) (cap:=cap)) (.n) ?_
 rintro b5 -
 dsimp only [aq,nq,cq]
 refine zk<|zg<|zt<|zte (fa:=[atF b5 0 [.slice p ((yf a).length) cap],slF (rI .u32) p cap (yf a)]) (N:=((yf a).length)) (encs:=fun k=>[yc yd ((k:Nat):Int),.int .u32 ((yf a).getD k 0)]) rfl ce141 (back_u32 (by first|rfl|assumption|(simp;done)|omega)) (fun _=>rfl) rfl (X:=(List Int)×(List Int)×Int) (Y:=Unit) (fun x k=>x.1=List.replicate k 0++x.2.1∧Big.ShI (yf a) (mm:Int) k x.2.1 x.2.2) (fun y=>False) (fun x=>[boxA b4 130 [.int .u64 (x.2.2)],rowA 131 (rI .u32) (some ⟨b3,0,none⟩) ((yf a).length) (x.1),boxA b2 40 [.slice (some ⟨b3,0,none⟩) ((yf a).length) ((yf a).length)],boxA b1 131 [.int .u32 ((mm:Nat):Int)]]) (fun x=>[]) (fun y=>[]) (fun y=>[]) (fun k=>[(8,.int .u32 ((yf a).getD k 0)),(7,yc yd ((k:Nat):Int)),(16,.int .u32 ((yf a).getD k 0)),(15,yc yd ((k:Nat):Int)),(14,.func (.func 141) #[] #[ye (some ⟨b5,0,none⟩)]),(13,.slice p ((yf a).length) cap),(6,ye (some ⟨b4,0,none⟩)),(12,.slice (some ⟨b3,0,none⟩) ((yf a).length) ((yf a).length)),(11,yc yd (((yf a).length:Nat):Int)),(10,.slice p ((yf a).length) cap),(5,.int .u32 0),(4,ye (some ⟨b2,0,none⟩)),(3,ye (some ⟨b1,0,none⟩)),(0,.slice p ((yf a).length) cap),(1,.int .u32 ((mm:Nat):Int))]) ((List.replicate (yf a).length 0),([]:List Int),(0:Int)) (show (List.replicate (yf a).length 0)=List.replicate ((yf a).length) 0++([]:List Int)∧Big.ShI (yf a) (mm:Int) ((yf a).length) ([]:List Int) (0:Int) from by exact ⟨by simp,Big.ShI.start om⟩) (ho:=((.e (i:=0) rfl (by first|rfl|(congr 1;omega)|simp_all) (.e (i:=0) rfl (by first|rfl|(congr 1;omega)|simp_all) (.of [0,0] rfl))):PickO _ _ _)) ((.of [0,1] rfl):SelR _ _ _) ?_ ?_ ?_ ?_
 ·
  intro l k O' R' Q' hP
  refine zj<|zc<|e_p (zh rfl)<|zk<|zg<|zc<|e_p (zh rfl)<|zk ?_
  exact hP
 ·
  rintro l6 D7 o8 o9 ⟨os,qs,z⟩ k hkN hI
  replace hI:os=List.replicate (k+1) 0++qs∧Big.ShI (yf a) (mm:Int) (k+1) qs z:=hI
  try dsimp only
  obtain ⟨hos,hS⟩:=hI
  have hz0:=hS.r0
  have hz1:=hS.r1
  have hkle:=hS.le
  have hosl:os.length=(yf a).length:=by rw [hos,List.length_append,List.length_replicate,hS.len];omega
  have hg:=yo (yr a) k
  have hdg:=Big.sh_digit hz0 hz1 hg
  have hrm:=Int.emod_lt_of_pos (z*1000000000+(yf a).getD k 0) (show 0<(mm:Int) by omega)
  have hrm0:=Int.emod_nonneg (z*1000000000+(yf a).getD k 0) (show (mm:Int)≠0 by omega)
  refine zt<|zj<|zc<|e_ru (ze 2 ty130 rfl rfl rfl)<|e_p (zJa (z:=(z*1000000000)) rfl rfl (wu64 om))<|e_mv rfl<|e_p (zQ (z:=((yf a).getD k 0)) rfl (by rw [yi];rfl) yk (wu64 om))<|e_p (zH (z:=((z*1000000000)+((yf a).getD k 0))) rfl rfl (wu64 om))<|e_p (zh rfl)<|zk<|zg<|zaa (.c (i:=3) rfl (.c (i:=2) rfl (.c (i:=0) rfl (.c (i:=0) rfl (.c (i:=0) rfl (.c (i:=0) rfl .n))))))<|zgf (OW:=[rowA 131 (rI .u32) (some ⟨b3,0,none⟩) ((yf a).length) os,boxA b4 130 [.int .u64 z]]) (O:=[objA l6 o8,objA D7 o9,boxA b2 40 [.slice (some ⟨b3,0,none⟩) ((yf a).length) ((yf a).length)],boxA b1 131 [.int .u32 ((mm:Nat):Int)]]) 12 mixed kr kr<|e_uw 0 rfl rfl (ze 4 ty40 rfl rfl rfl)<|e_dm 1 rfl rfl rfl<|e_dm 2 rfl rfl rfl<|e_uw 3 rfl rfl (ze 5 ty131 rfl rfl rfl)<|e_pv 4 rfl rfl (zQ (z:=((mm:Nat):Int)) rfl (by rw [yi];rfl) yk (wu64 om))<|e_pv 5 rfl rfl (zab (z:=(((z*1000000000)+((yf a).getD k 0)) / ((mm:Nat):Int))) rfl rfl om (by rw [quoN (z:=(((z*1000000000)+((yf a).getD k 0)) / ((mm:Nat):Int))) om om];exact wu64 om))<|e_pv 6 rfl rfl (zQ (z:=(((z*1000000000)+((yf a).getD k 0)) / ((mm:Nat):Int))) rfl (by rw [yk];rfl) yi (wu32 om))<|e_dm 7 rfl rfl rfl<|e_u 8 rfl rfl (ze 3 ty131 rfl rfl rfl)<|e_pv 9 rfl rfl (zQ (z:=((mm:Nat):Int)) rfl (by rw [yi];rfl) yk (wu64 om))<|e_pv 10 rfl rfl (znb (z:=(((z*1000000000)+((yf a).getD k 0))%((mm:Nat):Int))) rfl rfl om (remN om om))<|e_pv 11 rfl rfl (zra (j:=k) yg sz131 rfl rfl rfl om)<|e_one 12 (zVf (A':=fun _=>rowA 131 (rI .u32) (some ⟨b3,0,none⟩) ((yf a).length) (os.set k (((z*1000000000)+((yf a).getD k 0)) / ((mm:Nat):Int)))) kr rfl rfl rfl (zma (j:=k) (x0:=(((z*1000000000)+((yf a).getD k 0)) / ((mm:Nat):Int))) (γ0:=()) rfl rfl (by first|omega|(rw [List.length_map];omega)|(simp only [List.length_set];omega)|(simp;done)|(simp;omega)) rfl rfl sz131 (fun _ _=>by exact zL.2 om)) (fun _ _=> ?_))
  refine zhb (zoa (i:=1) rfl)<|e_one 13 (zp kr rfl rfl rfl rfl rfl sz130 rfl (.take .nil) ?_)
  refine zhf kr<|zI ?_
  exact zre ((os.set k (((z*1000000000)+((yf a).getD k 0)) / ((mm:Nat):Int))),((z*1000000000+(yf a).getD k 0) / (mm:Int) :: qs),((z*1000000000+(yf a).getD k 0)%(mm:Int))) (show (os.set k (((z*1000000000)+((yf a).getD k 0)) / ((mm:Nat):Int)))=List.replicate k 0++((z*1000000000+(yf a).getD k 0) / (mm:Int) :: qs)∧Big.ShI (yf a) (mm:Int) k ((z*1000000000+(yf a).getD k 0) / (mm:Int) :: qs) ((z*1000000000+(yf a).getD k 0)%(mm:Int)) from by exact ⟨by rw [hos];exact Big.pad_set _,hS.step (yr a)⟩) (ho:=((.c (i:=2) rfl (.c (i:=2) rfl (.e (i:=0) rfl (by first|rfl|(congr 1;omega)|simp_all) (.of [0,0,0] rfl)))):PickO _ _ _)) ((.of [0,1] rfl):SelR _ _ _)
 ·
  rintro D10 ⟨os,qs,z⟩ hI
  replace hI:os=List.replicate 0 0++qs∧Big.ShI (yf a) (mm:Int) 0 qs z:=hI
  try dsimp only
  obtain ⟨hos,hS⟩:=hI
  obtain ⟨hf1,hf2⟩:=hS.fin
  have hoq:os=qs:=by simpa using hos
  have htr:yp os=yf (a / mm):=by rw [hoq];exact hf1
  have hosl:os.length=(yf a).length:=by rw [hoq,hS.len];omega
  have hzr:=hS.r1
  have hzr0:=hS.r0
  refine zI<|zg<|zj<|zaa (.c (i:=3) rfl (.c (i:=0) rfl (.c (i:=0) rfl (.c (i:=0) rfl (.c (i:=0) rfl .n)))))<|zgf (OW:=[boxA b2 40 [.slice (some ⟨b3,0,none⟩) ((yf a).length) ((yf a).length)]]) (O:=[objA D10 (.deferred (some [])),boxA b4 130 [.int .u64 z],rowA 131 (rI .u32) (some ⟨b3,0,none⟩) ((yf a).length) os,boxA b1 131 [.int .u32 ((mm:Nat):Int)]]) 4 mixed kr kr<|e_uw 0 rfl rfl (ze 0 ty40 rfl rfl rfl)<|e_u 2 rfl rfl (ze 1 ty130 rfl rfl rfl)<|e_pv 3 rfl rfl (zQ (z:=z) rfl (by rw [yk];rfl) yi (wu32 om))<|zBf 2 rfl (.s (.s .z))<|e_one 1 (zm rfl rfl rfl rfl (.c rfl .n) ce135 (zRb (p:=some ⟨b3,0,none⟩) (n:=(yf a).length) (cap:=(yf a).length) (l:=os) (hn:=cbb)) (.c (j:=0) rfl .n) ?_)
  rintro ⟨⟩ -
  dsimp only [aq,nq,cq]
  refine e_one 4 (zp kr rfl rfl rfl rfl rfl sz40 rfl (.take .nil) ?_)
  refine e_pv 5 rfl rfl (zh rfl)<|zhf kr<|zg<|zS<|zEe 1 rfl rfl ?_
  exact zCa Tryz.results139 ((some ⟨b3,0,none⟩),((yf a).length)) trivial (zNb 0 ty40 rfl rfl rfl) (zC rfl) (by rw [htr,hf2]) (ho:=(.n:PickO _ _ _)) ((.e (j:=0) rfl (by rw [htr]) .n):SelR _ _ _)
 ·
  intro _ _ h;exact h.elim
theorem znf {p:Option Addr} {n:Nat} {cap:Nat} {l:List Int} (hn:l.length=n):Con yl 135 [.slice p n cap] [rowA 131 (rI .u32) p cap l] [] (Y:=Unit) (fun y=>True) (fun y=> .slice p ((yp l).length) cap) (fun y=>[rowA 131 (rI .u32) p cap (yp l)]) (fun y=>[]):=by
 refine zv Tryz.func135 rfl rfl rfl (fun c=> ?_)
 show RunC _ _ _ _ _ [(0,.slice p n cap)] [rowA 131 (rI .u32) p cap l] []
 refine zDf 0 rfl (fun hcl=> ?_)
 refine zj<|zc<|e_p (zh rfl)<|zk<|zg<|zj<|zt<|zBa (X:=Nat) (fun x:Nat=>x≤l.length∧yp (l.take x)=yp l) (fun x=>[(0,.slice p x cap),(2,.slice none 0 0)]) (fun x=>[rowA 131 (rI .u32) p cap l]) (fun x=>[]) (fun x:Nat=>x) n (show n≤l.length∧yp (l.take n)=yp l from by exact ⟨by omega,by rw [List.take_of_length_le om]⟩) ((.c rfl (.c rfl .n)):SubM _ _) (ho:=((.c (i:=0) rfl .n):PickO _ _ _)) (.n:SelR _ _ _) ?_
 rintro k hI
 replace hI:k≤l.length∧yp (l.take k)=yp l:=hI
 try dsimp only
 obtain ⟨hk,hT⟩:=hI
 refine zj<|zAa (X:=Unit) (fun x=>True) (fun x=>[(14,.bool (decide (0<k∧l.getD (k - 1) 0=0))),(0,.slice p k cap),(2,.slice none 0 0)]) (fun x=>[rowA 131 (rI .u32) p cap l]) (fun x=>[]) ?_ ?_
 ·
  refine zc<|e_mv rfl<|e_p (zfa yg rfl)<|e_p (zbb rfl rfl)<|zja rfl rfl (zka rfl) (fun h1=> ?_) (fun h1=> ?_)
  ·
   refine e_mv rfl<|e_mv rfl<|e_p (zfa yg rfl)<|e_p (zna (z:=(((k - 1):Nat):Int)) rfl rfl (w64 om))<|e_ru (zMd 0 (k - 1) rfl yg sz131 rfl cbo rfl rfl om)<|r_vl rfl rfl (zGa 0 (k - 1) rfl ty131 rfl rfl (gD (d:=0) om) rfl) (fun _ hok2=> ?_)
   replace hok2:=zL.1 hok2
   refine e_p (zOa rfl rfl)<|e_p (zK rfl rfl)<|zk ?_
   exact zha () (show True from by first|trivial|omega|simp_all) ((.e rfl (congrArg Value.bool (by have h1:0<k:=om;have h2:((k:Int) - 1).toNat=k - 1:=om;simp [h1,h2])) (.c rfl (.c rfl .n))):SubM _ _) (ho:=((.c (i:=0) rfl .n):PickO _ _ _)) (.n:SelR _ _ _)
  ·
   refine e_no<|e_no<|e_no<|e_no<|e_no<|e_no<|e_no<|e_p (zK rfl rfl)<|zk ?_
   exact zha () (show True from by first|trivial|omega|simp_all) ((.e rfl (congrArg Value.bool (by have h1:¬0<k:=om;simp [h1])) (.c rfl (.c rfl .n))):SubM _ _) (ho:=((.c (i:=0) rfl .n):PickO _ _ _)) (.n:SelR _ _ _)
 ·
  rintro ⟨⟩ -
  try dsimp only
  refine zT rfl (fun hc=> ?_) (fun hc=> ?_)
  ·
   refine zw<|zg<|zt<|zc<|e_mv rfl<|e_mv rfl<|e_p (zfa yg rfl)<|e_p (zna (z:=(((k - 1):Nat):Int)) rfl rfl (w64 om))<|e_p (zZb (hi:=(k - 1)) yg sz131 rfl (.s rfl) (.inr ⟨_,rfl⟩) om)<|e_p (zh rfl)<|zk<|zI<|zwa (k - 1) (show (k - 1)≤l.length∧yp (l.take (k - 1))=yp l from by exact ⟨by omega,by rw [← hT,Big.trim_go l hc.1 hk hc.2]⟩) (by show k - 1<k;omega) ((.e rfl (by first|rfl|(congr 1;omega)|simp_all) (.c rfl .n)):SubM _ _) (ho:=((.c (i:=0) rfl .n):PickO _ _ _)) (.n:SelR _ _ _)
  ·
   refine zla<|zn<|zn<|zA<|zg<|zj<|zc<|e_mv rfl<|e_p (zh rfl)<|zk<|zg<|zS ?_
   have hfin:l.take k=yp l:=by rw [← hT];exact (Big.trim_stop l hk hc).symm
   have hlk:(l.take k).length=k:=by rw [List.length_take];omega
   refine p_mem (fun w mm=>mm.rowTake 0 rfl k) ?_
   dsimp only [List.set]
   have e3:l.take k=yp l:=by exact hfin
   rw [e3]
   exact zM Tryz.results135 () trivial (zC rfl) (by rw [← hfin,hlk]) (ho:=((.c (i:=0) rfl .n):PickO _ _ _)) (.n:SelR _ _ _)
theorem zVe {a:Nat} {b:Nat} {p1:Option Addr} {c1:Nat} {p2:Option Addr} {c2:Nat} (hb1:(yf a).length≤1099511627776) (hb2:(yf b).length≤1099511627776):Con yl 121 [.slice p1 ((yf a).length) c1,.slice p2 ((yf b).length) c2] [] [slF (rI .u32) p1 c1 (yf a),slF (rI .u32) p2 c2 (yf b)] (Y:=(Option Addr)×Nat) (fun y=>True) (fun y=> .slice (y.1) ((yf (a*b)).length) (y.2)) (fun y=>[rowA 131 (rI .u32) (y.1) (y.2) (yf (a*b))]) (fun y=>[]):=by
 refine zv Tryz.func121 rfl rfl rfl (fun c=> ?_)
 show RunC _ _ _ _ _ [(0,.slice p1 ((yf a).length) c1),(1,.slice p2 ((yf b).length) c2)] [] [slF (rI .u32) p1 c1 (yf a),slF (rI .u32) p2 c2 (yf b)]
 refine zqa 0 rfl (fun hL0=> ?_)
 refine zqa 1 rfl (fun hL1=> ?_)
 have hoa:=yr a
 have hob:=yr b
 refine zj<|zc<|e_p (zh rfl)<|zk<|zg<|zj<|zc<|e_mv rfl<|e_p (zfa yg rfl)<|e_mv rfl<|e_p (zfa yg rfl)<|e_p (zH (z:=(((((yf a).length)+((yf b).length)):Nat):Int)) rfl rfl (w64 om))<|zDa rfl rfl (zPb (r:=rI .u32) (k:=(((yf a).length)+((yf b).length))) (x0:=0) (γ0:=()) yg inf131 rfl rfl rfl rfl om om rfl (fun _ _=>by exact zL.2 dd) dd) (fun b1 _=> ?_)
 refine e_p (zh rfl)<|zk<|zg<|zj<|zj<|zc<|e_mv rfl<|e_p (zfa yg rfl)<|e_mv rfl<|zk<|zg<|zt<|zBa (X:=Nat×(List Int)) (fun x:Nat×(List Int)=>x.1≤(yf a).length∧x.2.length=(yf a).length+(yf b).length∧yw x.2∧(∀k,x.1+(yf b).length≤k→x.2.getD k 0=0)∧yh x.2=yh ((yf a).take x.1)*yh (yf b)) (fun x=>[(20,yc yd ((x.1:Nat):Int)),(19,yc yd (((yf a).length:Nat):Int)),(18,.slice p1 ((yf a).length) c1),(5,.slice (some ⟨b1,0,none⟩) (((yf a).length)+((yf b).length)) (((yf a).length)+((yf b).length))),(4,.slice none 0 0),(1,.slice p2 ((yf b).length) c2)]) (fun x=>[rowA 131 (rI .u32) (some ⟨b1,0,none⟩) (((yf a).length)+((yf b).length)) (x.2)]) (fun x=>[slF (rI .u32) p1 c1 (yf a),slF (rI .u32) p2 c2 (yf b)]) (fun x:Nat×(List Int)=>(yf a).length - x.1) (0,List.replicate ((yf a).length+(yf b).length) 0) (show 0≤(yf a).length∧(List.replicate ((yf a).length+(yf b).length) 0).length=(yf a).length+(yf b).length∧yw (List.replicate ((yf a).length+(yf b).length) 0)∧(∀k,0+(yf b).length≤k→(List.replicate ((yf a).length+(yf b).length) 0).getD k 0=0)∧yh (List.replicate ((yf a).length+(yf b).length) 0)=yh ((yf a).take 0)*yh (yf b) from by exact ⟨by omega,by simp,Big.okL_zeros _,fun k _=>Big.getD_zeros _ k,by simp [Big.valL_zeros,yh]⟩) ((.e rfl (by first|rfl|(congr 1;omega)|simp_all) (.of rfl)):SubM _ _) (ho:=((.e (i:=0) rfl (by first|rfl|(congr 1;omega)|simp_all) .n):PickO _ _ _)) ((.of [0,1] rfl):SelR _ _ _) ?_
 rintro ⟨i,os⟩ hI
 replace hI:i≤(yf a).length∧os.length=(yf a).length+(yf b).length∧yw os∧(∀k,i+(yf b).length≤k→os.getD k 0=0)∧yh os=yh ((yf a).take i)*yh (yf b):=hI
 try dsimp only
 obtain ⟨hi,hol,hok,hz,hv⟩:=hI
 have hg1:=yo hoa i
 refine zj<|zc<|e_p (zO rfl rfl)<|zk<|zg<|zj<|zT rfl (fun h2=> ?_) (fun h2=> ?_)
 ·
  refine zw<|zg<|zj<|zt<|zj<|zc<|e_mv rfl<|zW (x0:=((yf a).getD i 0)) 0 i rfl yg sz131 rfl rfl rfl (by first|rfl|assumption|(simp;omega)|omega) rfl rfl (gD (d:=0) om) (fun b3 o4 hok5=> ?_)
  replace hok5:=zL.1 hok5
  refine e_ru (zB (j:=0) 0 ty131 rfl rfl rfl rfl)<|e_p (zh rfl)<|e_p (zh rfl)<|zk<|zg<|zj<|zc<|e_p (zh rfl)<|zk<|zg<|zj<|zj<|zc<|e_mv rfl<|e_p (zfa yg rfl)<|e_mv rfl<|zk<|zg<|zt<|zBa (X:=Nat×(List Int)×Int) (fun x:Nat×(List Int)×Int=>x.1≤(yf b).length∧x.2.1.length=(yf a).length+(yf b).length∧yw x.2.1∧0≤x.2.2∧x.2.2<1000000000∧(∀k,i+(yf b).length≤k→x.2.1.getD k 0=0)∧yh x.2.1+yC (i+x.1)*x.2.2=yh ((yf a).take i)*yh (yf b)+yC i*(yf a).getD i 0*yh ((yf b).take x.1)) (fun x=>[(8,.int .u64 (x.2.2)),(27,yc yd ((x.1:Nat):Int)),(26,yc yd (((yf b).length:Nat):Int)),(25,.slice p2 ((yf b).length) c2),(7,.int .u32 ((yf a).getD i 0)),(6,yc yd ((i:Nat):Int)),(20,yc yd ((i:Nat):Int)),(19,yc yd (((yf a).length:Nat):Int)),(18,.slice p1 ((yf a).length) c1),(5,.slice (some ⟨b1,0,none⟩) (((yf a).length)+((yf b).length)) (((yf a).length)+((yf b).length))),(4,.slice none 0 0),(1,.slice p2 ((yf b).length) c2)]) (fun x=>[rowA 131 (rI .u32) (some ⟨b1,0,none⟩) (((yf a).length)+((yf b).length)) (x.2.1)]) (fun x=>[atF b3 o4 [.int .u32 ((yf a).getD i 0)],slF (rI .u32) p1 c1 (yf a),slF (rI .u32) p2 c2 (yf b)]) (fun x:Nat×(List Int)×Int=>(yf b).length - x.1) (0,os,0) (show 0≤(yf b).length∧os.length=(yf a).length+(yf b).length∧yw os∧0≤0∧0<1000000000∧(∀k,i+(yf b).length≤k→os.getD k 0=0)∧yh os+yC (i+0)*0=yh ((yf a).take i)*yh (yf b)+yC i*(yf a).getD i 0*yh ((yf b).take 0) from by exact ⟨by omega,hol,hok,by decide,by decide,hz,by rw [hv];simp [yh]⟩) ((.c rfl (.e rfl (by first|rfl|(congr 1;omega)|simp_all) (.of rfl))):SubM _ _) (ho:=((.c (i:=0) rfl .n):PickO _ _ _)) ((.of [0,1,2] rfl):SelR _ _ _) ?_
  rintro ⟨j,os2,cy⟩ hJ
  replace hJ:j≤(yf b).length∧os2.length=(yf a).length+(yf b).length∧yw os2∧0≤cy∧cy<1000000000∧(∀k,i+(yf b).length≤k→os2.getD k 0=0)∧yh os2+yC (i+j)*cy=yh ((yf a).take i)*yh (yf b)+yC i*(yf a).getD i 0*yh ((yf b).take j):=hJ
  try dsimp only
  obtain ⟨hj,hol2,hok2,hcy0,hcy1,hz2,hv2⟩:=hJ
  have hg2:=yo hob j
  have hg3:=yo hok2 (i+j)
  have hpq:=Big.mul_lim hg1 hg2
  refine zj<|zc<|e_p (zO rfl rfl)<|zk<|zg<|zj<|zT rfl (fun h6=> ?_) (fun h6=> ?_)
  ·
   refine zw<|zg<|zj<|zt<|zj<|zc<|e_mv rfl<|zW (x0:=((yf b).getD j 0)) 2 j rfl yg sz131 rfl rfl rfl (by first|rfl|assumption|(simp;omega)|omega) rfl rfl (gD (d:=0) om) (fun b7 o8 hok9=> ?_)
   replace hok9:=zL.1 hok9
   refine e_ru (zB (j:=0) 0 ty131 rfl rfl rfl rfl)<|e_p (zh rfl)<|e_p (zh rfl)<|zk<|zg<|zj<|zc<|e_mv rfl<|e_mv rfl<|e_mv rfl<|e_p (zH (z:=(((i+j):Nat):Int)) rfl rfl (w64 om))<|e_p (zra (j:=(i+j)) yg sz131 rfl rfl rfl om)<|r_vl rfl rfl (zGa 0 (i+j) rfl ty131 rfl rfl (gD (d:=0) om) rfl) (fun _ hok10=> ?_)
   replace hok10:=zL.1 hok10
   refine e_p (zQ (z:=(os2.getD (i+j) 0)) rfl (by rw [yi];rfl) yk (wu64 om))<|e_mv rfl<|e_p (zQ (z:=((yf a).getD i 0)) rfl (by rw [yi];rfl) yk (wu64 om))<|e_mv rfl<|e_p (zQ (z:=((yf b).getD j 0)) rfl (by rw [yi];rfl) yk (wu64 om))<|e_p (zJa (z:=(((yf a).getD i 0)*((yf b).getD j 0))) rfl rfl (wu64 om))<|e_p (zH (z:=((os2.getD (i+j) 0)+(((yf a).getD i 0)*((yf b).getD j 0)))) rfl rfl (wu64 om))<|e_mv rfl<|e_p (zH (z:=(((os2.getD (i+j) 0)+(((yf a).getD i 0)*((yf b).getD j 0)))+cy)) rfl rfl (wu64 om))<|e_p (zh rfl)<|zk<|zg<|zc<|e_mv rfl<|e_mv rfl<|e_mv rfl<|e_p (zH (z:=(((i+j):Nat):Int)) rfl rfl (w64 om))<|e_mv rfl<|e_p (znb (z:=((((os2.getD (i+j) 0)+(((yf a).getD i 0)*((yf b).getD j 0)))+cy)%1000000000)) rfl rfl om (remN om om))<|e_p (zQ (z:=((((os2.getD (i+j) 0)+(((yf a).getD i 0)*((yf b).getD j 0)))+cy)%1000000000)) rfl (by rw [yk];rfl) yi (wu32 om))<|e_mv rfl<|e_p (zab (z:=((((os2.getD (i+j) 0)+(((yf a).getD i 0)*((yf b).getD j 0)))+cy) / 1000000000)) rfl rfl om (by rw [quoN (z:=((((os2.getD (i+j) 0)+(((yf a).getD i 0)*((yf b).getD j 0)))+cy) / 1000000000)) om om];exact wu64 om))<|e_p (zra (j:=(i+j)) yg sz131 rfl rfl rfl om)<|zeb 0 rfl rfl rfl (zma (j:=(i+j)) (x0:=((((os2.getD (i+j) 0)+(((yf a).getD i 0)*((yf b).getD j 0)))+cy)%1000000000)) (γ0:=()) rfl rfl (by first|omega|(rw [List.length_map];omega)|(simp only [List.length_set];omega)|(simp;done)|(simp;omega)) rfl rfl sz131 (fun _ _=>by exact zL.2 om)) (fun _=> .z) (fun _ _=> ?_)
   refine e_p (zh rfl)<|zk<|zI<|zg<|zc<|e_p (zH (z:=(((j+1):Nat):Int)) rfl rfl (w64 om))<|e_mv rfl<|zk<|zwa ((j+1),os2.set (i+j) ((os2.getD (i+j) 0+(yf a).getD i 0*(yf b).getD j 0+cy)%1000000000),(os2.getD (i+j) 0+(yf a).getD i 0*(yf b).getD j 0+cy) / 1000000000) (show (j+1)≤(yf b).length∧(os2.set (i+j) ((os2.getD (i+j) 0+(yf a).getD i 0*(yf b).getD j 0+cy)%1000000000)).length=(yf a).length+(yf b).length∧yw (os2.set (i+j) ((os2.getD (i+j) 0+(yf a).getD i 0*(yf b).getD j 0+cy)%1000000000))∧0≤((os2.getD (i+j) 0+(yf a).getD i 0*(yf b).getD j 0+cy) / 1000000000)∧((os2.getD (i+j) 0+(yf a).getD i 0*(yf b).getD j 0+cy) / 1000000000)<1000000000∧(∀k,i+(yf b).length≤k→(os2.set (i+j) ((os2.getD (i+j) 0+(yf a).getD i 0*(yf b).getD j 0+cy)%1000000000)).getD k 0=0)∧yh (os2.set (i+j) ((os2.getD (i+j) 0+(yf a).getD i 0*(yf b).getD j 0+cy)%1000000000))+yC (i+(j+1))*((os2.getD (i+j) 0+(yf a).getD i 0*(yf b).getD j 0+cy) / 1000000000)=yh ((yf a).take i)*yh (yf b)+yC i*(yf a).getD i 0*yh ((yf b).take (j+1)) from by exact ⟨by omega,by simpa using hol2,yQ hok2 om om,by omega,by omega,fun k hk=>by rw [yL om];exact hz2 k om,Big.mul_step hv2 om om⟩) (by show (yf b).length - (j+1)<(yf b).length - j;omega) ((.e rfl (by first|rfl|(congr 1;omega)|simp_all) (.of rfl)):SubM _ _) (ho:=((.e (i:=0) rfl (by first|rfl|(congr 1;omega)|simp_all) .n):PickO _ _ _)) ((.of [1,2,3] rfl):SelR _ _ _)
  ·
   have hjb:j=(yf b).length:=by omega
   subst hjb
   have hv3:=hv2
   refine zla<|zn<|zn<|zA<|zg<|zc<|e_mv rfl<|e_mv rfl<|e_mv rfl<|e_p (zfa yg rfl)<|e_p (zH (z:=(((i+((yf b).length)):Nat):Int)) rfl rfl (w64 om))<|e_mv rfl<|e_p (zQ (z:=cy) rfl (by rw [yk];rfl) yi (wu32 om))<|e_p (zra (j:=(i+((yf b).length))) yg sz131 rfl rfl rfl om)<|zeb 0 rfl rfl rfl (zma (j:=(i+((yf b).length))) (x0:=cy) (γ0:=()) rfl rfl (by first|omega|(rw [List.length_map];omega)|(simp only [List.length_set];omega)|(simp;done)|(simp;omega)) rfl rfl sz131 (fun _ _=>by exact zL.2 om)) (fun _=> .z) (fun _ _=> ?_)
   refine zk<|zI<|zg<|zc<|e_p (zH (z:=(((i+1):Nat):Int)) rfl rfl (w64 om))<|e_mv rfl<|zk<|zwa ((i+1),os2.set (i+(yf b).length) cy) (show (i+1)≤(yf a).length∧(os2.set (i+(yf b).length) cy).length=(yf a).length+(yf b).length∧yw (os2.set (i+(yf b).length) cy)∧(∀k,(i+1)+(yf b).length≤k→(os2.set (i+(yf b).length) cy).getD k 0=0)∧yh (os2.set (i+(yf b).length) cy)=yh ((yf a).take (i+1))*yh (yf b) from by exact ⟨by omega,by simpa using hol2,yQ hok2 om om,fun k hk=>by rw [yL om];exact hz2 k om,Big.mul_round hv3 om (hz2 _ (Nat.le_refl _))⟩) (by show (yf a).length - (i+1)<(yf a).length - i;omega) ((.of rfl):SubM _ _) (ho:=((.e (i:=0) rfl (by first|rfl|(congr 1;omega)|simp_all) .n):PickO _ _ _)) ((.of [1,2] rfl):SelR _ _ _)
 ·
  have hia:i=(yf a).length:=by omega
  have hfin:yp os=yf (a*b):=Big.trimL_of hok (by rw [hv,hia,List.take_length,yB,yB,Int.natCast_mul])
  refine zla<|zn<|zn<|zA<|zg<|zj<|zc<|e_mv rfl<|zXf (A:=[rowA 131 (rI .u32) (some ⟨b1,0,none⟩) (((yf a).length)+((yf b).length)) os]) (F:=[]) (first:=[]) (cap:=[]) rfl rfl rfl (.c rfl .n) ce135 (znf (p:=some ⟨b1,0,none⟩) (n:=(((yf a).length)+((yf b).length))) (cap:=(((yf a).length)+((yf b).length))) (l:=os) (hn:=cbb)) (.n) ?_
  rintro ⟨⟩ -
  dsimp only [aq,nq,cq]
  refine e_p (zh rfl)<|zk<|zg<|zS ?_
  have e11:yp os=yf (a*b):=by exact hfin
  rw [e11]
  exact zM Tryz.results121 ((some ⟨b1,0,none⟩),(((yf a).length)+((yf b).length))) trivial (zC rfl) rfl (ho:=((.c (i:=0) rfl .n):PickO _ _ _)) (.n:SelR _ _ _)
end Go.Proofs.YtjeahiahjgifgaaGreatDoor.Sp
namespace Go.Proofs.YtjeahiahjgifgaaGreatDoor.Sp
open Go
set_option linter.unusedVariables false
set_option maxRecDepth 100000
set_option maxHeartbeats 8000000
theorem zKf {a:Nat} {b:Nat} {p1:Option Addr} {c1:Nat} {p2:Option Addr} {c2:Nat} (hb1:(yf a).length≤1099511627776) (hb2:(yf b).length≤1099511627776) (hb3:2≤(yf b).length) (hab:b≤a):Con yl 140 [.slice p1 ((yf a).length) c1,.slice p2 ((yf b).length) c2] [] [slF (rI .u32) p1 c1 (yf a),slF (rI .u32) p2 c2 (yf b)] (Y:=(Option Addr)×Nat×(Option Addr)×Nat) (fun y=>True) (fun y=> .tuple #[.slice (y.1) ((yf (a / b)).length) (y.2.1),.slice (y.2.2.1) ((yf (a%b)).length) (y.2.2.2)]) (fun y=>[]) (fun y=>[slF (rI .u32) (y.1) (y.2.1) (yf (a / b)),slF (rI .u32) (y.2.2.1) (y.2.2.2) (yf (a%b))]):=by
 refine zv Tryz.func140 rfl rfl rfl (fun c=> ?_)
 show RunC _ _ _ _ _ [(0,.slice p1 ((yf a).length) c1),(1,.slice p2 ((yf b).length) c2)] [] [slF (rI .u32) p1 c1 (yf a),slF (rI .u32) p2 c2 (yf b)]
 refine zqa 0 rfl (fun hL0=> ?_)
 refine zqa 1 rfl (fun hL1=> ?_)
 have hob:=yr b
 have htop:=yo hob ((yf b).length - 1)
 have hdt:=Big.digs_top (b:=b) (n:=(yf b).length - 1) om
 have hab2:=yP hab
 have hq1:0≤1000000000 / ((yf b).getD ((yf b).length - 1) 0+1):=Int.ediv_nonneg om om
 have hq2:1000000000 / ((yf b).getD ((yf b).length - 1) 0+1)≤500000000:=Int.ediv_le_of_le_mul om om
 refine zj<|zc<|e_p (zh rfl)<|e_p (zh rfl)<|zk<|zg<|zj<|zc<|e_mv rfl<|e_mv rfl<|e_p (zfa yg rfl)<|e_p (zna (z:=((((yf b).length - 1):Nat):Int)) rfl rfl (w64 om))<|zW (x0:=((yf b).getD ((yf b).length - 1) 0)) 1 ((yf b).length - 1) rfl yg sz131 rfl rfl rfl (by first|rfl|assumption|(simp;done)|omega) rfl rfl (gD (d:=0) om) (fun b1 o2 hok3=> ?_)
 replace hok3:=zL.1 hok3
 refine e_ru (zB (j:=0) 0 ty131 rfl rfl rfl rfl)<|e_p (zQ (z:=((yf b).getD ((yf b).length - 1) 0)) rfl (by rw [yi];rfl) yk (wu64 om))<|e_p (zH (z:=(((yf b).getD ((yf b).length - 1) 0)+1)) rfl rfl (wu64 om))<|e_p (zab (z:=(1000000000 / (((yf b).getD ((yf b).length - 1) 0)+1))) rfl rfl om (by rw [quoN (z:=(1000000000 / (((yf b).getD ((yf b).length - 1) 0)+1))) om om];exact wu64 om))<|e_p (zQ (z:=(1000000000 / (((yf b).getD ((yf b).length - 1) 0)+1))) rfl (by rw [yk];rfl) yi (wu32 om))<|e_p (zh rfl)<|zk<|zg<|zj ?_
 obtain ⟨s,hs⟩:∃s:Nat,s=(1000000000 / ((yf b).getD ((yf b).length - 1) 0+1)).toNat:=⟨_,rfl⟩
 obtain ⟨hs1,hs2,hs3⟩:=Big.scale_len (n:=(yf b).length - 1) om hs
 have hsd:=Big.digs_one hs1 (by omega:s<1000000000)
 have hsl:(yf s).length=1:=by rw [hsd];rfl
 have e4:((1000000000 / (((yf b).getD ((yf b).length - 1) 0)+1)):Int)=((s:Nat):Int):=by omega
 rw [e4]
 refine zc<|e_mv rfl<|e_mv rfl<|zDa rfl rfl (zR (enc:=fun z:Int=>[.int .u32 z]) (ok:=InK .u32) (h1:=fun _=>rfl) (h2:=fun _=>rfl) (k:=1) yg inf131 rfl dd dd dd (.c (x:=((s:Nat):Int)) rfl rfl (fun _ _=>by exact zL.2 om) .n)) (fun b5 _=> ?_)
 refine zia 0 rfl .z ?_
 have e6:[((s:Nat):Int)]=yf s:=by exact hsd.symm
 rw [e6]
 have e7:(.slice (some ⟨b5,0,none⟩) 1 1:Value)= .slice (some ⟨b5,0,none⟩) ((yf s).length) 1:=by rw [hsl]
 rw [e7]
 refine zG rfl rfl (.c rfl (.c rfl .n)) ce121 (zVe (a:=a) (b:=s) (p1:=p1) (c1:=c1) (p2:=some ⟨b5,0,none⟩) (c2:=1) (hb1:=ass) (hb2:=cbb)) (.c (j:=2) rfl (.c (j:=0) rfl .n)) ?_
 rintro ⟨p38,c39⟩ -
 dsimp only [aq,nq,cq]
 refine e_p (zh rfl)<|zk<|zg<|zj<|zc<|e_mv rfl<|e_mv rfl<|zDa rfl rfl (zR (enc:=fun z:Int=>[.int .u32 z]) (ok:=InK .u32) (h1:=fun _=>rfl) (h2:=fun _=>rfl) (k:=1) yg inf131 rfl dd dd dd (.c (x:=((s:Nat):Int)) rfl rfl (fun _ _=>by exact zL.2 om) .n)) (fun b10 _=> ?_)
 refine zia 0 rfl .z ?_
 have e11:[((s:Nat):Int)]=yf s:=by exact hsd.symm
 rw [e11]
 have e12:(.slice (some ⟨b10,0,none⟩) 1 1:Value)= .slice (some ⟨b10,0,none⟩) ((yf s).length) 1:=by rw [hsl]
 rw [e12]
 refine zG rfl rfl (.c rfl (.c rfl .n)) ce121 (zee (a:=b) (b:=s) (p1:=p2) (c1:=c2) (p2:=some ⟨b10,0,none⟩) (c2:=1) (hb1:=ass) (hb2:=cbb)) (.c (j:=4) rfl (.c (j:=0) rfl .n)) ?_
 rintro ⟨p313,c314⟩ -
 dsimp only [aq,nq,cq]
 refine e_p (zh rfl)<|zk<|zg<|zj ?_
 obtain ⟨A,hA⟩:∃z,z=a*s:=⟨_,rfl⟩
 rw [← hA]
 obtain ⟨V,hV⟩:∃z,z=b*s:=⟨_,rfl⟩
 rw [← hV]
 have hAl:(yf a).length≤(yf A).length:=by rw [hA];exact Big.len_mul_ge hs1
 have hAl2:(yf A).length≤(yf a).length+1:=by have h8:=Big.len_mul_le a s;rw [hsl] at h8;rw [hA];exact h8
 obtain ⟨m,hm⟩:∃z,(yf V).length=z+2:=⟨(yf b).length - 2,by rw [hV,hs3];omega⟩
 have hmb:(yf b).length=m+2:=by rw [hV,hs3] at hm;omega
 have e15:(yf V).length=(m+2):=by exact hm
 rw [e15]
 refine zc<|e_mv rfl<|e_p (zfa yg rfl)<|e_p (zh rfl)<|zk<|zg<|zj<|zc<|e_mv rfl<|zDa rfl rfl (zR (enc:=fun z:Int=>[.int .u32 z]) (ok:=InK .u32) (h1:=fun _=>rfl) (h2:=fun _=>rfl) (k:=1) yg inf131 rfl dd dd dd (.c (x:=0) rfl rfl (fun _ _=>by exact zL.2 om) .n)) (fun b16 _=> ?_)
 refine zia 0 rfl .z<|zeb 2 rfl rfl rfl (zVa 0 rfl yg inf131 dd rfl rfl (by first|rfl|assumption|(simp;done)|omega) rfl (by first|rfl|assumption|(simp;done)|omega) om om) (fun _=>(.s (.s .z))) ?_
 rintro ⟨p17,c18⟩ -
 dsimp only [aq,nq,cq]
 refine e_p (zh rfl)<|zk<|zg<|zj<|zj<|zc<|e_mv rfl<|e_p (zfa yg rfl)<|e_mv rfl<|e_p (zfa yg rfl)<|e_p (zKb rfl rfl)<|zk<|zg<|zT rfl (fun h19=> ?_) (fun h19=> ?_)
 ·
  exact absurd ‹_› om
 ·
  refine zw<|zg<|zj ?_
  obtain ⟨M,hM⟩:∃z,z=((yf A).length)+1:=⟨_,rfl⟩
  rw [← hM]
  refine zc<|e_mv rfl<|e_p (zfa yg rfl)<|e_mv rfl<|e_p (zna (z:=(((M - (m+2)):Nat):Int)) rfl rfl (w64 om))<|zDa rfl rfl (zPb (r:=rI .u32) (k:=(M - (m+2))) (x0:=0) (γ0:=()) yg inf131 rfl rfl rfl rfl om om rfl (fun _ _=>by exact zL.2 dd) dd) (fun b20 _=> ?_)
  refine e_p (zh rfl)<|zk<|zg<|zj<|zj ?_
  have hMl:m+3≤M:=by omega
  have hLg:yW M (m+2) ((A:Nat):Int) ((V:Nat):Int) (M - (m+2)) (yf A++[0]) []:=yW.start (yN (yr A) dd dd) (by simp [hM]) (by rw [Big.valL_snoc,yB];simp) hm om (by rw [Big.valL_snoc,yB,hM,Nat.add_sub_cancel];simpa using Big.digs_lt A) om
  refine zc<|e_mv rfl<|e_p (zfa yg rfl)<|e_mv rfl<|e_p (zna (z:=(((M:Nat):Int) - (((m+2):Nat):Int))) rfl rfl (w64 om))<|e_p (zna (z:=((((M:Nat):Int) - (((m+2):Nat):Int)) - 1)) rfl rfl (w64 om))<|e_p (zh rfl)<|zk<|zg<|zt<|zBa (X:=Nat×(List Int)×(List Int)) (fun x:Nat×(List Int)×(List Int)=>yW M (m+2) ((A:Nat):Int) ((V:Nat):Int) x.1 x.2.1 x.2.2) (fun x=>[(10,yc yd (((x.1:Nat):Int) - 1)),(4,.slice (some ⟨b20,0,none⟩) (M - (m+2)) (M - (m+2))),(7,.slice p17 M c18),(9,yc yd (((m+2):Nat):Int)),(8,.slice p313 (m+2) c314),(6,.int .u32 ((s:Nat):Int)),(5,.slice none 0 0)]) (fun x=>[rowA 131 (rI .u32) (some ⟨b20,0,none⟩) (M - (m+2)) (List.replicate x.1 0++x.2.2),rowA 131 (rI .u32) p17 c18 (x.2.1)]) (fun x=>[slF (rI .u32) (some ⟨b16,0,none⟩) 1 ([0]),slF (rI .u32) p313 c314 (yf V),slF (rI .u32) (some ⟨b10,0,none⟩) 1 (yf s),slF (rI .u32) (some ⟨b5,0,none⟩) 1 (yf s),atF b1 o2 [.int .u32 ((yf b).getD ((yf b).length - 1) 0)],slF (rI .u32) p1 c1 (yf a),slF (rI .u32) p2 c2 (yf b)]) (fun x:Nat×(List Int)×(List Int)=>x.1) ((M - (m+2)),(yf A++[0]),([]:List Int)) (show yW M (m+2) ((A:Nat):Int) ((V:Nat):Int) (M - (m+2)) (yf A++[0]) ([]:List Int) from by exact hLg) ((.e rfl (congrArg (Value.int .i64) om) (.of rfl)):SubM _ _) (ho:=((.e (i:=0) rfl (by simp) (.e (i:=2) rfl (by simp) .n)):PickO _ _ _)) ((.of [0,1,2,3,4,5,6] rfl):SelR _ _ _) ?_
  rintro ⟨jj,u,qs⟩ hI
  replace hI:yW M (m+2) ((A:Nat):Int) ((V:Nat):Int) jj u qs:=hI
  try dsimp only
  refine zj<|zj<|zc<|e_mv rfl<|e_p (zob rfl rfl)<|zk<|zg<|zT rfl (fun hj=> ?_) (fun hj=> ?_)
  ·
   obtain ⟨j,rfl⟩:∃j,jj=j+1:=⟨jj - 1,by omega⟩
   have e21:(((((j+1):Nat):Int) - 1):Int)=((j:Nat):Int):=by omega
   rw [e21]
   have hjM:=hI.jle
   have hul:=hI.ul
   have hT:=hI.tp hm
   have hu2:=hT.a2
   have hu1:=hT.a1
   have hu0:=hT.a0
   have hvt1:=hT.vt1
   have hvt2:=hT.vt2
   have hvs0:=hT.vs0
   have hvs1:=hT.vs1
   have hgst:=hT.start
   have hgl0:=Big.Gs.le hT hgst
   have hg00:=hgst.g0
   have hg01:=hgst.r0
   have hrlt:=Int.emod_lt_of_pos ((u.getD (j+(m+2)) 0)*1000000000+(u.getD (j+(m+1)) 0)) (show 0<((yf V).getD (m+1) 0) by omega)
   refine zw<|zg<|zj<|zt<|zj<|zP (OW:=[]) (O:=[rowA 131 (rI .u32) (some ⟨b20,0,none⟩) (M - (m+2)) (List.replicate (j+1) 0++qs),rowA 131 (rI .u32) p17 c18 u]) 100000 mixed (.then (.block (.then (.then (.block (.then .ret)))))) kr<|e_dm 0 rfl rfl rfl<|e_dm 1 rfl rfl rfl<|e_dm 2 rfl rfl rfl<|e_pv 3 rfl rfl (zH (z:=(((j+(m+2)):Nat):Int)) rfl rfl (w64 om))<|e_dm 7 rfl rfl rfl<|e_dm 8 rfl rfl rfl<|e_dm 9 rfl rfl rfl<|e_pv 10 rfl rfl (zH (z:=(((j+(m+2)):Nat):Int)) rfl rfl (w64 om))<|e_pv 11 rfl rfl (zna (z:=(((j+(m+1)):Nat):Int)) rfl rfl (w64 om))<|e_u 12 rfl rfl (zEa 1 (j+(m+1)) rfl yg sz131 rfl (by first|rfl|assumption|(simp;done)|omega) rfl rfl om)<|d_vl 13 rfl rfl kr kr rfl rfl (zGa 1 (j+(m+1)) rfl ty131 rfl rfl (gD (d:=0) om) rfl) (fun _ hok22=> ?_)
   replace hok22:=zL.1 hok22
   refine e_pv 14 rfl rfl (zQ (z:=(u.getD (j+(m+1)) 0)) rfl (by rw [yi];rfl) yk (wu64 om))<|e_one 4 (zEf 1 rfl rfl rfl rfl rfl (.c rfl (.c rfl .n)) ce143 (zFe (p:=p17) (n:=M) (cap:=c18) (l:=u) (i:=(j+(m+2))) (hn:=cbb) (hi:=cbb)) (.c (j:=0) rfl .n) ?_)
   refine e_pv 5 rfl rfl (zQ (z:=u.getD (j+(m+2)) 0) rfl (by rw [yi];rfl) yk (wu64 om))<|e_pv 6 rfl rfl (zJa (z:=(u.getD (j+(m+2)) 0*1000000000)) rfl rfl (wu64 om))<|e_pv 15 rfl rfl (zH (z:=((u.getD (j+(m+2)) 0*1000000000)+(u.getD (j+(m+1)) 0))) rfl rfl (wu64 om))<|e_pv 16 rfl rfl (zh rfl)<|zN kr<|zg<|zj<|zP (OW:=[]) (O:=[rowA 131 (rI .u32) (some ⟨b20,0,none⟩) (M - (m+2)) (List.replicate (j+1) 0++qs),rowA 131 (rI .u32) p17 c18 u]) 100000 mixed (.then (.block (.then (.then (.block (.then .ret)))))) kr<|e_dm 0 rfl rfl rfl<|e_dm 1 rfl rfl rfl<|e_dm 2 rfl rfl rfl<|e_pv 3 rfl rfl (zna (z:=(((m+1):Nat):Int)) rfl rfl (w64 om))<|zUa (x0:=((yf V).getD (m+1) 0)) 4 rfl rfl kr kr 1 (m+1) rfl yg sz131 rfl rfl rfl (by first|rfl|assumption|(simp;done)|omega) rfl rfl (gD (d:=0) om) (fun b23 o24 hok25=> ?_)
   replace hok25:=zL.1 hok25
   refine e_u 5 rfl rfl (zB (j:=0) 0 ty131 rfl rfl rfl rfl)<|e_pv 6 rfl rfl (zQ (z:=((yf V).getD (m+1) 0)) rfl (by rw [yi];rfl) yk (wu64 om))<|e_pv 7 rfl rfl (zab (z:=(((u.getD (j+(m+2)) 0*1000000000)+(u.getD (j+(m+1)) 0)) / ((yf V).getD (m+1) 0))) rfl rfl om (by rw [quoN (z:=(((u.getD (j+(m+2)) 0*1000000000)+(u.getD (j+(m+1)) 0)) / ((yf V).getD (m+1) 0))) om om];exact wu64 om))<|e_dm 8 rfl rfl rfl<|e_dm 9 rfl rfl rfl<|e_dm 10 rfl rfl rfl<|e_pv 11 rfl rfl (zna (z:=(((m+1):Nat):Int)) rfl rfl (w64 om))<|zUa (x0:=((yf V).getD (m+1) 0)) 12 rfl rfl kr kr 2 (m+1) rfl yg sz131 rfl rfl rfl (by first|rfl|assumption|(simp;done)|omega) rfl rfl (gD (d:=0) om) (fun b26 o27 hok28=> ?_)
   replace hok28:=zL.1 hok28
   refine e_u 13 rfl rfl (zB (j:=0) 0 ty131 rfl rfl rfl rfl)<|e_pv 14 rfl rfl (zQ (z:=((yf V).getD (m+1) 0)) rfl (by rw [yi];rfl) yk (wu64 om))<|e_pv 15 rfl rfl (znb (z:=(((u.getD (j+(m+2)) 0*1000000000)+(u.getD (j+(m+1)) 0))%((yf V).getD (m+1) 0))) rfl rfl om (remN om om))<|e_pv 16 rfl rfl (zh rfl)<|e_pv 17 rfl rfl (zh rfl)<|zN kr<|zg<|zAa (X:=Int) (fun x=>(0≤x∧x<1000000000)∧(yh (u.drop j))<(x+1)*(V:Int)∧x*(V:Int)<(yh (u.drop j))+(V:Int)) (fun x=>[(12,.int .u64 x),(10,yc yd ((j:Nat):Int)),(4,.slice (some ⟨b20,0,none⟩) (M - (m+2)) (M - (m+2))),(7,.slice p17 M c18),(9,yc yd (((m+2):Nat):Int)),(8,.slice p313 (m+2) c314),(6,.int .u32 ((s:Nat):Int)),(5,.slice none 0 0)]) (fun x=>[rowA 131 (rI .u32) (some ⟨b20,0,none⟩) (M - (m+2)) (List.replicate (j+1) 0++qs),rowA 131 (rI .u32) p17 c18 u]) (fun x=>[atF b26 o27 [.int .u32 ((yf V).getD (m+1) 0)],atF b23 o24 [.int .u32 ((yf V).getD (m+1) 0)],slF (rI .u32) (some ⟨b16,0,none⟩) 1 ([0]),slF (rI .u32) p313 c314 (yf V),slF (rI .u32) (some ⟨b10,0,none⟩) 1 (yf s),slF (rI .u32) (some ⟨b5,0,none⟩) 1 (yf s),atF b1 o2 [.int .u32 ((yf b).getD ((yf b).length - 1) 0)],slF (rI .u32) p1 c1 (yf a),slF (rI .u32) p2 c2 (yf b)]) ?_ ?_
   ·
    refine zt<|zBa (X:=Int×Int) (fun x:Int×Int=>Big.Gs (yh (u.drop j)) (V:Int) ((yf V).getD (m+1) 0) ((u.getD (j+(m+2)) 0)*1000000000+(u.getD (j+(m+1)) 0)) x.1 x.2∧x.2<1000000000) (fun x=>[(13,.int .u64 (x.2)),(12,.int .u64 (x.1)),(10,yc yd ((j:Nat):Int)),(4,.slice (some ⟨b20,0,none⟩) (M - (m+2)) (M - (m+2))),(7,.slice p17 M c18),(9,yc yd (((m+2):Nat):Int)),(8,.slice p313 (m+2) c314),(6,.int .u32 ((s:Nat):Int)),(5,.slice none 0 0)]) (fun x=>[rowA 131 (rI .u32) (some ⟨b20,0,none⟩) (M - (m+2)) (List.replicate (j+1) 0++qs),rowA 131 (rI .u32) p17 c18 u]) (fun x=>[atF b26 o27 [.int .u32 ((yf V).getD (m+1) 0)],atF b23 o24 [.int .u32 ((yf V).getD (m+1) 0)],slF (rI .u32) (some ⟨b16,0,none⟩) 1 ([0]),slF (rI .u32) p313 c314 (yf V),slF (rI .u32) (some ⟨b10,0,none⟩) 1 (yf s),slF (rI .u32) (some ⟨b5,0,none⟩) 1 (yf s),atF b1 o2 [.int .u32 ((yf b).getD ((yf b).length - 1) 0)],slF (rI .u32) p1 c1 (yf a),slF (rI .u32) p2 c2 (yf b)]) (fun x:Int×Int=>x.1.toNat) ((((u.getD (j+(m+2)) 0*1000000000)+(u.getD (j+(m+1)) 0)) / ((yf V).getD (m+1) 0)),(((u.getD (j+(m+2)) 0*1000000000)+(u.getD (j+(m+1)) 0))%((yf V).getD (m+1) 0))) (show Big.Gs (yh (u.drop j)) (V:Int) ((yf V).getD (m+1) 0) ((u.getD (j+(m+2)) 0)*1000000000+(u.getD (j+(m+1)) 0)) (((u.getD (j+(m+2)) 0*1000000000)+(u.getD (j+(m+1)) 0)) / ((yf V).getD (m+1) 0)) (((u.getD (j+(m+2)) 0*1000000000)+(u.getD (j+(m+1)) 0))%((yf V).getD (m+1) 0))∧(((u.getD (j+(m+2)) 0*1000000000)+(u.getD (j+(m+1)) 0))%((yf V).getD (m+1) 0))<1000000000 from by exact ⟨hgst,by omega⟩) ((.of rfl):SubM _ _) (ho:=((.of [0,0] rfl):PickO _ _ _)) ((.of [0,1,2,3,4,5,6,7,8] rfl):SelR _ _ _) ?_
    rintro ⟨g,r⟩ hG
    replace hG:Big.Gs (yh (u.drop j)) (V:Int) ((yf V).getD (m+1) 0) ((u.getD (j+(m+2)) 0)*1000000000+(u.getD (j+(m+1)) 0)) g r∧r<1000000000:=hG
    try dsimp only
    obtain ⟨hGs,hr9⟩:=hG
    have hgl:=Big.Gs.le hT hGs
    have hg0:=hGs.g0
    have hr0:=hGs.r0
    have hgm:=Big.mul_lim3 hg0 hgl.1 hvs0 hvs1
    refine zj<|zAa (X:=Unit) (fun x=>True) (fun x=>[(123,.bool (decide ((1000000000≤g)∨(((r*1000000000)+(u.getD (j+m) 0))<(g*((yf V).getD m 0)))))),(13,.int .u64 r),(12,.int .u64 g),(10,yc yd ((j:Nat):Int)),(4,.slice (some ⟨b20,0,none⟩) (M - (m+2)) (M - (m+2))),(7,.slice p17 M c18),(9,yc yd (((m+2):Nat):Int)),(8,.slice p313 (m+2) c314),(6,.int .u32 ((s:Nat):Int)),(5,.slice none 0 0)]) (fun x=>[rowA 131 (rI .u32) (some ⟨b20,0,none⟩) (M - (m+2)) (List.replicate (j+1) 0++qs),rowA 131 (rI .u32) p17 c18 u]) (fun x=>[atF b26 o27 [.int .u32 ((yf V).getD (m+1) 0)],atF b23 o24 [.int .u32 ((yf V).getD (m+1) 0)],slF (rI .u32) (some ⟨b16,0,none⟩) 1 ([0]),slF (rI .u32) p313 c314 (yf V),slF (rI .u32) (some ⟨b10,0,none⟩) 1 (yf s),slF (rI .u32) (some ⟨b5,0,none⟩) 1 (yf s),atF b1 o2 [.int .u32 ((yf b).getD ((yf b).length - 1) 0)],slF (rI .u32) p1 c1 (yf a),slF (rI .u32) p2 c2 (yf b)]) ?_ ?_
    ·
     refine zP (OW:=[]) (O:=[rowA 131 (rI .u32) (some ⟨b20,0,none⟩) (M - (m+2)) (List.replicate (j+1) 0++qs),rowA 131 (rI .u32) p17 c18 u]) 100000 mixed (.then (.then (.then (.block (.then (.block (.then (.then (.block (.then .ret)))))))))) kr<|e_dm 0 rfl rfl rfl<|e_pv 1 rfl rfl (zob rfl rfl)<|ztc 2 rfl rfl kr kr rfl rfl (zka rfl) (fun hge=> ?_) (fun hge=> ?_)
     ·
      refine e_skip 3 rfl rfl<|e_skip 4 rfl rfl<|e_skip 5 rfl rfl<|e_skip 6 rfl rfl<|e_skip 7 rfl rfl<|e_skip 8 rfl rfl<|e_skip 9 rfl rfl<|e_skip 10 rfl rfl<|e_skip 11 rfl rfl<|e_skip 12 rfl rfl<|e_skip 13 rfl rfl<|e_skip 14 rfl rfl<|e_skip 15 rfl rfl<|e_skip 16 rfl rfl<|e_skip 17 rfl rfl<|e_skip 18 rfl rfl<|e_skip 19 rfl rfl<|e_skip 20 rfl rfl<|e_skip 21 rfl rfl<|e_skip 22 rfl rfl<|e_pv 23 rfl rfl (zK rfl rfl)<|zN kr ?_
      exact zha () (show True from by first|trivial|omega|simp_all) ((.e rfl (congrArg Value.bool (by exact (decide_eq_true (.inl hge)).symm)) (.of rfl)):SubM _ _) (ho:=((.of [0,0] rfl):PickO _ _ _)) ((.of [0,1,2,3,4,5,6,7,8] rfl):SelR _ _ _)
     ·
      refine e_dm 3 rfl rfl rfl<|e_dm 4 rfl rfl rfl<|e_dm 5 rfl rfl rfl<|e_pv 6 rfl rfl (zna (z:=((m:Nat):Int)) rfl rfl (w64 om))<|zUa (x0:=((yf V).getD m 0)) 7 rfl rfl kr kr 3 m rfl yg sz131 rfl rfl rfl (by first|rfl|assumption|(simp;done)|omega) rfl rfl (gD (d:=0) om) (fun b29 o30 hok31=> ?_)
      replace hok31:=zL.1 hok31
      refine e_u 8 rfl rfl (zB (j:=0) 0 ty131 rfl rfl rfl rfl)<|e_pv 9 rfl rfl (zQ (z:=((yf V).getD m 0)) rfl (by rw [yi];rfl) yk (wu64 om))<|e_pv 10 rfl rfl (zJa (z:=(g*((yf V).getD m 0))) rfl rfl (wu64 om))<|e_dm 11 rfl rfl rfl<|e_pv 12 rfl rfl (zJa (z:=(r*1000000000)) rfl rfl (wu64 om))<|e_dm 13 rfl rfl rfl<|e_dm 14 rfl rfl rfl<|e_dm 15 rfl rfl rfl<|e_pv 16 rfl rfl (zH (z:=(((j+(m+2)):Nat):Int)) rfl rfl (w64 om))<|e_pv 17 rfl rfl (zna (z:=(((j+m):Nat):Int)) rfl rfl (w64 om))<|e_u 18 rfl rfl (zEa 1 (j+m) rfl yg sz131 rfl (by first|rfl|assumption|(simp;done)|omega) rfl rfl om)<|d_vl 19 rfl rfl kr kr rfl rfl (zGa 1 (j+m) rfl ty131 rfl rfl (gD (d:=0) om) rfl) (fun _ hok32=> ?_)
      replace hok32:=zL.1 hok32
      refine e_pv 20 rfl rfl (zQ (z:=(u.getD (j+m) 0)) rfl (by rw [yi];rfl) yk (wu64 om))<|e_pv 21 rfl rfl (zH (z:=((r*1000000000)+(u.getD (j+m) 0))) rfl rfl (wu64 om))<|e_pv 22 rfl rfl (zbb rfl rfl)<|e_pv 23 rfl rfl (zK rfl rfl)<|zN kr ?_
      exact zha () (show True from by first|trivial|omega|simp_all) ((.e rfl (congrArg Value.bool (by exact decide_eq_decide.2 ⟨fun h=> .inr h,fun h=>h.resolve_left hge⟩)) (.of rfl)):SubM _ _) (ho:=((.of [0,0] rfl):PickO _ _ _)) ((.of [1,2,3,4,5,6,7,8,9] rfl):SelR _ _ _)
    ·
     rintro ⟨⟩ -
     try dsimp only
     refine zT rfl (fun hgs=> ?_) (fun hgs=> ?_)
     ·
      have hst:=hGs.step hT hgs
      have hst1:=hst.1
      refine zw<|zg<|zt<|zj<|zc<|e_mv rfl<|e_p (zna (z:=(g - 1)) rfl rfl (wu64 om))<|e_p (zh rfl)<|zk<|zg<|zj<|zc<|e_mv rfl<|e_mv rfl<|e_mv rfl<|e_p (zna (z:=(((m+1):Nat):Int)) rfl rfl (w64 om))<|zW (x0:=((yf V).getD (m+1) 0)) 3 (m+1) rfl yg sz131 rfl rfl rfl (by first|rfl|assumption|(simp;done)|omega) rfl rfl (gD (d:=0) om) (fun b33 o34 hok35=> ?_)
      replace hok35:=zL.1 hok35
      refine e_ru (zB (j:=0) 0 ty131 rfl rfl rfl rfl)<|e_p (zQ (z:=((yf V).getD (m+1) 0)) rfl (by rw [yi];rfl) yk (wu64 om))<|e_p (zH (z:=(r+((yf V).getD (m+1) 0))) rfl rfl (wu64 om))<|e_p (zh rfl)<|zk<|zg<|zj<|zc<|e_mv rfl<|e_p (zob rfl rfl)<|zk<|zg<|zT rfl (fun hbr=> ?_) (fun hbr=> ?_)
      ·
       refine zla<|zzb rfl<|zn<|zA ?_
       exact zha (g - 1) (show (0≤(g - 1)∧(g - 1)<1000000000)∧(yh (u.drop j))<((g - 1)+1)*(V:Int)∧(g - 1)*(V:Int)<(yh (u.drop j))+(V:Int) from by have hs9:=(hGs.step hT hgs).2;have hb9:=Big.Gs.broke hT hs9 hbr;exact ⟨⟨hs9.g0,hb9.1⟩,hs9.up,Big.Gs.fin hT hs9 hb9.1 hb9.2⟩) ((.of rfl):SubM _ _) (ho:=((.of [0,0] rfl):PickO _ _ _)) ((.of [1,2,3,4,5,6,7,8,9] rfl):SelR _ _ _)
      ·
       refine zw<|zI<|zwa ((g - 1),(r+((yf V).getD (m+1) 0))) (show Big.Gs (yh (u.drop j)) (V:Int) ((yf V).getD (m+1) 0) ((u.getD (j+(m+2)) 0)*1000000000+(u.getD (j+(m+1)) 0)) (g - 1) (r+((yf V).getD (m+1) 0))∧(r+((yf V).getD (m+1) 0))<1000000000 from by exact ⟨(hGs.step hT hgs).2,by omega⟩) (by have:=(hGs.step hT hgs).1;show (g - 1).toNat<g.toNat;omega) ((.of rfl):SubM _ _) (ho:=((.of [0,0] rfl):PickO _ _ _)) ((.of [1,2,3,4,5,6,7,8,9] rfl):SelR _ _ _)
     ·
      refine zla<|zn<|zn<|zA ?_
      exact zha g (show (0≤g∧g<1000000000)∧(yh (u.drop j))<(g+1)*(V:Int)∧g*(V:Int)<(yh (u.drop j))+(V:Int) from by exact ⟨⟨hg0,by omega⟩,hGs.up,Big.Gs.fin hT hGs om om⟩) ((.of rfl):SubM _ _) (ho:=((.of [0,0] rfl):PickO _ _ _)) ((.of [0,1,2,3,4,5,6,7,8] rfl):SelR _ _ _)
   ·
    rintro g hC
    replace hC:(0≤g∧g<1000000000)∧(yh (u.drop j))<(g+1)*(V:Int)∧g*(V:Int)<(yh (u.drop j))+(V:Int):=hC
    try dsimp only
    obtain ⟨⟨hg0,hg1⟩,hup,hdn⟩:=hC
    refine zj<|zc<|e_p (zh rfl)<|e_p (zh rfl)<|zk<|zg<|zj<|zj<|zc<|e_mv rfl<|e_mv rfl<|zk<|zg<|zt<|zBa (X:=Nat×(List Int)×Int×Int) (fun x:Nat×(List Int)×Int×Int=>x.1≤m+2∧Big.MsI u j g (yf V) x.1 x.2.1 x.2.2.1 x.2.2.2) (fun x=>[(15,.int .u64 (x.2.2.2)),(14,yc yd (x.2.2.1)),(137,yc yd ((x.1:Nat):Int)),(136,yc yd (((m+2):Nat):Int)),(12,.int .u64 g),(10,yc yd ((j:Nat):Int)),(4,.slice (some ⟨b20,0,none⟩) (M - (m+2)) (M - (m+2))),(7,.slice p17 M c18),(9,yc yd (((m+2):Nat):Int)),(8,.slice p313 (m+2) c314),(6,.int .u32 ((s:Nat):Int)),(5,.slice none 0 0)]) (fun x=>[rowA 131 (rI .u32) (some ⟨b20,0,none⟩) (M - (m+2)) (List.replicate (j+1) 0++qs),rowA 131 (rI .u32) p17 c18 (x.2.1)]) (fun x=>[atF b26 o27 [.int .u32 ((yf V).getD (m+1) 0)],atF b23 o24 [.int .u32 ((yf V).getD (m+1) 0)],slF (rI .u32) (some ⟨b16,0,none⟩) 1 ([0]),slF (rI .u32) p313 c314 (yf V),slF (rI .u32) (some ⟨b10,0,none⟩) 1 (yf s),slF (rI .u32) (some ⟨b5,0,none⟩) 1 (yf s),atF b1 o2 [.int .u32 ((yf b).getD ((yf b).length - 1) 0)],slF (rI .u32) p1 c1 (yf a),slF (rI .u32) p2 c2 (yf b)]) (fun x:Nat×(List Int)×Int×Int=>(m+2) - x.1) (0,u,0,0) (show 0≤m+2∧Big.MsI u j g (yf V) 0 u 0 0 from by exact ⟨Nat.zero_le _,Big.MsI.start hI.uo j g _⟩) ((.c rfl (.c rfl (.e rfl (by first|rfl|(congr 1;omega)|simp_all) (.of rfl)))):SubM _ _) (ho:=((.of [0,0] rfl):PickO _ _ _)) ((.of [0,1,2,3,4,5,6,7,8] rfl):SelR _ _ _) ?_
    rintro ⟨i,w,bo,ca⟩ hMM
    replace hMM:i≤m+2∧Big.MsI u j g (yf V) i w bo ca:=hMM
    try dsimp only
    obtain ⟨hile,hM2⟩:=hMM
    have hb0:=hM2.b0
    have hb1:=hM2.b1
    have hc0:=hM2.c0
    have hc1:=hM2.c1
    have hwl:=hM2.len
    have hwo:=yo hM2.ok (j+i)
    have hvi:=yo (yr V) i
    have hca:=Big.ms_carry ⟨hg0,hg1⟩ hvi ⟨hc0,hc1⟩
    have hgx:=Int.mul_nonneg hg0 hvi.1
    refine zj<|zc<|e_p (zO rfl rfl)<|zk<|zg<|zj<|zT rfl (fun hi=> ?_) (fun hi=> ?_)
    ·
     refine zw<|zg<|zj<|zt<|zj<|zc<|e_mv rfl<|e_p (zh rfl)<|zk<|zg<|zj<|zc<|e_mv rfl<|e_mv rfl<|e_mv rfl<|zW (x0:=((yf V).getD i 0)) 3 i rfl yg sz131 rfl rfl rfl (by first|rfl|assumption|(simp;done)|omega) rfl rfl (gD (d:=0) om) (fun b36 o37 hok38=> ?_)
     replace hok38:=zL.1 hok38
     refine e_ru (zB (j:=0) 0 ty131 rfl rfl rfl rfl)<|e_p (zQ (z:=((yf V).getD i 0)) rfl (by rw [yi];rfl) yk (wu64 om))<|e_p (zJa (z:=(g*((yf V).getD i 0))) rfl rfl (wu64 om))<|e_mv rfl<|e_p (zH (z:=((g*((yf V).getD i 0))+ca)) rfl rfl (wu64 om))<|e_p (zh rfl)<|zk<|zg<|zj<|zc<|e_mv rfl<|e_p (zab (z:=(((g*((yf V).getD i 0))+ca) / 1000000000)) rfl rfl om (by rw [quoN (z:=(((g*((yf V).getD i 0))+ca) / 1000000000)) om om];exact wu64 om))<|e_p (zh rfl)<|zk<|zg<|zj<|zc<|e_mv rfl<|e_mv rfl<|e_mv rfl<|e_p (zH (z:=(((j+i):Nat):Int)) rfl rfl (w64 om))<|e_ru (zEa 1 (j+i) rfl yg sz131 rfl (by first|rfl|assumption|(simp;done)|omega) rfl rfl om)<|r_vl rfl rfl (zGa 1 (j+i) rfl ty131 rfl rfl (gD (d:=0) om) rfl) (fun _ hok39=> ?_)
     replace hok39:=zL.1 hok39
     refine e_p (zQ (z:=(w.getD (j+i) 0)) rfl (by rw [yi];rfl) yA (w64 om))<|e_mv rfl<|e_p (zna (z:=((w.getD (j+i) 0) - bo)) rfl rfl (w64 om))<|e_mv rfl<|e_p (znb (z:=(((g*((yf V).getD i 0))+ca)%1000000000)) rfl rfl om (remN om om))<|e_p (zQ (z:=(((g*((yf V).getD i 0))+ca)%1000000000)) rfl (by rw [yk];rfl) yA (w64 om))<|e_p (zna (z:=(((w.getD (j+i) 0) - bo) - (((g*((yf V).getD i 0))+ca)%1000000000))) rfl rfl (w64 om))<|e_p (zh rfl)<|zk<|zg<|zj<|zc<|e_p (zh rfl)<|zk<|zg<|zj<|zj<|zc<|e_mv rfl<|e_p (zO rfl rfl)<|zk<|zg<|zT rfl (fun hneg=> ?_) (fun hneg=> ?_)
     ·
      refine zc<|e_mv rfl<|e_p (zH (z:=((((w.getD (j+i) 0) - bo) - (((g*((yf V).getD i 0))+ca)%1000000000))+1000000000)) rfl rfl (w64 om))<|e_p (zh rfl)<|e_p (zh rfl)<|zk<|zg<|zc<|e_mv rfl<|e_mv rfl<|e_mv rfl<|e_p (zH (z:=(((j+i):Nat):Int)) rfl rfl (w64 om))<|e_mv rfl<|e_p (zQ (z:=((((w.getD (j+i) 0) - bo) - (((g*((yf V).getD i 0))+ca)%1000000000))+1000000000)) rfl (by rw [yA];rfl) yi (wu32 om))<|e_ru (zEa 1 (j+i) rfl yg sz131 rfl (by first|rfl|assumption|(simp;done)|omega) rfl rfl om)<|zeb 1 rfl rfl rfl (zma (j:=(j+i)) (x0:=((((w.getD (j+i) 0) - bo) - (((g*((yf V).getD i 0))+ca)%1000000000))+1000000000)) (γ0:=()) rfl rfl (by first|omega|(rw [List.length_map];omega)|(simp only [List.length_set];omega)|(simp;done)|(simp;omega)) rfl rfl sz131 (fun _ _=>by exact zL.2 om)) (fun _=>(.s .z)) (fun _ _=> ?_)
      refine zk<|zI<|zg<|zc<|e_p (zH (z:=(((i+1):Nat):Int)) rfl rfl (w64 om))<|e_mv rfl<|zk<|zwa ((i+1),(w.set (j+i) ((((w.getD (j+i) 0) - bo) - (((g*((yf V).getD i 0))+ca)%1000000000))+1000000000)),1,(((g*((yf V).getD i 0))+ca) / 1000000000)) (show (i+1)≤m+2∧Big.MsI u j g (yf V) (i+1) (w.set (j+i) ((((w.getD (j+i) 0) - bo) - (((g*((yf V).getD i 0))+ca)%1000000000))+1000000000)) 1 (((g*((yf V).getD i 0))+ca) / 1000000000) from by exact ⟨by omega,hM2.step ⟨hg0,hg1⟩ (yr V) om om ⟨by omega,by omega⟩ ⟨by decide,by decide⟩⟩) (by show (m+2) - (i+1)<(m+2) - i;omega) ((.of rfl):SubM _ _) (ho:=((.of [0,0] rfl):PickO _ _ _)) ((.of [1,2,3,4,5,6,7,8,9] rfl):SelR _ _ _)
     ·
      refine zw<|zg<|zc<|e_mv rfl<|e_mv rfl<|e_mv rfl<|e_p (zH (z:=(((j+i):Nat):Int)) rfl rfl (w64 om))<|e_mv rfl<|e_p (zQ (z:=(((w.getD (j+i) 0) - bo) - (((g*((yf V).getD i 0))+ca)%1000000000))) rfl (by rw [yA];rfl) yi (wu32 om))<|e_ru (zEa 1 (j+i) rfl yg sz131 rfl (by first|rfl|assumption|(simp;done)|omega) rfl rfl om)<|zeb 1 rfl rfl rfl (zma (j:=(j+i)) (x0:=(((w.getD (j+i) 0) - bo) - (((g*((yf V).getD i 0))+ca)%1000000000))) (γ0:=()) rfl rfl (by first|omega|(rw [List.length_map];omega)|(simp only [List.length_set];omega)|(simp;done)|(simp;omega)) rfl rfl sz131 (fun _ _=>by exact zL.2 om)) (fun _=>(.s .z)) (fun _ _=> ?_)
      refine zk<|zI<|zg<|zc<|e_p (zH (z:=(((i+1):Nat):Int)) rfl rfl (w64 om))<|e_mv rfl<|zk<|zwa ((i+1),(w.set (j+i) (((w.getD (j+i) 0) - bo) - (((g*((yf V).getD i 0))+ca)%1000000000))),0,(((g*((yf V).getD i 0))+ca) / 1000000000)) (show (i+1)≤m+2∧Big.MsI u j g (yf V) (i+1) (w.set (j+i) (((w.getD (j+i) 0) - bo) - (((g*((yf V).getD i 0))+ca)%1000000000))) 0 (((g*((yf V).getD i 0))+ca) / 1000000000) from by exact ⟨by omega,hM2.step ⟨hg0,hg1⟩ (yr V) om om ⟨by omega,by omega⟩ ⟨by decide,by decide⟩⟩) (by show (m+2) - (i+1)<(m+2) - i;omega) ((.of rfl):SubM _ _) (ho:=((.of [0,0] rfl):PickO _ _ _)) ((.of [1,2,3,4,5,6,7,8,9] rfl):SelR _ _ _)
    ·
     have hM3:Big.MsI u j g (yf V) (m+2) w bo ca:=by have h8:i=m+2:=om;exact h8 ▸ hM2
     have hwo2:=yo hM2.ok (j+(m+2))
     refine zla<|zn<|zn<|zA<|zg<|zj<|zc<|e_mv rfl<|e_mv rfl<|e_mv rfl<|e_p (zH (z:=(((j+(m+2)):Nat):Int)) rfl rfl (w64 om))<|e_ru (zEa 1 (j+(m+2)) rfl yg sz131 rfl (by first|rfl|assumption|(simp;done)|omega) rfl rfl om)<|r_vl rfl rfl (zGa 1 (j+(m+2)) rfl ty131 rfl rfl (gD (d:=0) om) rfl) (fun _ hok40=> ?_)
     replace hok40:=zL.1 hok40
     refine e_p (zQ (z:=(w.getD (j+(m+2)) 0)) rfl (by rw [yi];rfl) yA (w64 om))<|e_mv rfl<|e_p (zna (z:=((w.getD (j+(m+2)) 0) - bo)) rfl rfl (w64 om))<|e_mv rfl<|e_p (zQ (z:=ca) rfl (by rw [yk];rfl) yA (w64 om))<|e_p (zna (z:=(((w.getD (j+(m+2)) 0) - bo) - ca)) rfl rfl (w64 om))<|e_p (zh rfl)<|zk<|zg<|zj<|zj<|zc<|e_mv rfl<|e_p (zO rfl rfl)<|zk<|zg<|zT rfl (fun hd=> ?_) (fun hd=> ?_)
     ·
      have hg9:=hI.neg1 hM3 hm hd
      refine zj<|zc<|e_mv rfl<|e_mv rfl<|e_mv rfl<|e_p (zH (z:=(((j+(m+2)):Nat):Int)) rfl rfl (w64 om))<|e_mv rfl<|e_p (zH (z:=((((w.getD (j+(m+2)) 0) - bo) - ca)+1000000000)) rfl rfl (w64 om))<|e_p (zQ (z:=((((w.getD (j+(m+2)) 0) - bo) - ca)+1000000000)) rfl (by rw [yA];rfl) yi (wu32 om))<|e_ru (zEa 1 (j+(m+2)) rfl yg sz131 rfl (by first|rfl|assumption|(simp;done)|omega) rfl rfl om)<|zeb 1 rfl rfl rfl (zma (j:=(j+(m+2))) (x0:=((((w.getD (j+(m+2)) 0) - bo) - ca)+1000000000)) (γ0:=()) rfl rfl (by first|omega|(rw [List.length_map];omega)|(simp only [List.length_set];omega)|(simp;done)|(simp;omega)) rfl rfl sz131 (fun _ _=>by exact zL.2 om)) (fun _=>(.s .z)) (fun _ _=> ?_)
      refine zk<|zg<|zj<|zc<|e_mv rfl<|e_p (zna (z:=(g - 1)) rfl rfl (wu64 om))<|e_p (zh rfl)<|zk<|zg<|zj<|zc<|e_p (zh rfl)<|zk<|zg<|zj<|zj<|zc<|e_mv rfl<|e_mv rfl<|zk<|zg<|zt<|zBa (X:=Nat×(List Int)×Int) (fun x:Nat×(List Int)×Int=>x.1≤m+2∧Big.AbI (w.set (j+(m+2)) ((((w.getD (j+(m+2)) 0) - bo) - ca)+1000000000)) j (yf V) x.1 x.2.1 x.2.2) (fun x=>[(20,.int .u32 (x.2.2)),(201,yc yd ((x.1:Nat):Int)),(200,yc yd (((m+2):Nat):Int)),(12,.int .u64 (g - 1)),(10,yc yd ((j:Nat):Int)),(4,.slice (some ⟨b20,0,none⟩) (M - (m+2)) (M - (m+2))),(7,.slice p17 M c18),(9,yc yd (((m+2):Nat):Int)),(8,.slice p313 (m+2) c314),(6,.int .u32 ((s:Nat):Int)),(5,.slice none 0 0)]) (fun x=>[rowA 131 (rI .u32) (some ⟨b20,0,none⟩) (M - (m+2)) (List.replicate (j+1) 0++qs),rowA 131 (rI .u32) p17 c18 (x.2.1)]) (fun x=>[atF b26 o27 [.int .u32 ((yf V).getD (m+1) 0)],atF b23 o24 [.int .u32 ((yf V).getD (m+1) 0)],slF (rI .u32) (some ⟨b16,0,none⟩) 1 ([0]),slF (rI .u32) p313 c314 (yf V),slF (rI .u32) (some ⟨b10,0,none⟩) 1 (yf s),slF (rI .u32) (some ⟨b5,0,none⟩) 1 (yf s),atF b1 o2 [.int .u32 ((yf b).getD ((yf b).length - 1) 0)],slF (rI .u32) p1 c1 (yf a),slF (rI .u32) p2 c2 (yf b)]) (fun x:Nat×(List Int)×Int=>(m+2) - x.1) (0,(w.set (j+(m+2)) ((((w.getD (j+(m+2)) 0) - bo) - ca)+1000000000)),0) (show 0≤m+2∧Big.AbI (w.set (j+(m+2)) ((((w.getD (j+(m+2)) 0) - bo) - ca)+1000000000)) j (yf V) 0 (w.set (j+(m+2)) ((((w.getD (j+(m+2)) 0) - bo) - ca)+1000000000)) 0 from by exact ⟨Nat.zero_le _,Big.AbI.start (yQ hM2.ok om om) _ _⟩) ((.c rfl (.e rfl (by first|rfl|(congr 1;omega)|simp_all) (.of rfl))):SubM _ _) (ho:=((.c (i:=0) rfl (.e (i:=0) rfl (by first|rfl|(congr 1;omega)|simp_all) .n)):PickO _ _ _)) ((.of [0,1,2,3,4,5,6,7,8] rfl):SelR _ _ _) ?_
      rintro ⟨i2,xs,cc⟩ hAA
      replace hAA:i2≤m+2∧Big.AbI (w.set (j+(m+2)) ((((w.getD (j+(m+2)) 0) - bo) - ca)+1000000000)) j (yf V) i2 xs cc:=hAA
      try dsimp only
      obtain ⟨hile2,hA2⟩:=hAA
      have hk0:=hA2.c0
      have hk1:=hA2.c1
      have hxl:=hA2.len
      rw [List.length_set] at hxl
      have hxo:=yo hA2.ok (j+i2)
      have hvi2:=yo (yr V) i2
      refine zj<|zc<|e_p (zO rfl rfl)<|zk<|zg<|zj<|zT rfl (fun hi=> ?_) (fun hi=> ?_)
      ·
       refine zw<|zg<|zj<|zt<|zj<|zc<|e_mv rfl<|e_p (zh rfl)<|zk<|zg<|zj<|zP (OW:=[]) (O:=[rowA 131 (rI .u32) (some ⟨b20,0,none⟩) (M - (m+2)) (List.replicate (j+1) 0++qs),rowA 131 (rI .u32) p17 c18 xs]) 100000 mixed (.then (.block (.then (.then (.block (.then (.then (.block (.then (.then (.block (.then .ret)))))))))))) kr<|e_dm 0 rfl rfl rfl<|e_dm 1 rfl rfl rfl<|e_dm 2 rfl rfl rfl<|e_pv 3 rfl rfl (zH (z:=(((j+i2):Nat):Int)) rfl rfl (w64 om))<|e_u 4 rfl rfl (zEa 1 (j+i2) rfl yg sz131 rfl (by first|rfl|assumption|(simp;done)|omega) rfl rfl om)<|d_vl 5 rfl rfl kr kr rfl rfl (zGa 1 (j+i2) rfl ty131 rfl rfl (gD (d:=0) om) rfl) (fun _ hok41=> ?_)
       replace hok41:=zL.1 hok41
       refine e_dm 6 rfl rfl rfl<|e_dm 7 rfl rfl rfl<|zUa (x0:=((yf V).getD i2 0)) 8 rfl rfl kr kr 3 i2 rfl yg sz131 rfl rfl rfl (by first|rfl|assumption|(simp;done)|omega) rfl rfl (gD (d:=0) om) (fun b42 o43 hok44=> ?_)
       replace hok44:=zL.1 hok44
       refine e_u 9 rfl rfl (zB (j:=0) 0 ty131 rfl rfl rfl rfl)<|e_pv 10 rfl rfl (zH (z:=((xs.getD (j+i2) 0)+((yf V).getD i2 0))) rfl rfl (wu32 om))<|e_dm 11 rfl rfl rfl<|e_pv 12 rfl rfl (zH (z:=(((xs.getD (j+i2) 0)+((yf V).getD i2 0))+cc)) rfl rfl (wu32 om))<|e_pv 13 rfl rfl (zh rfl)<|zN kr<|zg<|zj<|zc<|e_p (zh rfl)<|zk<|zg<|zj<|zj<|zc<|e_mv rfl<|e_p (zob rfl rfl)<|zk<|zg<|zT rfl (fun hcy=> ?_) (fun hcy=> ?_)
       ·
        refine zc<|e_mv rfl<|e_p (zna (z:=((((xs.getD (j+i2) 0)+((yf V).getD i2 0))+cc) - 1000000000)) rfl rfl (wu32 om))<|e_p (zh rfl)<|e_p (zh rfl)<|zk<|zg<|zc<|e_mv rfl<|e_mv rfl<|e_mv rfl<|e_p (zH (z:=(((j+i2):Nat):Int)) rfl rfl (w64 om))<|e_mv rfl<|e_ru (zEa 1 (j+i2) rfl yg sz131 rfl (by first|rfl|assumption|(simp;done)|omega) rfl rfl om)<|zeb 1 rfl rfl rfl (zma (j:=(j+i2)) (x0:=((((xs.getD (j+i2) 0)+((yf V).getD i2 0))+cc) - 1000000000)) (γ0:=()) rfl rfl (by first|omega|(rw [List.length_map];omega)|(simp only [List.length_set];omega)|(simp;done)|(simp;omega)) rfl rfl sz131 (fun _ _=>by exact zL.2 om)) (fun _=>(.s .z)) (fun _ _=> ?_)
        refine zk<|zI<|zg<|zc<|e_p (zH (z:=(((i2+1):Nat):Int)) rfl rfl (w64 om))<|e_mv rfl<|zk<|zwa ((i2+1),(xs.set (j+i2) ((((xs.getD (j+i2) 0)+((yf V).getD i2 0))+cc) - 1000000000)),1) (show (i2+1)≤m+2∧Big.AbI (w.set (j+(m+2)) ((((w.getD (j+(m+2)) 0) - bo) - ca)+1000000000)) j (yf V) (i2+1) (xs.set (j+i2) ((((xs.getD (j+i2) 0)+((yf V).getD i2 0))+cc) - 1000000000)) 1 from by exact ⟨by omega,hA2.step (by rw [List.length_set];omega) om ⟨by omega,by omega⟩ ⟨by decide,by decide⟩⟩) (by show (m+2) - (i2+1)<(m+2) - i2;omega) ((.of rfl):SubM _ _) (ho:=((.of [0,0] rfl):PickO _ _ _)) ((.of [1,2,3,4,5,6,7,8,9] rfl):SelR _ _ _)
       ·
        refine zw<|zg<|zc<|e_mv rfl<|e_mv rfl<|e_mv rfl<|e_p (zH (z:=(((j+i2):Nat):Int)) rfl rfl (w64 om))<|e_mv rfl<|e_ru (zEa 1 (j+i2) rfl yg sz131 rfl (by first|rfl|assumption|(simp;done)|omega) rfl rfl om)<|zeb 1 rfl rfl rfl (zma (j:=(j+i2)) (x0:=(((xs.getD (j+i2) 0)+((yf V).getD i2 0))+cc)) (γ0:=()) rfl rfl (by first|omega|(rw [List.length_map];omega)|(simp only [List.length_set];omega)|(simp;done)|(simp;omega)) rfl rfl sz131 (fun _ _=>by exact zL.2 om)) (fun _=>(.s .z)) (fun _ _=> ?_)
        refine zk<|zI<|zg<|zc<|e_p (zH (z:=(((i2+1):Nat):Int)) rfl rfl (w64 om))<|e_mv rfl<|zk<|zwa ((i2+1),(xs.set (j+i2) (((xs.getD (j+i2) 0)+((yf V).getD i2 0))+cc)),0) (show (i2+1)≤m+2∧Big.AbI (w.set (j+(m+2)) ((((w.getD (j+(m+2)) 0) - bo) - ca)+1000000000)) j (yf V) (i2+1) (xs.set (j+i2) (((xs.getD (j+i2) 0)+((yf V).getD i2 0))+cc)) 0 from by exact ⟨by omega,hA2.step (by rw [List.length_set];omega) om ⟨by omega,by omega⟩ ⟨by decide,by decide⟩⟩) (by show (m+2) - (i2+1)<(m+2) - i2;omega) ((.of rfl):SubM _ _) (ho:=((.of [0,0] rfl):PickO _ _ _)) ((.of [1,2,3,4,5,6,7,8,9] rfl):SelR _ _ _)
      ·
       have hA3:Big.AbI (w.set (j+(m+2)) ((((w.getD (j+(m+2)) 0) - bo) - ca)+1000000000)) j (yf V) (m+2) xs cc:=by have h8:i2=m+2:=om;exact h8 ▸ hA2
       have hxo2:=yo hA2.ok (j+(m+2))
       refine zla<|zn<|zn<|zA<|zg<|zc<|e_mv rfl<|e_mv rfl<|e_mv rfl<|e_p (zH (z:=(((j+(m+2)):Nat):Int)) rfl rfl (w64 om))<|e_mv rfl<|e_mv rfl<|e_mv rfl<|e_p (zH (z:=(((j+(m+2)):Nat):Int)) rfl rfl (w64 om))<|e_ru (zEa 1 (j+(m+2)) rfl yg sz131 rfl (by first|rfl|assumption|(simp;done)|omega) rfl rfl om)<|r_vl rfl rfl (zGa 1 (j+(m+2)) rfl ty131 rfl rfl (gD (d:=0) om) rfl) (fun _ hok45=> ?_)
       replace hok45:=zL.1 hok45
       refine e_mv rfl<|e_p (zH (z:=((xs.getD (j+(m+2)) 0)+cc)) rfl rfl (wu32 om))<|e_p (znb (z:=(((xs.getD (j+(m+2)) 0)+cc)%1000000000)) rfl rfl om (remN om om))<|e_ru (zEa 1 (j+(m+2)) rfl yg sz131 rfl (by first|rfl|assumption|(simp;done)|omega) rfl rfl om)<|zeb 1 rfl rfl rfl (zma (j:=(j+(m+2))) (x0:=(((xs.getD (j+(m+2)) 0)+cc)%1000000000)) (γ0:=()) rfl rfl (by first|omega|(rw [List.length_map];omega)|(simp only [List.length_set];omega)|(simp;done)|(simp;omega)) rfl rfl sz131 (fun _ _=>by exact zL.2 om)) (fun _=>(.s .z)) (fun _ _=> ?_)
       refine zk<|zg<|zc<|e_mv rfl<|e_mv rfl<|e_mv rfl<|e_p (zQ (z:=(g - 1)) rfl (by rw [yk];rfl) yi (wu32 om))<|e_p (zra (j:=j) yg sz131 rfl rfl rfl om)<|zeb 0 rfl rfl rfl (zma (j:=j) (x0:=(g - 1)) (γ0:=()) rfl rfl (by first|omega|(rw [List.length_map];omega)|(simp only [List.length_set];omega)|(simp;done)|(simp;omega)) rfl rfl sz131 (fun _ _=>by exact zL.2 om)) (fun _=> .z) (fun _ _=> ?_)
       refine zk<|zI<|zg<|zc<|e_mv rfl<|e_p (zna (z:=(((j:Nat):Int) - 1)) rfl rfl (w64 om))<|e_p (zh rfl)<|zk<|zwa (j,(xs.set (j+(m+2)) (((xs.getD (j+(m+2)) 0)+cc)%1000000000)),((g - 1) :: qs)) (show yW M (m+2) ((A:Nat):Int) ((V:Nat):Int) j (xs.set (j+(m+2)) (((xs.getD (j+(m+2)) 0)+cc)%1000000000)) ((g - 1) :: qs) from by exact (hI.neg ⟨hg0,hg1⟩ hdn hup hM3 hm hd hA3).2) (by show j<j+1;omega) ((.of rfl):SubM _ _) (ho:=((.e (i:=0) rfl (by rw [Big.pad_set]) (.c (i:=0) rfl .n)):PickO _ _ _)) ((.of [2,3,4,5,6,7,8] rfl):SelR _ _ _)
     ·
      refine zc<|e_mv rfl<|e_mv rfl<|e_mv rfl<|e_p (zH (z:=(((j+(m+2)):Nat):Int)) rfl rfl (w64 om))<|e_mv rfl<|e_p (zQ (z:=(((w.getD (j+(m+2)) 0) - bo) - ca)) rfl (by rw [yA];rfl) yi (wu32 om))<|e_ru (zEa 1 (j+(m+2)) rfl yg sz131 rfl (by first|rfl|assumption|(simp;done)|omega) rfl rfl om)<|zeb 1 rfl rfl rfl (zma (j:=(j+(m+2))) (x0:=(((w.getD (j+(m+2)) 0) - bo) - ca)) (γ0:=()) rfl rfl (by first|omega|(rw [List.length_map];omega)|(simp only [List.length_set];omega)|(simp;done)|(simp;omega)) rfl rfl sz131 (fun _ _=>by exact zL.2 om)) (fun _=>(.s .z)) (fun _ _=> ?_)
      refine zk<|zg<|zc<|e_mv rfl<|e_mv rfl<|e_mv rfl<|e_p (zQ (z:=g) rfl (by rw [yk];rfl) yi (wu32 om))<|e_p (zra (j:=j) yg sz131 rfl rfl rfl om)<|zeb 0 rfl rfl rfl (zma (j:=j) (x0:=g) (γ0:=()) rfl rfl (by first|omega|(rw [List.length_map];omega)|(simp only [List.length_set];omega)|(simp;done)|(simp;omega)) rfl rfl sz131 (fun _ _=>by exact zL.2 om)) (fun _=> .z) (fun _ _=> ?_)
      refine zk<|zI<|zg<|zc<|e_mv rfl<|e_p (zna (z:=(((j:Nat):Int) - 1)) rfl rfl (w64 om))<|e_p (zh rfl)<|zk<|zwa (j,(w.set (j+(m+2)) (((w.getD (j+(m+2)) 0) - bo) - ca)),(g :: qs)) (show yW M (m+2) ((A:Nat):Int) ((V:Nat):Int) j (w.set (j+(m+2)) (((w.getD (j+(m+2)) 0) - bo) - ca)) (g :: qs) from by exact hI.pos ⟨hg0,hg1⟩ hup hM3 hm om) (by show j<j+1;omega) ((.of rfl):SubM _ _) (ho:=((.e (i:=0) rfl (by rw [Big.pad_set]) (.c (i:=0) rfl .n)):PickO _ _ _)) ((.of [2,3,4,5,6,7,8] rfl):SelR _ _ _)
  ·
   have hj0:jj=0:=by omega
   have hI0:yW M (m+2) ((A:Nat):Int) ((V:Nat):Int) 0 u qs:=hj0 ▸ hI
   obtain ⟨hf1,hf2⟩:=hI0.fin hm
   have hsc:=Big.scale_div (a:=a) (b:=b) hs1
   have hql:qs.length=M - (m+2):=by have h8:=hI0.ql;omega
   have hul0:=hI0.ul
   refine zla<|zn<|zn<|zA<|zg<|zj<|zBe 1 rfl (.s .z)<|zqa 0 rfl (fun hcu=> ?_)
   have hAV:(yf (A%V)).length≤1099511627776:=Nat.le_trans (yP (Nat.le_of_lt (Nat.mod_lt A (Nat.pos_of_ne_zero (fun e=>by rw [e] at hm;cases hm))))) om
   have e46:List.replicate jj 0++qs=qs:=by rw [hj0];rfl
   rw [e46]
   refine zc<|e_mv rfl<|e_mv rfl<|e_p (zZb (hi:=(m+2)) yg sz131 rfl (.s rfl) (.inr ⟨_,rfl⟩) om)<|zMc (zXc 0 rfl (m+2) om) (fun _ _=> ?_)
   refine zG rfl rfl (.c rfl .n) ce135 (zRb (p:=p17) (n:=(m+2)) (cap:=c18) (l:=(u.take (m+2))) (hn:=cbb)) (.c (j:=0) rfl .n) ?_
   rintro ⟨⟩ -
   dsimp only [aq,nq,cq]
   refine e_mv rfl ?_
   have e47:yp (u.take (m+2))=yf (A%V):=by exact hf2
   rw [e47]
   refine zG rfl rfl (.c rfl (.c rfl .n)) ce139 (zfe (a:=A%V) (mm:=s) (p:=p17) (cap:=c18) (hb:=om) (hm0:=om) (hm1:=om)) (.c (j:=0) rfl .n) ?_
   rintro ⟨p248,c249⟩ -
   dsimp only [aq,nq,cq]
   refine e_mv rfl<|e_p (zy rfl rfl)<|e_p (zy rfl rfl)<|e_p (zh rfl)<|zk<|zg<|zj<|zc<|e_mv rfl<|zia 0 rfl .z<|zG rfl rfl (.c rfl .n) ce135 (zRb (p:=some ⟨b20,0,none⟩) (n:=(M - (m+2))) (cap:=(M - (m+2))) (l:=qs) (hn:=cbb)) (.c (j:=0) rfl .n) ?_
   rintro ⟨⟩ -
   dsimp only [aq,nq,cq]
   refine e_mv rfl<|e_p (zh rfl)<|e_p (zh rfl)<|zk<|zg<|zS ?_
   have e50:yp qs=yf (A / V):=by exact hf1
   rw [e50]
   exact zCa Tryz.results140 ((some ⟨b20,0,none⟩),(M - (m+2)),p248,c249) trivial (zC rfl) (zC rfl) (by rw [hA,hV,hsc.1,hsc.2]) (ho:=(.n:PickO _ _ _)) ((.e (j:=0) rfl (by rw [hA,hV,hsc.1]) (.e (j:=2) rfl (by rw [hA,hV,hsc.2]) .n)):SelR _ _ _)
end Go.Proofs.YtjeahiahjgifgaaGreatDoor.Sp
namespace Go.Proofs.YtjeahiahjgifgaaGreatDoor.Sp
open Go
set_option linter.unusedVariables false
set_option maxRecDepth 100000
set_option maxHeartbeats 8000000
theorem zHe {a:Nat} {b:Nat} {p1:Option Addr} {c1:Nat} {p2:Option Addr} {c2:Nat} (hb1:(yf a).length≤1099511627776) (hb2:(yf b).length≤1099511627776) (hb0:0<b):Con yl 130 [.slice p1 ((yf a).length) c1,.slice p2 ((yf b).length) c2] [] [slF (rI .u32) p1 c1 (yf a),slF (rI .u32) p2 c2 (yf b)] (Y:=(Option Addr)×Nat×(Option Addr)×Nat) (fun y=>True) (fun y=> .tuple #[.slice (y.1) ((yf (a / b)).length) (y.2.1),.slice (y.2.2.1) ((yf (a%b)).length) (y.2.2.2)]) (fun y=>[]) (fun y=>[slF (rI .u32) (y.1) (y.2.1) (yf (a / b)),slF (rI .u32) (y.2.2.1) (y.2.2.2) (yf (a%b))]):=by
 refine zv Tryz.func130 rfl rfl rfl (fun c=> ?_)
 show RunC _ _ _ _ _ [(0,.slice p1 ((yf a).length) c1),(1,.slice p2 ((yf b).length) c2)] [] [slF (rI .u32) p1 c1 (yf a),slF (rI .u32) p2 c2 (yf b)]
 refine zqa 0 rfl (fun hL0=> ?_)
 refine zqa 1 rfl (fun hL1=> ?_)
 have hd1:=Nat.div_le_self a b
 have hd2:=Nat.mod_le a b
 have hob:=yo (yr b) 0
 refine zj<|zc<|e_p (zh rfl)<|e_p (zh rfl)<|zk<|zg<|zj<|zj<|zc<|e_mv rfl<|e_mv rfl<|zU rfl rfl (.c rfl (.c rfl .n)) ce118 (znc (a:=a) (b:=b) (p1:=p1) (c1:=c1) (p2:=p2) (c2:=c2)) (.c (j:=0) rfl (.c (j:=1) rfl .n))<|e_p (zO rfl rfl)<|zk<|zg<|zT rfl (fun hlt=> ?_) (fun hlt=> ?_)
 ·
  have hab9:¬(b:Int)≤a:=fun h=>by have:=Big.cmp_ge.2 h;omega
  have hab:a<b:=by omega
  refine zj<|zc<|e_mv rfl<|e_p (zh rfl)<|e_p (zh rfl)<|zk<|zg<|zS<|zu ?_
  have hz1:a / b=0:=Nat.div_eq_of_lt hab
  have hz2:a%b=a:=Nat.mod_eq_of_lt hab
  refine zPc (rI .u32) ?_
  exact zCa yM (none,0,p1,c1) trivial (zC rfl) (zC rfl) (by rw [hz1,hz2];rfl) (ho:=(.n:PickO _ _ _)) ((.e (j:=0) rfl (by rw [hz1];rfl) (.e (j:=1) rfl (by rw [hz2]) .n)):SelR _ _ _)
 ·
  have hab:b≤a:=by have h9:=Big.cmp_ge.1 (by omega:0≤yI (a:Int) (b:Int));omega
  refine zw<|zg<|zj<|zc<|e_mv rfl<|zU rfl rfl (.c rfl .n) ce129 (zYc (a:=a) (p:=p1) (cap:=c1)) (.c (j:=0) rfl .n)<|e_mv rfl<|e_p (zy rfl rfl)<|e_p (zy rfl rfl)<|e_p (zh rfl)<|e_p (zh rfl)<|zk<|zg<|zj<|zc<|e_mv rfl<|zU rfl rfl (.c rfl .n) ce129 (zYc (a:=b) (p:=p2) (cap:=c2)) (.c (j:=1) rfl .n)<|e_mv rfl<|e_p (zy rfl rfl)<|e_p (zy rfl rfl)<|e_p (zh rfl)<|e_p (zh rfl)<|zk<|zg<|zj<|zAa (X:=Unit) (fun x=>True) (fun x=>[(30,.bool (decide (((yf a).length≤2)∧((yf b).length≤2)))),(8,.int .u64 (((if (yf b).length≤2 then b else 0):Nat):Int)),(6,.int .u64 (((if (yf a).length≤2 then a else 0):Nat):Int)),(5,.slice none 0 0),(4,.slice none 0 0),(0,.slice p1 ((yf a).length) c1),(1,.slice p2 ((yf b).length) c2)]) (fun x=>[]) (fun x=>[slF (rI .u32) p1 c1 (yf a),slF (rI .u32) p2 c2 (yf b)]) ?_ ?_
  ·
   refine zc<|e_mv rfl<|zja rfl rfl (zka rfl) (fun h1=> ?_) (fun h1=> ?_)
   ·
    refine e_mv rfl<|e_p (zK rfl rfl)<|zk ?_
    exact zha () (show True from by first|trivial|omega|simp_all) ((.e rfl (congrArg Value.bool cbu) (.of rfl)):SubM _ _) (ho:=(.n:PickO _ _ _)) ((.of [0,1] rfl):SelR _ _ _)
   ·
    refine e_no<|e_p (zK rfl rfl)<|zk ?_
    exact zha () (show True from by first|trivial|omega|simp_all) ((.e rfl (congrArg Value.bool cbu) (.of rfl)):SubM _ _) (ho:=(.n:PickO _ _ _)) ((.of [0,1] rfl):SelR _ _ _)
  ·
   rintro ⟨⟩ -
   try dsimp only
   refine zT rfl (fun hw=> ?_) (fun hw=> ?_)
   ·
    have ha18:=yU hw.1
    have hb18:=yU hw.2
    have hdn0:(0:Int)≤(a:Int) / (b:Int):=Int.ediv_nonneg om om
    have hdn1:(a:Int) / (b:Int)≤a:=Int.ediv_le_self _ om
    have hdm0:(0:Int)≤(a:Int)%(b:Int):=Int.emod_nonneg _ om
    have hdm1:(a:Int)%(b:Int)<b:=Int.emod_lt_of_pos _ om
    refine zj ?_
    have e2:(if (yf a).length≤2 then a else 0)=a:=by rw [if_pos hw.1]
    rw [e2]
    have e3:(if (yf b).length≤2 then b else 0)=b:=by rw [if_pos hw.2]
    rw [e3]
    refine zP (OW:=[]) (O:=[]) 100000 mixed (.then (.then .ret)) kr<|e_dm 0 rfl rfl rfl<|e_dm 1 rfl rfl rfl<|e_pv 2 rfl rfl (zab (z:=(((a / b):Nat):Int)) rfl rfl om (by rw [quoN (z:=(((a / b):Nat):Int)) om om];exact wu64 om))<|e_dm 4 rfl rfl rfl<|e_dm 5 rfl rfl rfl<|e_pv 6 rfl rfl (znb (z:=(((a%b):Nat):Int)) rfl rfl om (remN om om))<|e_one 3 (zm rfl rfl rfl rfl (.c rfl .n) ce122 (zMb (n0:=(a / b)) (hn0:=cbo)) (.n) ?_)
    rintro ⟨p24,c25⟩ -
    dsimp only [aq,nq,cq]
    refine e_one 7 (zm rfl rfl rfl rfl (.c rfl .n) ce122 (zMb (n0:=(a%b)) (hn0:=cbo)) (.n) ?_)
    rintro ⟨p26,c27⟩ -
    dsimp only [aq,nq,cq]
    refine e_pv 8 rfl rfl (zh rfl)<|e_pv 9 rfl rfl (zh rfl)<|zN kr<|zg<|zS<|zu ?_
    exact zCa yM (p24,c25,p26,c27) trivial (zC rfl) (zC rfl) rfl (ho:=(.n:PickO _ _ _)) ((.of [1,0] rfl):SelR _ _ _)
   ·
    refine zw<|zg<|zj<|zj<|zc<|e_mv rfl<|e_p (zfa yg rfl)<|e_p (zOa rfl rfl)<|zk<|zg<|zT rfl (fun hl1=> ?_) (fun hl1=> ?_)
    ·
     have hbd:=Big.one_digit (by omega:(yf b).length=1)
     have hln0:=Big.zkf hb0
     have hmlt:=Nat.mod_lt a hb0
     have hdm0:(0:Int)≤(a:Int)%(b:Int):=Int.emod_nonneg _ om
     have hdm1:(a:Int)%(b:Int)<b:=Int.emod_lt_of_pos _ om
     refine zj<|zc<|e_mv rfl<|e_mv rfl<|zW (x0:=((yf b).getD 0 0)) 1 0 rfl yg sz131 rfl rfl rfl (by first|rfl|assumption|(simp;done)|omega) rfl rfl (gD (d:=0) om) (fun b8 o9 hok10=> ?_)
     replace hok10:=zL.1 hok10
     refine e_ru (zB (j:=0) 0 ty131 rfl rfl rfl rfl) ?_
     have e11:(((yf b).getD 0 0):Int)=((b:Nat):Int):=by exact hbd
     rw [e11]
     refine zG rfl rfl (.c rfl (.c rfl .n)) ce139 (zfe (a:=a) (mm:=b) (p:=p1) (cap:=c1) (hb:=ass) (hm0:=ass) (hm1:=cbo)) (.c (j:=1) rfl .n) ?_
     rintro ⟨p212,c213⟩ -
     dsimp only [aq,nq,cq]
     refine e_mv rfl<|e_p (zy rfl rfl)<|e_p (zy rfl rfl)<|e_p (zh rfl)<|e_p (zh rfl)<|zk<|zg<|zj<|zc<|e_mv rfl<|e_mv rfl<|e_p (zQ (z:=(((a%b):Nat):Int)) rfl (by rw [yi];rfl) yk (wu64 om))<|zG rfl rfl (.c rfl .n) ce122 (zMb (n0:=(a%b)) (hn0:=cbo)) (.n) ?_
     rintro ⟨p214,c215⟩ -
     dsimp only [aq,nq,cq]
     refine e_p (zh rfl)<|e_p (zh rfl)<|zk<|zg<|zS<|zu ?_
     exact zCa yM (p212,c213,p214,c215) trivial (zC rfl) (zC rfl) rfl (ho:=(.n:PickO _ _ _)) ((.of [1,0] rfl):SelR _ _ _)
    ·
     have hln0:=Big.zkf hb0
     refine zw<|zg<|zj<|zc<|e_mv rfl<|e_mv rfl<|zG rfl rfl (.c rfl (.c rfl .n)) ce140 (zKf (a:=a) (b:=b) (p1:=p1) (c1:=c1) (p2:=p2) (c2:=c2) (hb1:=ass) (hb2:=ass) (hb3:=cbo) (hab:=cbo)) (.c (j:=0) rfl (.c (j:=1) rfl .n)) ?_
     rintro ⟨p316,c317,p418,c419⟩ -
     dsimp only [aq,nq,cq]
     refine e_p (zy rfl rfl)<|e_p (zy rfl rfl)<|e_p (zh rfl)<|e_p (zh rfl)<|zk<|zg<|zS ?_
     exact zCa yM (p316,c317,p418,c419) trivial (zC rfl) (zC rfl) rfl (ho:=(.n:PickO _ _ _)) ((.of [0,1] rfl):SelR _ _ _)
theorem zof {s:Bool} {p1:Option Addr} {n1:Nat} {c1:Nat} {l1:List Int} {t:Bool} {p2:Option Addr} {n2:Nat} {c2:Nat} {l2:List Int} (hn1:l1.length=n1) (hn2:l2.length=n2) (hb1:yx (ym s l1)≤1099511627776) (hb2:yx (ym t l2)≤1099511627776):Con yl 112 [.agg #[.bool s,.slice p1 n1 c1],.agg #[.bool t,.slice p2 n2 c2]] [] [slF (rI .u32) p1 c1 l1,slF (rI .u32) p2 c2 l2] (Y:=(Option Addr)×Nat) (fun y=>True) (fun y=> .agg #[.bool (decide (((Nat.gcd (ym s l1).natAbs (ym t l2).natAbs:Nat):Int)<0)),.slice (y.1) ((yf (((Nat.gcd (ym s l1).natAbs (ym t l2).natAbs:Nat):Int).natAbs)).length) (y.2)]) (fun y=>[]) (fun y=>[slF (rI .u32) (y.1) (y.2) (yf (((Nat.gcd (ym s l1).natAbs (ym t l2).natAbs:Nat):Int).natAbs))]):=by
 refine zv Tryz.func112 rfl rfl rfl (fun c=> ?_)
 show RunC _ _ _ _ _ [(0,.agg #[.bool s,.slice p1 n1 c1]),(1,.agg #[.bool t,.slice p2 n2 c2])] [] [slF (rI .u32) p1 c1 l1,slF (rI .u32) p2 c2 l2]
 refine zqa 0 rfl (fun hL0=> ?_)
 refine zfb 0 rfl (fun hE0=> ?_)
 refine zqa 1 rfl (fun hL1=> ?_)
 refine zfb 1 rfl (fun hE1=> ?_)
 have hnn1:yO l1:=fun g hg=>(zL.1 (hE0 g hg)).1
 have hnn2:yO l2:=fun g hg=>(zL.1 (hE1 g hg)).1
 obtain ⟨x1,hx1⟩:∃z,z=ym s l1:=⟨_,rfl⟩
 obtain ⟨x2,hx2⟩:∃z,z=ym t l2:=⟨_,rfl⟩
 unfold yx at hb1 hb2
 refine zj<|zc<|zE rfl rfl (zZ rfl rfl) (fun b1=> ?_)
 refine zE rfl rfl (zZ rfl rfl) (fun b2=> ?_)
 refine zE rfl rfl (zo zr42 rfl) (fun b3=> ?_)
 refine zk<|zg<|zj<|zP (OW:=[]) (O:=[boxA b3 42 [wz.b,wz.l],boxA b2 42 [.bool t,.slice p2 n2 c2],boxA b1 42 [.bool s,.slice p1 n1 c1]]) 100000 mixed (.then .ret) kr<|e_u 0 rfl rfl (zd 2 ty42 rfl rfl (.t2 .nil))<|e_u 2 rfl rfl (zd 1 ty42 rfl rfl (.t2 .nil))<|e_one 1 (zm rfl rfl rfl rfl (.c rfl .n) ce119 (zlb (s:=s) (p:=p1) (n:=n1) (cap:=c1) (l:=l1) (hn:=ass)) (.c (j:=0) rfl .n) ?_)
 rintro ⟨p24,c25⟩ -
 dsimp only [aq,nq,cq]
 refine e_one 3 (zm rfl rfl rfl rfl (.c rfl .n) ce119 (zlb (s:=t) (p:=p2) (n:=n2) (cap:=c2) (l:=l2) (hn:=ass)) (.c (j:=2) rfl .n) ?_)
 rintro ⟨p26,c27⟩ -
 dsimp only [aq,nq,cq]
 refine e_pv 4 rfl rfl (zh rfl)<|e_pv 5 rfl rfl (zh rfl)<|zN kr<|zg<|zj<|zt<|zBa (X:=Nat×Nat×(Option Addr)×Nat×(Option Addr)×Nat) (fun x:Nat×Nat×(Option Addr)×Nat×(Option Addr)×Nat=>Nat.gcd x.1 x.2.1=Nat.gcd (ym s l1).natAbs (ym t l2).natAbs∧(yf x.1).length≤1099511627776∧(yf x.2.1).length≤1099511627776) (fun x=>[(6,.slice (x.2.2.2.2.1) ((yf (x.2.1)).length) (x.2.2.2.2.2)),(5,.slice (x.2.2.1) ((yf (x.1)).length) (x.2.2.2.1)),(4,ye (some ⟨b3,0,none⟩))]) (fun x=>[boxA b3 42 [wz.b,wz.l],boxA b2 42 [.bool t,.slice p2 n2 c2],boxA b1 42 [.bool s,.slice p1 n1 c1]]) (fun x=>[slF (rI .u32) (x.2.2.1) (x.2.2.2.1) (yf (x.1)),slF (rI .u32) (x.2.2.2.2.1) (x.2.2.2.2.2) (yf (x.2.1)),slF (rI .u32) p26 c27 (yf ((ym t l2).natAbs)),slF (rI .u32) p24 c25 (yf ((ym s l1).natAbs)),slF (rI .u32) p1 c1 l1,slF (rI .u32) p2 c2 l2]) (fun x:Nat×Nat×(Option Addr)×Nat×(Option Addr)×Nat=>x.2.1) ((ym s l1).natAbs,(ym t l2).natAbs,p24,c25,p26,c27) (show Nat.gcd ((ym s l1).natAbs) ((ym t l2).natAbs)=Nat.gcd (ym s l1).natAbs (ym t l2).natAbs∧(yf ((ym s l1).natAbs)).length≤1099511627776∧(yf ((ym t l2).natAbs)).length≤1099511627776 from by exact ⟨rfl,hb1,hb2⟩) ((.of rfl):SubM _ _) (ho:=((.of [0,0,0] rfl):PickO _ _ _)) ((.of [1,0,0,1,2,3] rfl):SelR _ _ _) ?_
 rintro ⟨a,b,pa,ca,pb,cb⟩ hI
 replace hI:Nat.gcd a b=Nat.gcd (ym s l1).natAbs (ym t l2).natAbs∧(yf a).length≤1099511627776∧(yf b).length≤1099511627776:=hI
 try dsimp only
 obtain ⟨hgc,hba,hbb⟩:=hI
 refine zj<|zj<|zc<|e_mv rfl<|e_p (zfa yg rfl)<|e_p (zbb rfl rfl)<|zk<|zg<|zT rfl (fun hne=> ?_) (fun hne=> ?_)
 ·
  have hb0:0<b:=Nat.pos_of_ne_zero (fun e=>by rw [e] at hne;simp [Big.digs_zero] at hne)
  refine zw<|zg<|zt<|zj<|zc<|e_mv rfl<|zU rfl rfl (.c rfl .n) ce129 (zYc (a:=a) (p:=pa) (cap:=ca)) (.c (j:=0) rfl .n)<|e_mv rfl<|e_p (zy rfl rfl)<|e_p (zy rfl rfl)<|e_p (zh rfl)<|e_p (zh rfl)<|zk<|zg<|zj<|zc<|e_mv rfl<|zU rfl rfl (.c rfl .n) ce129 (zYc (a:=b) (p:=pb) (cap:=cb)) (.c (j:=1) rfl .n)<|e_mv rfl<|e_p (zy rfl rfl)<|e_p (zy rfl rfl)<|e_p (zh rfl)<|e_p (zh rfl)<|zk<|zg<|zj<|zAa (X:=Unit) (fun x=>True) (fun x=>[(33,.bool (decide (((yf a).length≤2)∧((yf b).length≤2)))),(9,.int .u64 (((if (yf b).length≤2 then b else 0):Nat):Int)),(7,.int .u64 (((if (yf a).length≤2 then a else 0):Nat):Int)),(6,.slice pb ((yf b).length) cb),(5,.slice pa ((yf a).length) ca),(4,ye (some ⟨b3,0,none⟩))]) (fun x=>[boxA b3 42 [wz.b,wz.l],boxA b2 42 [.bool t,.slice p2 n2 c2],boxA b1 42 [.bool s,.slice p1 n1 c1]]) (fun x=>[slF (rI .u32) pa ca (yf a),slF (rI .u32) pb cb (yf b),slF (rI .u32) p26 c27 (yf ((ym t l2).natAbs)),slF (rI .u32) p24 c25 (yf ((ym s l1).natAbs)),slF (rI .u32) p1 c1 l1,slF (rI .u32) p2 c2 l2]) ?_ ?_
  ·
   refine zc<|e_mv rfl<|zja rfl rfl (zka rfl) (fun hw1=> ?_) (fun hw1=> ?_)
   ·
    refine e_mv rfl<|e_p (zK rfl rfl)<|zk ?_
    exact zha () (show True from by first|trivial|omega|simp_all) ((.e rfl (congrArg Value.bool cbu) (.of rfl)):SubM _ _) (ho:=((.of [0,0,0] rfl):PickO _ _ _)) ((.of [0,1,2,3,4,5] rfl):SelR _ _ _)
   ·
    refine e_no<|e_p (zK rfl rfl)<|zk ?_
    exact zha () (show True from by first|trivial|omega|simp_all) ((.e rfl (congrArg Value.bool cbu) (.of rfl)):SubM _ _) (ho:=((.of [0,0,0] rfl):PickO _ _ _)) ((.of [0,1,2,3,4,5] rfl):SelR _ _ _)
  ·
   rintro ⟨⟩ -
   try dsimp only
   refine zT rfl (fun hw=> ?_) (fun hw=> ?_)
   ·
    have ha18:=yU hw.1
    have hb18:=yU hw.2
    have e8:(if (yf a).length≤2 then a else 0)=a:=by rw [if_pos hw.1]
    rw [e8]
    have e9:(if (yf b).length≤2 then b else 0)=b:=by rw [if_pos hw.2]
    rw [e9]
    refine zj<|zt<|zBa (X:=Nat×Nat) (fun x:Nat×Nat=>Nat.gcd x.1 x.2=Nat.gcd a b∧x.1<1000000000000000000∧x.2<1000000000000000000) (fun x=>[(9,.int .u64 ((x.2:Nat):Int)),(7,.int .u64 ((x.1:Nat):Int)),(6,.slice pb ((yf b).length) cb),(5,.slice pa ((yf a).length) ca),(4,ye (some ⟨b3,0,none⟩))]) (fun x=>[boxA b3 42 [wz.b,wz.l],boxA b2 42 [.bool t,.slice p2 n2 c2],boxA b1 42 [.bool s,.slice p1 n1 c1]]) (fun x=>[slF (rI .u32) pa ca (yf a),slF (rI .u32) pb cb (yf b),slF (rI .u32) p26 c27 (yf ((ym t l2).natAbs)),slF (rI .u32) p24 c25 (yf ((ym s l1).natAbs)),slF (rI .u32) p1 c1 l1,slF (rI .u32) p2 c2 l2]) (fun x:Nat×Nat=>x.2) (a,b) (show Nat.gcd a b=Nat.gcd a b∧a<1000000000000000000∧b<1000000000000000000 from by exact ⟨rfl,ha18,hb18⟩) ((.of rfl):SubM _ _) (ho:=((.of [0,0,0] rfl):PickO _ _ _)) ((.of [0,1,2,3,4,5] rfl):SelR _ _ _) ?_
    rintro ⟨q,r⟩ hJ
    replace hJ:Nat.gcd q r=Nat.gcd a b∧q<1000000000000000000∧r<1000000000000000000:=hJ
    try dsimp only
    obtain ⟨hgq,hq18,hr18⟩:=hJ
    have hmr:=Nat.mod_le q r
    refine zj<|zj<|zc<|e_mv rfl<|e_p (zbb rfl rfl)<|zk<|zg<|zT rfl (fun hy=> ?_) (fun hy=> ?_)
    ·
     refine zw<|zg<|zt<|zP (OW:=[]) (O:=[boxA b3 42 [wz.b,wz.l],boxA b2 42 [.bool t,.slice p2 n2 c2],boxA b1 42 [.bool s,.slice p1 n1 c1]]) 100000 mixed (.block (.then (.block (.then (.then (.block (.then (.block (.then .ret))))))))) kr<|e_dm 0 rfl rfl rfl<|e_dm 1 rfl rfl rfl<|e_dm 2 rfl rfl rfl<|e_pv 3 rfl rfl (znb (z:=(((q%r):Nat):Int)) rfl rfl om (remN om om))<|e_pv 4 rfl rfl (zh rfl)<|e_pv 5 rfl rfl (zh rfl)<|zN kr<|zI<|zwa (r,(q%r)) (show Nat.gcd r (q%r)=Nat.gcd a b∧r<1000000000000000000∧(q%r)<1000000000000000000 from by exact ⟨by rw [Big.gcd_rest,hgq],hr18,by omega⟩) (by exact Nat.mod_lt q om) ((.of rfl):SubM _ _) (ho:=((.of [0,0,0] rfl):PickO _ _ _)) ((.of [0,1,2,3,4,5] rfl):SelR _ _ _)
    ·
     have hrz:r=0:=by omega
     have hfin:q=Nat.gcd (ym s l1).natAbs (ym t l2).natAbs:=by rw [← hgc,←hgq,hrz,Nat.gcd_zero_right]
     refine zla<|zn<|zn<|zA<|zg<|zj<|zc<|e_mv rfl<|zG rfl rfl (.c rfl .n) ce122 (zMb (n0:=q) (hn0:=cbo)) (.n) ?_
     rintro ⟨p210,c211⟩ -
     dsimp only [aq,nq,cq]
     refine zG rfl rfl (.c rfl (.c rfl .n)) ce120 (zWa (s:=false) (a:=q) (p:=p210) (cap:=c211)) (.c (j:=0) rfl .n) ?_
     rintro ⟨p212,c213⟩ -
     dsimp only [aq,nq,cq]
     refine zl 0 rfl rfl rfl rfl rfl sz42 rfl (.t2 .nil) .z<|zk<|zg<|zS<|zu<|zda<|zu<|zda<|zu ?_
     exact zM Tryz.results112 (p212,c213) trivial (zr 0 ty42 rfl rfl (.t2 .nil)) (by rw [← hfin];rfl) (ho:=(.n:PickO _ _ _)) ((.e (j:=0) rfl (by rw [← hfin];rfl) .n):SelR _ _ _)
   ·
    refine zw<|zg<|zj<|zc<|e_mv rfl<|e_mv rfl<|zG rfl rfl (.c rfl (.c rfl .n)) ce130 (zHe (a:=a) (b:=b) (p1:=pa) (c1:=ca) (p2:=pb) (c2:=cb) (hb1:=cbo) (hb2:=cbo) (hb0:=cbo)) (.c (j:=0) rfl (.c (j:=1) rfl .n)) ?_
    rintro ⟨p314,c315,p416,c417⟩ -
    dsimp only [aq,nq,cq]
    refine e_mv rfl<|e_p (zy rfl rfl)<|e_p (zy rfl rfl)<|e_p (zh rfl)<|e_p (zh rfl)<|zk<|zg<|zc<|e_mv rfl<|e_mv rfl<|e_p (zh rfl)<|e_p (zh rfl)<|zk<|zI<|zwa (b,(a%b),pb,cb,p416,c417) (show Nat.gcd b (a%b)=Nat.gcd (ym s l1).natAbs (ym t l2).natAbs∧(yf b).length≤1099511627776∧(yf (a%b)).length≤1099511627776 from by exact ⟨by rw [Big.gcd_rest,hgc],hbb,Nat.le_trans (yP (Nat.le_of_lt (Nat.mod_lt a hb0))) hbb⟩) (by exact Nat.mod_lt a hb0) ((.e rfl (by first|rfl|(congr 1;omega)|simp_all) (.c rfl (.c rfl .n))):SubM _ _) (ho:=((.of [0,0,0] rfl):PickO _ _ _)) ((.c (j:=3) rfl (.e (j:=1) rfl (by first|rfl|simp_all) (.of [4,5,6,7] rfl))):SelR _ _ _)
 ·
  have hbz:b=0:=yJ.1 om
  have hfin:a=Nat.gcd (ym s l1).natAbs (ym t l2).natAbs:=by rw [← hgc,hbz,Nat.gcd_zero_right]
  refine zla<|zn<|zn<|zA<|zg<|zj<|zc<|e_mv rfl<|zG rfl rfl (.c rfl .n) ce131 (zOd (a:=a) (p:=pa) (cap:=ca) (hb:=cbo)) (.c (j:=0) rfl .n) ?_
  rintro ⟨p218,c219⟩ -
  dsimp only [aq,nq,cq]
  refine zG rfl rfl (.c rfl (.c rfl .n)) ce120 (zWa (s:=false) (a:=a) (p:=p218) (cap:=c219)) (.c (j:=0) rfl .n) ?_
  rintro ⟨p220,c221⟩ -
  dsimp only [aq,nq,cq]
  refine zl 0 rfl rfl rfl rfl rfl sz42 rfl (.t2 .nil) .z<|zk<|zg<|zS ?_
  exact zM Tryz.results112 (p220,c221) trivial (zr 0 ty42 rfl rfl (.t2 .nil)) (by rw [← hfin];rfl) (ho:=(.n:PickO _ _ _)) ((.e (j:=0) rfl (by rw [← hfin];rfl) .n):SelR _ _ _)
theorem zLf {x1:Int} {x2:Int} {p1:Option Addr} {c1:Nat} {p2:Option Addr} {c2:Nat} (hb1:yx x1≤1099511627776) (hb2:yx x2≤1099511627776):Con yl 112 [.agg #[.bool (decide ((x1)<0)),.slice (p1) ((yf ((x1).natAbs)).length) (c1)],.agg #[.bool (decide ((x2)<0)),.slice (p2) ((yf ((x2).natAbs)).length) (c2)]] [] [slF (rI .u32) (p1) (c1) (yf ((x1).natAbs)),slF (rI .u32) (p2) (c2) (yf ((x2).natAbs))] (Y:=(Option Addr)×(Nat)) (fun y=>True) (fun y=> .agg #[.bool (decide ((((Nat.gcd x1.natAbs x2.natAbs:Nat):Int))<0)),.slice (y.1) ((yf ((((Nat.gcd x1.natAbs x2.natAbs:Nat):Int)).natAbs)).length) (y.2)]) (fun y=>[]) (fun y=>[slF (rI .u32) (y.1) (y.2) (yf ((((Nat.gcd x1.natAbs x2.natAbs:Nat):Int)).natAbs))]):=by
  have h:= @zof (decide ((x1)<0)) p1 (yf (x1).natAbs).length c1 (yf (x1).natAbs) (decide ((x2)<0)) p2 (yf (x2).natAbs).length c2 (yf (x2).natAbs) rfl rfl (by rw [yu];exact hb1) (by rw [yu];exact hb2)
  rw [yu,yu] at h
  exact h
theorem zIe {w1:Wd} {w2:Wd} {x1:Int} {x2:Int} (hb1:yx x1≤1099511627776) (hb2:yx x2≤1099511627776):Con yl 112 [.agg #[w1.b,w1.l],.agg #[w2.b,w2.l]] [] [zF w1 (x1),zF w2 (x2)] (Y:=(Wd)) (fun y=>True) (fun y=> .agg #[y.b,y.l]) (fun y=>[]) (fun y=>[zF y (((Nat.gcd x1.natAbs x2.natAbs:Nat):Int))]):=by
  exact zkc (zvc (fun p1 c1 p2 c2=>zLf hb1 hb2))
end Go.Proofs.YtjeahiahjgifgaaGreatDoor.Sp
namespace Go.Proofs.YtjeahiahjgifgaaGreatDoor.Sp
open Go
set_option linter.unusedVariables false
set_option maxRecDepth 100000
set_option maxHeartbeats 8000000
theorem zwe {x1:Int} {x2:Int} {p1:Option Addr} {c1:Nat} {p2:Option Addr} {c2:Nat} (hb1:yx x1≤1099511627776) (hb2:yx x2≤1099511627776) (hy:x2≠0):Con yl 124 [.agg #[.bool (decide (x1<0)),.slice p1 ((yf ((x1).natAbs)).length) c1],.agg #[.bool (decide (x2<0)),.slice p2 ((yf ((x2).natAbs)).length) c2]] [] [slF (rI .u32) p1 c1 (yf ((x1).natAbs)),slF (rI .u32) p2 c2 (yf ((x2).natAbs))] (Y:=(Option Addr)×Nat×(Option Addr)×Nat) (fun y=>True) (fun y=> .tuple #[.agg #[.bool (decide ((Big.fq x1 x2)<0)),.slice (y.1) ((yf ((Big.fq x1 x2).natAbs)).length) (y.2.1)],.agg #[.bool (decide ((Big.fr x1 x2)<0)),.slice (y.2.2.1) ((yf ((Big.fr x1 x2).natAbs)).length) (y.2.2.2)],yc yd 0]) (fun y=>[]) (fun y=>[slF (rI .u32) (y.1) (y.2.1) (yf ((Big.fq x1 x2).natAbs)),slF (rI .u32) (y.2.2.1) (y.2.2.2) (yf ((Big.fr x1 x2).natAbs))]):=by
 refine zv Tryz.func124 rfl rfl rfl (fun c=> ?_)
 show RunC _ _ _ _ _ [(0,.agg #[.bool (decide (x1<0)),.slice p1 ((yf ((x1).natAbs)).length) c1]),(1,.agg #[.bool (decide (x2<0)),.slice p2 ((yf ((x2).natAbs)).length) c2])] [] [slF (rI .u32) p1 c1 (yf ((x1).natAbs)),slF (rI .u32) p2 c2 (yf ((x2).natAbs))]
 refine zqa 0 rfl (fun hL0=> ?_)
 refine zqa 1 rfl (fun hL1=> ?_)
 unfold yx at hb1 hb2
 have hd1:=Nat.div_le_self x1.natAbs x2.natAbs
 have hd2:=Nat.mod_lt x1.natAbs (show 0<x2.natAbs by omega)
 have hl1:=yP hd1
 have hl2:=yP (Nat.le_of_lt hd2)
 refine zj<|zc<|zE rfl rfl (zZ rfl rfl) (fun b1=> ?_)
 refine zE rfl rfl (zZ rfl rfl) (fun b2=> ?_)
 refine zE rfl rfl (zo zr42 rfl) (fun b3=> ?_)
 refine zE rfl rfl (zo zr42 rfl) (fun b4=> ?_)
 refine e_p (zh rfl)<|zk<|zg<|zj<|zP (OW:=[]) (O:=[boxA b4 42 [wz.b,wz.l],boxA b3 42 [wz.b,wz.l],boxA b2 42 [.bool (decide (x2<0)),.slice p2 ((yf ((x2).natAbs)).length) c2],boxA b1 42 [.bool (decide (x1<0)),.slice p1 ((yf ((x1).natAbs)).length) c1]]) 100000 mixed (.then .ret) kr<|e_u 0 rfl rfl (zd 3 ty42 rfl rfl (.t2 .nil))<|e_u 2 rfl rfl (zd 2 ty42 rfl rfl (.t2 .nil))<|e_one 1 (zm rfl rfl rfl rfl (.c rfl .n) ce119 (zSb (z:=x1) (p:=p1) (cap:=c1)) (.c (j:=0) rfl .n) ?_)
 rintro ⟨p25,c26⟩ -
 dsimp only [aq,nq,cq]
 refine e_one 3 (zm rfl rfl rfl rfl (.c rfl .n) ce119 (zSb (z:=x2) (p:=p2) (cap:=c2)) (.c (j:=2) rfl .n) ?_)
 rintro ⟨p27,c28⟩ -
 dsimp only [aq,nq,cq]
 refine e_pv 4 rfl rfl (zh rfl)<|e_pv 5 rfl rfl (zh rfl)<|zN kr<|zg<|zj<|zj<|zc<|e_mv rfl<|e_p (zfa yg rfl)<|e_p (zOa rfl rfl)<|zk<|zg<|zT rfl (fun h9=> ?_) (fun h9=> ?_)
 ·
  exact absurd (yJ.1 (show (yf x2.natAbs).length=0 by omega)) om
 ·
  refine zw<|zg<|zj<|zc<|e_mv rfl<|e_mv rfl<|zG rfl rfl (.c rfl (.c rfl .n)) ce130 (zHe (a:=(x1).natAbs) (b:=(x2).natAbs) (p1:=p25) (c1:=c26) (p2:=p27) (c2:=c28) (hb1:=by first|rfl|assumption|omega|(decide +kernel)) (hb2:=by first|rfl|assumption|omega|(decide +kernel)) (hb0:=by first|rfl|assumption|omega|(decide +kernel))) (.c (j:=1) rfl (.c (j:=0) rfl .n)) ?_
  rintro ⟨p310,c311,p412,c413⟩ -
  dsimp only [aq,nq,cq]
  refine e_mv rfl<|e_p (zy rfl rfl)<|e_p (zy rfl rfl)<|e_p (zh rfl)<|e_p (zh rfl)<|zk<|zg<|zj<|zc<|e_mv rfl<|zG rfl rfl (.c rfl .n) ce131 (zOd (a:=((x1).natAbs)%((x2).natAbs)) (p:=p412) (cap:=c413) (hb:=by first|rfl|assumption|omega|(decide +kernel))) (.c (j:=1) rfl .n) ?_
  rintro ⟨p214,c215⟩ -
  dsimp only [aq,nq,cq]
  refine e_p (zh rfl)<|zk<|zg<|zj<|zj<|zc<|e_mv rfl<|e_p (zfa yg rfl)<|e_p (zbb rfl rfl)<|zja rfl rfl (zka rfl) (fun hpos=> ?_) (fun hpos=> ?_)
  ·
   refine e_p (zf yn rfl sz4 rfl rfl)<|e_ru (ze 3 ty4 rfl rfl rfl)<|e_p (zf yn rfl sz4 rfl rfl)<|e_ru (ze 2 ty4 rfl rfl rfl)<|e_p (zgb yE rfl rfl)<|e_p (zK rfl rfl)<|zk<|zg<|zT rfl (fun hadj=> ?_) (fun hadj=> ?_)
   ·
    have hsg:(decide (decide (x1<0)≠decide (x2<0)))=true:=decide_eq_true hadj
    have hr0:x1.natAbs%x2.natAbs≠0:=fun e=>by have h9:=hpos;rw [e,Big.digs_zero] at h9;exact absurd h9 dd
    refine zc<|e_mv rfl<|zDa rfl rfl (zR (enc:=fun z:Int=>[.int .u32 z]) (ok:=InK .u32) (h1:=fun _=>rfl) (h2:=fun _=>rfl) (k:=1) yg inf131 rfl dd dd dd (.c (x:=1) rfl rfl (fun _ _=>by exact zL.2 om) .n)) (fun b16 _=> ?_)
    refine zia 0 rfl .z ?_
    have e17:[1]=yf 1:=by exact (Big.digs_one (s:=1) dd dd).symm
    rw [e17]
    have e18:(.slice (some ⟨b16,0,none⟩) 1 1:Value)= .slice (some ⟨b16,0,none⟩) ((yf 1).length) 1:=by rfl
    rw [e18]
    refine zG rfl rfl (.c rfl (.c rfl .n)) ce136 (zde (a:=((x1).natAbs) / ((x2).natAbs)) (b:=1) (p1:=p310) (c1:=c311) (p2:=some ⟨b16,0,none⟩) (c2:=1) (hb1:=by first|rfl|assumption|omega|(decide +kernel)) (hb2:=by first|rfl|assumption|omega|(decide +kernel))) (.c (j:=2) rfl (.c (j:=0) rfl .n)) ?_
    rintro ⟨p319,c320⟩ -
    dsimp only [aq,nq,cq]
    refine e_mv rfl<|e_mv rfl<|zG rfl rfl (.c rfl (.c rfl .n)) ce137 (zfd (a:=(x2).natAbs) (b:=(((x1).natAbs)%((x2).natAbs))) (p1:=p27) (c1:=c28) (p2:=p214) (c2:=c215) (hb1:=by first|rfl|assumption|omega|(decide +kernel)) (hb2:=by first|rfl|assumption|omega|(decide +kernel)) (hab:=by first|rfl|assumption|omega|(decide +kernel))) (.c (j:=5) rfl (.c (j:=2) rfl .n)) ?_
    rintro ⟨p321,c322⟩ -
    dsimp only [aq,nq,cq]
    refine e_p (zh rfl)<|e_p (zh rfl)<|zk<|zg<|zj<|zaa (.c (i:=2) rfl (.c (i:=1) rfl (.c (i:=0) rfl (.c (i:=0) rfl (.c (i:=0) rfl .n)))))<|zP (OW:=[boxA b3 42 [wz.b,wz.l],boxA b4 42 [wz.b,wz.l]]) (O:=[emA,boxA b2 42 [.bool (decide (x2<0)),.slice p2 ((yf ((x2).natAbs)).length) c2],boxA b1 42 [.bool (decide (x1<0)),.slice p1 ((yf ((x1).natAbs)).length) c1]]) 11 mixed (.then .ret) kr<|e_pv 0 rfl rfl (zf yn rfl sz4 rfl rfl)<|e_uw 1 rfl rfl (ze 4 ty4 rfl rfl rfl)<|e_pv 2 rfl rfl (zf yn rfl sz4 rfl rfl)<|e_uw 3 rfl rfl (ze 3 ty4 rfl rfl rfl)<|e_pv 4 rfl rfl (zgb yE rfl rfl)<|e_dm 5 rfl rfl rfl<|e_pv 7 rfl rfl (zf yn rfl sz4 rfl rfl)<|e_uw 8 rfl rfl (ze 3 ty4 rfl rfl rfl)<|e_dm 9 rfl rfl rfl<|e_one 6 (zm rfl rfl rfl rfl (.c rfl (.c rfl .n)) ce120 (zWa (s:=decide (decide (x1<0)≠decide (x2<0))) (a:=(((x1).natAbs) / ((x2).natAbs))+1) (p:=p319) (cap:=c320)) (.c (j:=1) rfl .n) ?_)
    rintro ⟨p223,c224⟩ -
    dsimp only [aq,nq,cq]
    refine e_one 10 (zm rfl rfl rfl rfl (.c rfl (.c rfl .n)) ce120 (zWa (s:=decide (x2<0)) (a:=((x2).natAbs) - (((x1).natAbs)%((x2).natAbs))) (p:=p321) (cap:=c322)) (.c (j:=1) rfl .n) ?_)
    rintro ⟨p225,c226⟩ -
    dsimp only [aq,nq,cq]
    refine e_one 11 (zp kr rfl rfl rfl rfl rfl sz42 rfl (.t2 .nil) ?_)
    refine zhb (zoa (i:=1) rfl)<|e_one 12 (zp kr rfl rfl rfl rfl rfl sz42 rfl (.t2 .nil) ?_)
    refine e_pv 13 rfl rfl (zh rfl)<|zN kr<|zg<|zS ?_
    have hz1:yz (decide (decide (x1<0)≠decide (x2<0))) ((x1.natAbs / x2.natAbs+1:Nat):Int)=Big.fq x1 x2:=by rw [hsg];exact (Big.fq_odd hy hadj hr0).1
    have hz2:yz (decide (x2<0)) ((x2.natAbs - x1.natAbs%x2.natAbs:Nat):Int)=Big.fr x1 x2:=(Big.fq_odd hy hadj hr0).2
    exact zsd Tryz.results124 (p223,c224,p225,c226) trivial (zr 1 ty42 rfl rfl (.t2 .nil)) (zr 0 ty42 rfl rfl (.t2 .nil)) (zC rfl) (by rw [hz1,hz2]) (ho:=(.n:PickO _ _ _)) ((.e (j:=1) rfl (by rw [hz1]) (.e (j:=0) rfl (by rw [hz2]) .n)):SelR _ _ _)
   ·
    refine zw<|zg<|zj<|zaa (.c (i:=1) rfl (.c (i:=0) rfl (.c (i:=0) rfl (.c (i:=0) rfl .n))))<|zP (OW:=[boxA b3 42 [wz.b,wz.l],boxA b4 42 [wz.b,wz.l]]) (O:=[boxA b2 42 [.bool (decide (x2<0)),.slice p2 ((yf ((x2).natAbs)).length) c2],boxA b1 42 [.bool (decide (x1<0)),.slice p1 ((yf ((x1).natAbs)).length) c1]]) 11 mixed (.then .ret) kr<|e_pv 0 rfl rfl (zf yn rfl sz4 rfl rfl)<|e_uw 1 rfl rfl (ze 3 ty4 rfl rfl rfl)<|e_pv 2 rfl rfl (zf yn rfl sz4 rfl rfl)<|e_uw 3 rfl rfl (ze 2 ty4 rfl rfl rfl)<|e_pv 4 rfl rfl (zgb yE rfl rfl)<|e_dm 5 rfl rfl rfl<|e_pv 7 rfl rfl (zf yn rfl sz4 rfl rfl)<|e_uw 8 rfl rfl (ze 2 ty4 rfl rfl rfl)<|e_dm 9 rfl rfl rfl<|e_one 6 (zm rfl rfl rfl rfl (.c rfl (.c rfl .n)) ce120 (zWa (s:=decide (decide (x1<0)≠decide (x2<0))) (a:=((x1).natAbs) / ((x2).natAbs)) (p:=p310) (cap:=c311)) (.c (j:=1) rfl .n) ?_)
    rintro ⟨p227,c228⟩ -
    dsimp only [aq,nq,cq]
    refine e_one 10 (zm rfl rfl rfl rfl (.c rfl (.c rfl .n)) ce120 (zWa (s:=decide (x2<0)) (a:=(((x1).natAbs)%((x2).natAbs))) (p:=p214) (cap:=c215)) (.c (j:=1) rfl .n) ?_)
    rintro ⟨p229,c230⟩ -
    dsimp only [aq,nq,cq]
    refine e_one 11 (zp kr rfl rfl rfl rfl rfl sz42 rfl (.t2 .nil) ?_)
    refine zhb (zoa (i:=1) rfl)<|e_one 12 (zp kr rfl rfl rfl rfl rfl sz42 rfl (.t2 .nil) ?_)
    refine e_pv 13 rfl rfl (zh rfl)<|zN kr<|zg<|zS ?_
    have hsg:(decide (decide (x1<0)≠decide (x2<0)))=false:=decide_eq_false hadj
    have hz1:yz (decide (decide (x1<0)≠decide (x2<0))) ((x1.natAbs / x2.natAbs:Nat):Int)=Big.fq x1 x2:=by rw [hsg];exact (Big.fq_same hy (Decidable.not_not.1 hadj)).1
    have hz2:yz (decide (x2<0)) ((x1.natAbs%x2.natAbs:Nat):Int)=Big.fr x1 x2:=(Big.fq_same hy (Decidable.not_not.1 hadj)).2
    exact zsd Tryz.results124 (p227,c228,p229,c230) trivial (zr 1 ty42 rfl rfl (.t2 .nil)) (zr 0 ty42 rfl rfl (.t2 .nil)) (zC rfl) (by rw [hz1,hz2]) (ho:=(.n:PickO _ _ _)) ((.e (j:=1) rfl (by rw [hz1]) (.e (j:=0) rfl (by rw [hz2]) .n)):SelR _ _ _)
  ·
   refine e_no<|e_no<|e_no<|e_no<|e_no<|e_p (zK rfl rfl)<|zk<|zg<|zta rfl rfl<|zw<|zg<|zj<|zaa (.c (i:=1) rfl (.c (i:=0) rfl (.c (i:=0) rfl (.c (i:=0) rfl .n))))<|zP (OW:=[boxA b3 42 [wz.b,wz.l],boxA b4 42 [wz.b,wz.l]]) (O:=[boxA b2 42 [.bool (decide (x2<0)),.slice p2 ((yf ((x2).natAbs)).length) c2],boxA b1 42 [.bool (decide (x1<0)),.slice p1 ((yf ((x1).natAbs)).length) c1]]) 11 mixed (.then .ret) kr<|e_pv 0 rfl rfl (zf yn rfl sz4 rfl rfl)<|e_uw 1 rfl rfl (ze 3 ty4 rfl rfl rfl)<|e_pv 2 rfl rfl (zf yn rfl sz4 rfl rfl)<|e_uw 3 rfl rfl (ze 2 ty4 rfl rfl rfl)<|e_pv 4 rfl rfl (zgb yE rfl rfl)<|e_dm 5 rfl rfl rfl<|e_pv 7 rfl rfl (zf yn rfl sz4 rfl rfl)<|e_uw 8 rfl rfl (ze 2 ty4 rfl rfl rfl)<|e_dm 9 rfl rfl rfl<|e_one 6 (zm rfl rfl rfl rfl (.c rfl (.c rfl .n)) ce120 (zWa (s:=decide (decide (x1<0)≠decide (x2<0))) (a:=((x1).natAbs) / ((x2).natAbs)) (p:=p310) (cap:=c311)) (.c (j:=1) rfl .n) ?_)
   rintro ⟨p231,c232⟩ -
   dsimp only [aq,nq,cq]
   refine e_one 10 (zm rfl rfl rfl rfl (.c rfl (.c rfl .n)) ce120 (zWa (s:=decide (x2<0)) (a:=(((x1).natAbs)%((x2).natAbs))) (p:=p214) (cap:=c215)) (.c (j:=1) rfl .n) ?_)
   rintro ⟨p233,c234⟩ -
   dsimp only [aq,nq,cq]
   refine e_one 11 (zp kr rfl rfl rfl rfl rfl sz42 rfl (.t2 .nil) ?_)
   refine zhb (zoa (i:=1) rfl)<|e_one 12 (zp kr rfl rfl rfl rfl rfl sz42 rfl (.t2 .nil) ?_)
   refine e_pv 13 rfl rfl (zh rfl)<|zN kr<|zg<|zS ?_
   have hr0:x1.natAbs%x2.natAbs=0:=yJ.1 om
   have hz:yz (decide (decide (x1<0)≠decide (x2<0))) ((x1.natAbs / x2.natAbs:Nat):Int)=Big.fq x1 x2∧yz (decide (x2<0)) ((x1.natAbs%x2.natAbs:Nat):Int)=Big.fr x1 x2:=by by_cases h:decide (x1<0)=decide (x2<0);rw [decide_eq_false (not_not_intro h)];exact Big.fq_same hy h;rw [decide_eq_true h];exact Big.fq_even hy h hr0
   exact zsd Tryz.results124 (p231,c232,p233,c234) trivial (zr 1 ty42 rfl rfl (.t2 .nil)) (zr 0 ty42 rfl rfl (.t2 .nil)) (zC rfl) (by rw [hz.1,hz.2]) (ho:=(.n:PickO _ _ _)) ((.e (j:=1) rfl (by rw [hz.1]) (.e (j:=0) rfl (by rw [hz.2]) .n)):SelR _ _ _)
theorem zTb {w1:Wd} {w2:Wd} {x1:Int} {x2:Int} (hb1:yx x1≤1099511627776) (hb2:yx x2≤1099511627776) (hy:x2≠0):Con yl 124 [.agg #[w1.b,w1.l],.agg #[w2.b,w2.l]] [] [zF w1 (x1),zF w2 (x2)] (Y:=(Wd)×(Wd)) (fun y=>True) (fun y=> .tuple #[.agg #[y.1.b,y.1.l],.agg #[y.2.b,y.2.l],yc yd (0)]) (fun y=>[]) (fun y=>[zF y.1 (Big.fq x1 x2),zF y.2 (Big.fr x1 x2)]):=by
  exact zmf (zvc (fun p1 c1 p2 c2=>zwe hb1 hb2 hy))
theorem zRc {x1:Int} {x2:Int} {p1:Option Addr} {c1:Nat} {p2:Option Addr} {c2:Nat}:Con yl 102 [.agg #[.bool (decide (x1<0)),.slice p1 ((yf ((x1).natAbs)).length) c1],.agg #[.bool (decide (x2<0)),.slice p2 ((yf ((x2).natAbs)).length) c2]] [] [slF (rI .u32) p1 c1 (yf ((x1).natAbs)),slF (rI .u32) p2 c2 (yf ((x2).natAbs))] (Y:=Unit) (fun y=>True) (fun y=> yc yd (yI x1 x2)) (fun y=>[]) (fun y=>[]):=by
 refine zv Tryz.func102 rfl rfl rfl (fun c=> ?_)
 show RunC _ _ _ _ _ [(0,.agg #[.bool (decide (x1<0)),.slice p1 ((yf ((x1).natAbs)).length) c1]),(1,.agg #[.bool (decide (x2<0)),.slice p2 ((yf ((x2).natAbs)).length) c2])] [] [slF (rI .u32) p1 c1 (yf ((x1).natAbs)),slF (rI .u32) p2 c2 (yf ((x2).natAbs))]
 refine zqa 0 rfl (fun hL0=> ?_)
 refine zqa 1 rfl (fun hL1=> ?_)
 have hcb:=Big.cmp_b (x1.natAbs:Int) (x2.natAbs:Int)
 refine zj<|zc<|zE rfl rfl (zZ rfl rfl) (fun b1=> ?_)
 refine zE rfl rfl (zZ rfl rfl) (fun b2=> ?_)
 refine e_p (zh rfl)<|zk<|zg<|zj<|zj<|zP (OW:=[]) (O:=[boxA b2 42 [.bool (decide (x2<0)),.slice p2 ((yf ((x2).natAbs)).length) c2],boxA b1 42 [.bool (decide (x1<0)),.slice p1 ((yf ((x1).natAbs)).length) c1]]) 100000 mixed (.then (.then .ret)) kr<|e_u 0 rfl rfl (zd 1 ty42 rfl rfl (.t2 .nil))<|e_u 2 rfl rfl (zd 0 ty42 rfl rfl (.t2 .nil))<|e_one 1 (zLa rfl rfl rfl rfl (.c rfl .n) ce105 (zgd (z:=x1) (p:=p1) (cap:=c1)) (.c (j:=0) rfl .n) ?_)
 refine e_one 3 (zLa rfl rfl rfl rfl (.c rfl .n) ce105 (zgd (z:=x2) (p:=p2) (cap:=c2)) (.c (j:=1) rfl .n) ?_)
 refine e_pv 4 rfl rfl (zh rfl)<|e_pv 5 rfl rfl (zh rfl)<|zN kr<|zg<|zj<|zc<|e_mv rfl<|e_mv rfl<|e_p (zAb rfl rfl)<|zk<|zg<|zT rfl (fun hs=> ?_) (fun hs=> ?_)
 ·
  refine zj<|zc<|e_mv rfl<|e_mv rfl<|zU rfl rfl (.c rfl (.c rfl .n)) ce117 (zed (u:=(x1).sign) (v:=(x2).sign)) (.n)<|e_p (zh rfl)<|zk<|zg<|zS<|zu ?_
  exact zM Tryz.results102 () trivial (zC rfl) (by rw [Big.cmp_signs hs]) (ho:=(.n:PickO _ _ _)) (.n:SelR _ _ _)
 ·
  refine zw<|zg<|zj<|zP (OW:=[]) (O:=[boxA b2 42 [.bool (decide (x2<0)),.slice p2 ((yf ((x2).natAbs)).length) c2],boxA b1 42 [.bool (decide (x1<0)),.slice p1 ((yf ((x1).natAbs)).length) c1]]) 100000 mixed (.then .ret) kr<|e_u 0 rfl rfl (zd 1 ty42 rfl rfl (.t2 .nil))<|e_u 2 rfl rfl (zd 0 ty42 rfl rfl (.t2 .nil))<|e_one 1 (zm rfl rfl rfl rfl (.c rfl .n) ce119 (zSb (z:=x1) (p:=p1) (cap:=c1)) (.c (j:=0) rfl .n) ?_)
  rintro ⟨p23,c24⟩ -
  dsimp only [aq,nq,cq]
  refine e_one 3 (zm rfl rfl rfl rfl (.c rfl .n) ce119 (zSb (z:=x2) (p:=p2) (cap:=c2)) (.c (j:=2) rfl .n) ?_)
  rintro ⟨p25,c26⟩ -
  dsimp only [aq,nq,cq]
  refine e_one 4 (zLa rfl rfl rfl rfl (.c rfl (.c rfl .n)) ce118 (znc (a:=(x1).natAbs) (b:=(x2).natAbs) (p1:=p23) (c1:=c24) (p2:=p25) (c2:=c26)) (.c (j:=1) rfl (.c (j:=0) rfl .n)) ?_)
  refine e_pv 5 rfl rfl (zh rfl)<|zN kr<|zg<|zj<|zj<|zc<|e_p (zf yn rfl sz4 rfl rfl)<|e_ru (ze 1 ty4 rfl rfl rfl)<|zk<|zg<|zPa rfl (fun hn=> ?_) (fun hn=> ?_)
  ·
   refine zj<|zc<|e_mv rfl<|e_p (zgc (z:=(-(yI (((x1).natAbs):Int) (((x2).natAbs):Int)))) rfl (w64 om))<|e_p (zh rfl)<|zk<|zg<|zS<|zu ?_
   exact zM Tryz.results102 () trivial (zC rfl) (by rw [Big.cmp_neg hs (by simpa using hn)]) (ho:=(.n:PickO _ _ _)) (.n:SelR _ _ _)
  ·
   refine zw<|zg<|zj<|zc<|e_mv rfl<|e_p (zh rfl)<|zk<|zg<|zS ?_
   exact zM Tryz.results102 () trivial (zC rfl) (by rw [Big.cmp_pos hs (by simpa using hn)]) (ho:=(.n:PickO _ _ _)) (.n:SelR _ _ _)
theorem zge {w1:Wd} {w2:Wd} {x1:Int} {x2:Int}:Con yl 102 [.agg #[w1.b,w1.l],.agg #[w2.b,w2.l]] [] [zF w1 (x1),zF w2 (x2)] (Y:=Unit) (fun y=>True) (fun y=> yc yd (yI x1 x2)) (fun y=>[]) (fun y=>[]):=by
  exact zvc (fun p1 c1 p2 c2=>zRc)
theorem zxe {s:Bool} {p:Option Addr} {n:Nat} {cap:Nat} {l:List Int} (hn:l.length=n) (hln:yx (ym s l)≤1099511627776):Con yl 123 [.agg #[.bool s,.slice p n cap]] [] [slF (rI .u32) p cap l] (Y:=(Option Addr)×Nat) (fun y=>True) (fun y=> .agg #[.bool (decide ((- ym s l)<0)),.slice (y.1) ((yf ((- ym s l).natAbs)).length) (y.2)]) (fun y=>[]) (fun y=>[slF (rI .u32) (y.1) (y.2) (yf ((- ym s l).natAbs))]):=by
 refine zv Tryz.func123 rfl rfl rfl (fun c=> ?_)
 show RunC _ _ _ _ _ [(0,.agg #[.bool s,.slice p n cap])] [] [slF (rI .u32) p cap l]
 refine zqa 0 rfl (fun hL0=> ?_)
 refine zfb 0 rfl (fun hE0=> ?_)
 have hnn:yO l:=fun g hg=>(zL.1 (hE0 g hg)).1
 unfold yx at hln
 refine zj<|zc<|zE rfl rfl (zZ rfl rfl) (fun b1=> ?_)
 refine zE rfl rfl (zo zr42 rfl) (fun b2=> ?_)
 refine zk<|zg<|zj<|zP (OW:=[boxA b2 42 [wz.b,wz.l]]) (O:=[boxA b1 42 [.bool s,.slice p n cap]]) 7 mixed (.then .ret) kr<|e_pv 0 rfl rfl (zf yn rfl sz4 rfl rfl)<|e_uw 1 rfl rfl (ze 1 ty4 rfl rfl rfl)<|e_pv 2 rfl rfl (zhc rfl)<|e_uw 3 rfl rfl (zd 1 ty42 rfl rfl (.t2 .nil))<|e_one 4 (zm rfl rfl rfl rfl (.c rfl .n) ce119 (zlb (s:=s) (p:=p) (n:=n) (cap:=cap) (l:=l) (hn:=ass)) (.c (j:=0) rfl .n) ?_)
 rintro ⟨p23,c24⟩ -
 dsimp only [aq,nq,cq]
 refine e_one 5 (zm rfl rfl rfl rfl (.c rfl .n) ce131 (zOd (a:=(ym s l).natAbs) (p:=p23) (cap:=c24) (hb:=cbb)) (.c (j:=0) rfl .n) ?_)
 rintro ⟨p25,c26⟩ -
 dsimp only [aq,nq,cq]
 refine e_one 6 (zm rfl rfl rfl rfl (.c rfl (.c rfl .n)) ce120 (zWa (s:= !s) (a:=((ym s l).natAbs)) (p:=p25) (cap:=c26)) (.c (j:=0) rfl .n) ?_)
 rintro ⟨p27,c28⟩ -
 dsimp only [aq,nq,cq]
 refine e_one 7 (zp kr rfl rfl rfl rfl rfl sz42 rfl (.t2 .nil) ?_)
 refine zN kr<|zg<|zS ?_
 have hz:yz (!s) ((ym s l).natAbs:Int)= - ym s l:=by rw [Big.sg_not,yT hnn]
 exact zM Tryz.results123 (p27,c28) trivial (zr 0 ty42 rfl rfl (.t2 .nil)) (by rw [hz]) (ho:=(.n:PickO _ _ _)) ((.e (j:=0) rfl (by rw [hz]) .n):SelR _ _ _)
theorem zPd {z:Int} {p:Option Addr} {cap:Nat} (hln:yx z≤1099511627776):Con yl 123 [.agg #[.bool (decide ((z)<0)),.slice (p) ((yf ((z).natAbs)).length) (cap)]] [] [slF (rI .u32) (p) (cap) (yf ((z).natAbs))] (Y:=(Option Addr)×(Nat)) (fun y=>True) (fun y=> .agg #[.bool (decide ((- z)<0)),.slice (y.1) ((yf ((- z).natAbs)).length) (y.2)]) (fun y=>[]) (fun y=>[slF (rI .u32) (y.1) (y.2) (yf ((- z).natAbs))]):=by
  have h:= @zxe (decide ((z)<0)) p (yf (z).natAbs).length cap (yf (z).natAbs) rfl (by rw [yu];exact hln)
  rw [yu] at h
  exact h
theorem zQd {w1:Wd} {x1:Int} (hln:yx x1≤1099511627776):Con yl 123 [.agg #[w1.b,w1.l]] [] [zF w1 (x1)] (Y:=(Wd)) (fun y=>True) (fun y=> .agg #[y.b,y.l]) (fun y=>[]) (fun y=>[zF y (- x1)]):=by
  exact zkc (zae (fun p c=>zPd hln))
end Go.Proofs.YtjeahiahjgifgaaGreatDoor.Sp
namespace Go.Proofs.YtjeahiahjgifgaaGreatDoor.Sp
open Go
set_option linter.unusedVariables false
set_option maxRecDepth 100000
set_option maxHeartbeats 8000000
theorem zyd {s:Bool} {p1:Option Addr} {n1:Nat} {c1:Nat} {l1:List Int} {t:Bool} {p2:Option Addr} {n2:Nat} {c2:Nat} {l2:List Int} (hn1:l1.length=n1) (hn2:l2.length=n2) (hm1:n1≤1048576) (hm2:n2≤1048576):Con yl 97 [.agg #[.bool s,.slice p1 n1 c1,.bool t,.slice p2 n2 c2]] [] [slF (rI .u32) p1 c1 l1,slF (rI .u32) p2 c2 l2] (Y:=Unit) (fun y=>True) (fun y=> .bool (decide (Big.qok ((s,l1),(t,l2))))) (fun y=>[]) (fun y=>[]):=by
 refine zv Tryz.func97 rfl rfl rfl (fun c=> ?_)
 show RunC _ _ _ _ _ [(0,.agg #[.bool s,.slice p1 n1 c1,.bool t,.slice p2 n2 c2])] [] [slF (rI .u32) p1 c1 l1,slF (rI .u32) p2 c2 l2]
 refine zqa 0 rfl (fun hL0=> ?_)
 refine zfb 0 rfl (fun hE0=> ?_)
 refine zqa 1 rfl (fun hL1=> ?_)
 refine zfb 1 rfl (fun hE1=> ?_)
 have hnn1:yO l1:=fun g hg=>(zL.1 (hE0 g hg)).1
 have hnn2:yO l2:=fun g hg=>(zL.1 (hE1 g hg)).1
 have hb1:yx (ym s l1)≤n1:=by have:=Big.zpb (s:=s) hnn1;omega
 have hb2:yx (ym t l2)≤n2:=by have:=Big.zpb (s:=t) hnn2;omega
 refine zj<|zc<|zE rfl rfl (zZ rfl rfl) (fun b1=> ?_)
 refine e_p (zh rfl)<|zk<|zg<|zj<|zAa (X:=Unit) (fun x=>True) (fun x=>[(18,.bool (decide (¬(Big.canon s l1∧Big.canon t l2∧0<ym t l2)))),(2,.bool false),(1,ye (some ⟨b1,0,none⟩))]) (fun x=>[boxA b1 44 [.bool s,.slice p1 n1 c1,.bool t,.slice p2 n2 c2]]) (fun x=>[slF (rI .u32) p1 c1 l1,slF (rI .u32) p2 c2 l2]) ?_ ?_
 ·
  refine zc<|e_p (zf yj rfl sz42 rfl rfl)<|e_ru (zd 0 ty42 rfl rfl (.t2 .nil))<|zU rfl rfl (.c rfl .n) ce111 (zzc (s:=s) (p:=p1) (n:=n1) (cap:=c1) (l:=l1) (hn:=ass)) (.c (j:=0) rfl .n)<|e_p (zKa rfl)<|zja rfl rfl (zka rfl) (fun h2=> ?_) (fun h2=> ?_)
  ·
   refine e_no<|e_no<|e_no<|e_no<|e_p (zK rfl rfl)<|e_mv rfl<|e_no<|e_no<|e_no<|e_no<|e_p (zK rfl rfl)<|zk ?_
   exact zha () (show True from by first|trivial|omega|simp_all) ((.e rfl (congrArg Value.bool (by simp_all)) (.c rfl (.c rfl .n))):SubM _ _) (ho:=((.c (i:=0) rfl .n):PickO _ _ _)) ((.of [0,1] rfl):SelR _ _ _)
  ·
   refine e_p (zf yj rfl sz42 rfl rfl)<|e_ru (zd 0 ty42 rfl rfl (.s2 (.t2 .nil)))<|zU rfl rfl (.c rfl .n) ce111 (zzc (s:=t) (p:=p2) (n:=n2) (cap:=c2) (l:=l2) (hn:=ass)) (.c (j:=1) rfl .n)<|e_p (zKa rfl)<|e_p (zK rfl rfl)<|zja rfl rfl (zka rfl) (fun h3=> ?_) (fun h3=> ?_)
   ·
    refine e_no<|e_no<|e_no<|e_no<|e_p (zK rfl rfl)<|zk ?_
    exact zha () (show True from by first|trivial|omega|simp_all) ((.e rfl (congrArg Value.bool (by simp_all)) (.c rfl (.c rfl .n))):SubM _ _) (ho:=((.c (i:=0) rfl .n):PickO _ _ _)) ((.of [0,1] rfl):SelR _ _ _)
   ·
    refine e_p (zf yj rfl sz42 rfl rfl)<|e_ru (zd 0 ty42 rfl rfl (.s2 (.t2 .nil)))<|zU rfl rfl (.c rfl .n) ce105 (zGe (s:=t) (p:=p2) (n:=n2) (cap:=c2) (l:=l2) (hn:=ass)) (.c (j:=1) rfl .n)<|e_p (zKb rfl rfl)<|e_p (zK rfl rfl)<|zk ?_
    exact zha () (show True from by first|trivial|omega|simp_all) ((.e rfl (congrArg Value.bool (by exact decide_eq_decide.2 (Big.sgn_le (Decidable.not_not.1 ‹_›) (Decidable.not_not.1 ‹_›)))) (.c rfl (.c rfl .n))):SubM _ _) (ho:=((.c (i:=0) rfl .n):PickO _ _ _)) ((.of [0,1] rfl):SelR _ _ _)
 ·
  rintro ⟨⟩ -
  try dsimp only
  refine zT rfl (fun hc=> ?_) (fun hc=> ?_)
  ·
   refine zj<|zc<|e_p (zh rfl)<|zk<|zg<|zS<|zu ?_
   exact zM Tryz.results97 () trivial (zC rfl) (congrArg Value.bool (decide_eq_false (fun h=>hc ⟨h.1,h.2.1,h.2.2.1⟩))) (ho:=(.n:PickO _ _ _)) (.n:SelR _ _ _)
  ·
   refine zw<|zg<|zj<|zc<|e_p (zf yj rfl sz42 rfl rfl)<|e_ru (zd 0 ty42 rfl rfl (.t2 .nil))<|e_p (zf yj rfl sz42 rfl rfl)<|e_ru (zd 0 ty42 rfl rfl (.s2 (.t2 .nil)))<|zG rfl rfl (.c rfl (.c rfl .n)) ce112 (zof (s:=s) (p1:=p1) (n1:=n1) (c1:=c1) (l1:=l1) (t:=t) (p2:=p2) (n2:=n2) (c2:=c2) (l2:=l2) (hn1:=ass) (hn2:=ass) (hb1:=by first|rfl|assumption|omega|(rw [yq];omega)|(decide +kernel)) (hb2:=by first|rfl|assumption|omega|(rw [yq];omega)|(decide +kernel))) (.c (j:=0) rfl (.c (j:=1) rfl .n)) ?_
   rintro ⟨p34,c35⟩ -
   dsimp only [aq,nq,cq]
   refine zG rfl rfl (.c rfl .n) ce104 (zSf (z:=1) (hz:=by first|rfl|assumption|omega|(rw [yq];omega)|(decide +kernel))) (.n) ?_
   rintro ⟨p26,c27⟩ -
   dsimp only [aq,nq,cq]
   refine zU rfl rfl (.c rfl (.c rfl .n)) ce102 (zRc (x1:=((Nat.gcd (ym s l1).natAbs (ym t l2).natAbs:Nat):Int)) (x2:=1) (p1:=p34) (c1:=c35) (p2:=p26) (c2:=c27)) (.c (j:=1) rfl (.c (j:=0) rfl .n))<|e_p (zOa rfl rfl)<|e_p (zh rfl)<|zk<|zg<|zS ?_
   exact zM Tryz.results97 () trivial (zC rfl) (congrArg Value.bool (decide_eq_decide.2 (Big.qok_gcd (x:=((s,l1),(t,l2))) (Decidable.not_not.1 hc)).symm)) (ho:=(.n:PickO _ _ _)) (.n:SelR _ _ _)
theorem zUb {w1:Wd} {w2:Wd} {x1:Int} {x2:Int} (hl1:yx x1≤1048576) (hl2:yx x2≤1048576) (hd:x2≠0):Con yl 106 [.agg #[w1.b,w1.l],.agg #[w2.b,w2.l]] [] [zF w1 x1,zF w2 x2] (Y:=Wd×Wd) (fun y=>True) (fun y=> .agg #[y.1.b,y.1.l,y.2.b,y.2.l]) (fun y=>[]) (fun y=>[qF true y.1 y.2 (Rat.divInt x1 x2)]):=by
 refine zv Tryz.func106 rfl rfl rfl (fun c=> ?_)
 show RunC _ _ _ _ _ [(0,.agg #[w1.b,w1.l]),(1,.agg #[w2.b,w2.l])] [] [zF w1 x1,zF w2 x2]
 refine zj<|zc<|zE rfl rfl (zZ rfl rfl) (fun b1=> ?_)
 refine zE rfl rfl (zZ rfl rfl) (fun b2=> ?_)
 refine zE rfl rfl (zo zr44 rfl) (fun b3=> ?_)
 refine zk<|zg<|zj<|zj<|zc<|e_ru (zd 1 ty42 rfl rfl (.t2 .nil))<|zU rfl rfl (.c rfl .n) ce105 (zAc (w1:=w2) (x1:=x2)) (.c (j:=1) rfl .n)<|e_p (zO rfl rfl)<|zk<|zg<|zT rfl (fun hneg=> ?_) (fun hneg=> ?_)
 ·
  have hs:x2<0:=by rcases Big.sign_le (x:=x2) with h|h|h <;> omega
  have hgp:=Big.gcd_pos_right (n:= -x1) (d:= -x2) om
  have hgl:=Big.zbe (n:= -x1) (d:= -x2) om
  rw [yq] at hgl
  obtain ⟨hr1,hr2⟩:=Big.red_flip (n:=x1) hs
  refine zaa (.c (i:=2) rfl (.c (i:=1) rfl (.c (i:=0) rfl .n)))<|zP (OW:=[boxA b1 42 [w1.b,w1.l],boxA b2 42 [w2.b,w2.l]]) (O:=[boxA b3 44 (cw [wz,wz])]) 4 mixed (.then .ret) kr<|e_uw 0 rfl rfl (zd 0 ty42 rfl rfl (.t2 .nil))<|e_uw 2 rfl rfl (zd 1 ty42 rfl rfl (.t2 .nil))<|e_one 1 (zm rfl rfl rfl rfl (.c rfl .n) ce123 (zQd (w1:=w1) (x1:=x1) (hln:=by first|rfl|assumption|omega|(rw [yq];omega)|(decide +kernel))) (.c (j:=0) rfl .n) ?_)
  rintro w34 -
  dsimp only [aq,nq,cq]
  refine e_one 3 (zm rfl rfl rfl rfl (.c rfl .n) ce123 (zQd (w1:=w2) (x1:=x2) (hln:=by first|rfl|assumption|omega|(rw [yq];omega)|(decide +kernel))) (.c (j:=2) rfl .n) ?_)
  rintro w35 -
  dsimp only [aq,nq,cq]
  refine e_one 4 (zp kr rfl rfl rfl rfl rfl sz42 rfl (.t2 .nil) ?_)
  refine zhb (zoa (i:=1) rfl)<|e_one 5 (zp kr rfl rfl rfl rfl rfl sz42 rfl (.t2 .nil) ?_)
  refine zN kr<|zg<|zj<|zc<|e_ru (zd 1 ty42 rfl rfl (.t2 .nil))<|e_ru (zd 0 ty42 rfl rfl (.t2 .nil))<|zG rfl rfl (.c rfl (.c rfl .n)) ce112 (zIe (w1:=w34) (w2:=w35) (x1:= - x1) (x2:= - x2) (hb1:=by first|rfl|assumption|omega|(rw [yq];omega)|(decide +kernel)) (hb2:=by first|rfl|assumption|omega|(rw [yq];omega)|(decide +kernel))) (.c (j:=1) rfl (.c (j:=0) rfl .n)) ?_
  rintro w36 -
  dsimp only [aq,nq,cq]
  refine zE rfl rfl (zo zr42 rfl) (fun b7=> ?_)
  refine zl 0 rfl rfl rfl rfl rfl sz42 rfl (.t2 .nil) .z<|zk<|zg<|zj<|zc<|e_ru (zd 2 ty42 rfl rfl (.t2 .nil))<|e_ru (zd 0 ty42 rfl rfl (.t2 .nil))<|zG rfl rfl (.c rfl (.c rfl .n)) ce124 (zTb (w1:=w34) (w2:=w36) (x1:= - x1) (x2:=((Nat.gcd (- x1).natAbs (- x2).natAbs:Nat):Int)) (hb1:=by first|rfl|assumption|omega|(rw [yq];omega)|(decide +kernel)) (hb2:=by first|rfl|assumption|omega|(rw [yq];omega)|(decide +kernel)) (hy:=by first|rfl|assumption|omega|(rw [yq];omega)|(decide +kernel))) (.c (j:=2) rfl (.c (j:=0) rfl .n)) ?_
  rintro ⟨w38,w49⟩ -
  dsimp only [aq,nq,cq]
  refine e_mv rfl<|e_p (zy rfl rfl)<|e_p (zy rfl rfl)<|e_p (zy rfl rfl)<|zl 2 rfl rfl rfl rfl rfl sz42 rfl (.t2 .nil) (.s (.s .z))<|zk<|zg<|zj<|zc<|e_ru (zd 1 ty42 rfl rfl (.t2 .nil))<|e_ru (zd 0 ty42 rfl rfl (.t2 .nil))<|zG rfl rfl (.c rfl (.c rfl .n)) ce124 (zTb (w1:=w35) (w2:=w36) (x1:= - x2) (x2:=((Nat.gcd (- x1).natAbs (- x2).natAbs:Nat):Int)) (hb1:=by first|rfl|assumption|omega|(rw [yq];omega)|(decide +kernel)) (hb2:=by first|rfl|assumption|omega|(rw [yq];omega)|(decide +kernel)) (hy:=by first|rfl|assumption|omega|(rw [yq];omega)|(decide +kernel))) (.c (j:=3) rfl (.c (j:=2) rfl .n)) ?_
  rintro ⟨w310,w411⟩ -
  dsimp only [aq,nq,cq]
  refine e_mv rfl<|e_p (zy rfl rfl)<|e_p (zy rfl rfl)<|e_p (zy rfl rfl)<|zl 1 rfl rfl rfl rfl rfl sz42 rfl (.t2 .nil) (.s .z)<|zk<|zg<|zj<|zc<|e_ru (zd 2 ty42 rfl rfl (.t2 .nil))<|e_ru (zd 1 ty42 rfl rfl (.t2 .nil))<|e_p (zx zr44 rfl yj (.c sz42 (.c sz42 .n)) (.c rfl (.c rfl .n)) (.c rfl rfl rfl (.t2 .nil) (.c rfl rfl rfl (.s2 (.t2 .nil)) .n)))<|zl 3 rfl rfl rfl rfl rfl sz44 rfl (.t4 .nil) (.s (.s (.s .z)))<|zk<|zg<|zS<|zdb (qF true w38 w310 (Rat.divInt x1 x2)) (qF_close 2 0 rfl rfl (by exact ⟨hr1,hr2,Nat.le_trans (Big.hq_divInt hd) om⟩)) ?_
  exact zM Tryz.results106 (w38,w310) trivial (zr 3 ty44 rfl rfl (.t4 .nil)) rfl (ho:=(.n:PickO _ _ _)) ((.c (j:=0) rfl .n):SelR _ _ _)
 ·
  have hs:0<x2:=by rcases Big.sign_le (x:=x2) with h|h|h <;> omega
  have hgp:=Big.gcd_pos_right (n:=x1) (d:=x2) om
  have hgl:=Big.zbe (n:=x1) (d:=x2) om
  obtain ⟨hr1,hr2⟩:=Big.red_pos (n:=x1) hs
  refine zw<|zg<|zj<|zc<|e_ru (zd 2 ty42 rfl rfl (.t2 .nil))<|e_ru (zd 1 ty42 rfl rfl (.t2 .nil))<|zG rfl rfl (.c rfl (.c rfl .n)) ce112 (zIe (w1:=w1) (w2:=w2) (x1:=x1) (x2:=x2) (hb1:=by first|rfl|assumption|omega|(rw [yq];omega)|(decide +kernel)) (hb2:=by first|rfl|assumption|omega|(rw [yq];omega)|(decide +kernel))) (.c (j:=0) rfl (.c (j:=1) rfl .n)) ?_
  rintro w312 -
  dsimp only [aq,nq,cq]
  refine zE rfl rfl (zo zr42 rfl) (fun b13=> ?_)
  refine zl 0 rfl rfl rfl rfl rfl sz42 rfl (.t2 .nil) .z<|zk<|zg<|zj<|zc<|e_ru (zd 3 ty42 rfl rfl (.t2 .nil))<|e_ru (zd 0 ty42 rfl rfl (.t2 .nil))<|zG rfl rfl (.c rfl (.c rfl .n)) ce124 (zTb (w1:=w1) (w2:=w312) (x1:=x1) (x2:=((Nat.gcd x1.natAbs x2.natAbs:Nat):Int)) (hb1:=by first|rfl|assumption|omega|(rw [yq];omega)|(decide +kernel)) (hb2:=by first|rfl|assumption|omega|(rw [yq];omega)|(decide +kernel)) (hy:=by first|rfl|assumption|omega|(rw [yq];omega)|(decide +kernel))) (.c (j:=1) rfl (.c (j:=0) rfl .n)) ?_
  rintro ⟨w314,w415⟩ -
  dsimp only [aq,nq,cq]
  refine e_mv rfl<|e_p (zy rfl rfl)<|e_p (zy rfl rfl)<|e_p (zy rfl rfl)<|zl 3 rfl rfl rfl rfl rfl sz42 rfl (.t2 .nil) (.s (.s (.s .z)))<|zk<|zg<|zj<|zc<|e_ru (zd 2 ty42 rfl rfl (.t2 .nil))<|e_ru (zd 0 ty42 rfl rfl (.t2 .nil))<|zG rfl rfl (.c rfl (.c rfl .n)) ce124 (zTb (w1:=w2) (w2:=w312) (x1:=x2) (x2:=((Nat.gcd x1.natAbs x2.natAbs:Nat):Int)) (hb1:=by first|rfl|assumption|omega|(rw [yq];omega)|(decide +kernel)) (hb2:=by first|rfl|assumption|omega|(rw [yq];omega)|(decide +kernel)) (hy:=by first|rfl|assumption|omega|(rw [yq];omega)|(decide +kernel))) (.c (j:=4) rfl (.c (j:=2) rfl .n)) ?_
  rintro ⟨w316,w417⟩ -
  dsimp only [aq,nq,cq]
  refine e_mv rfl<|e_p (zy rfl rfl)<|e_p (zy rfl rfl)<|e_p (zy rfl rfl)<|zl 2 rfl rfl rfl rfl rfl sz42 rfl (.t2 .nil) (.s (.s .z))<|zk<|zg<|zj<|zc<|e_ru (zd 3 ty42 rfl rfl (.t2 .nil))<|e_ru (zd 2 ty42 rfl rfl (.t2 .nil))<|e_p (zx zr44 rfl yj (.c sz42 (.c sz42 .n)) (.c rfl (.c rfl .n)) (.c rfl rfl rfl (.t2 .nil) (.c rfl rfl rfl (.s2 (.t2 .nil)) .n)))<|zl 1 rfl rfl rfl rfl rfl sz44 rfl (.t4 .nil) (.s .z)<|zk<|zg<|zS<|zdb (qF true w314 w316 (Rat.divInt x1 x2)) (qF_close 2 0 rfl rfl (by exact ⟨hr1,hr2,Nat.le_trans (Big.hq_divInt hd) om⟩)) ?_
  exact zM Tryz.results106 (w314,w316) trivial (zr 1 ty44 rfl rfl (.t4 .nil)) rfl (ho:=(.n:PickO _ _ _)) ((.c (j:=0) rfl .n):SelR _ _ _)
theorem zWe {s:Bool} {p1:Option Addr} {n1:Nat} {c1:Nat} {l1:List Int} {t:Bool} {p2:Option Addr} {n2:Nat} {c2:Nat} {l2:List Int} (hn1:l1.length=n1) (hn2:l2.length=n2) (hm1:n1≤1048576) (hm2:n2≤1048576) (hq:Big.qok ((s,l1),(t,l2))):Con yl 116 [.agg #[.bool s,.slice p1 n1 c1,.bool t,.slice p2 n2 c2]] [] [slF (rI .u32) p1 c1 l1,slF (rI .u32) p2 c2 l2] (Y:=(Option Addr)×Nat×(Option Addr)×Nat) (fun y=>True) (fun y=> .agg #[.bool (decide (((yS ((s,l1),(t,l2))).num)<0)),.slice (y.1) ((yf (((yS ((s,l1),(t,l2))).num).natAbs)).length) (y.2.1),.bool (decide ((((yS ((s,l1),(t,l2))).den:Nat):Int)<0)),.slice (y.2.2.1) ((yf ((((yS ((s,l1),(t,l2))).den:Nat):Int).natAbs)).length) (y.2.2.2)]) (fun y=>[]) (fun y=>[slF (rI .u32) (y.1) (y.2.1) (yf (((yS ((s,l1),(t,l2))).num).natAbs)),slF (rI .u32) (y.2.2.1) (y.2.2.2) (yf ((((yS ((s,l1),(t,l2))).den:Nat):Int).natAbs))]):=by
 refine zv Tryz.func116 rfl rfl rfl (fun c=> ?_)
 show RunC _ _ _ _ _ [(0,.agg #[.bool s,.slice p1 n1 c1,.bool t,.slice p2 n2 c2])] [] [slF (rI .u32) p1 c1 l1,slF (rI .u32) p2 c2 l2]
 refine zqa 0 rfl (fun hL0=> ?_)
 refine zfb 0 rfl (fun hE0=> ?_)
 refine zqa 1 rfl (fun hL1=> ?_)
 refine zfb 1 rfl (fun hE1=> ?_)
 have hnn1:yO l1:=fun g hg=>(zL.1 (hE0 g hg)).1
 have hnn2:yO l2:=fun g hg=>(zL.1 (hE1 g hg)).1
 have hb1:yx (ym s l1)≤n1:=by have:=Big.zpb (s:=s) hnn1;omega
 have hb2:yx (ym t l2)≤n2:=by have:=Big.zpb (s:=t) hnn2;omega
 refine zj<|zc<|zE rfl rfl (zZ rfl rfl) (fun b1=> ?_)
 refine zE rfl rfl (zo zr44 rfl) (fun b2=> ?_)
 refine zk<|zg<|zj<|zP (OW:=[boxA b2 44 (cw [wz,wz])]) (O:=[boxA b1 44 [.bool s,.slice p1 n1 c1,.bool t,.slice p2 n2 c2]]) 9 mixed (.then .ret) kr<|e_pv 0 rfl rfl (zf yj rfl sz42 rfl rfl)<|e_uw 1 rfl rfl (zd 1 ty42 rfl rfl (.t2 .nil))<|e_pv 4 rfl rfl (zf yj rfl sz42 rfl rfl)<|e_uw 5 rfl rfl (zd 1 ty42 rfl rfl (.s2 (.t2 .nil)))<|e_one 2 (zm rfl rfl rfl rfl (.c rfl .n) ce123 (zxe (s:=s) (p:=p1) (n:=n1) (cap:=c1) (l:=l1) (hn:=ass) (hln:=by first|rfl|assumption|omega|(rw [yq];omega)|(decide +kernel))) (.c (j:=0) rfl .n) ?_)
 rintro ⟨p23,c24⟩ -
 dsimp only [aq,nq,cq]
 refine e_one 3 (zm rfl rfl rfl rfl (.c rfl .n) ce123 (zPd (z:= - ym s l1) (p:=p23) (cap:=c24) (hln:=by first|rfl|assumption|omega|(rw [yq];omega)|(decide +kernel))) (.c (j:=0) rfl .n) ?_)
 rintro ⟨p25,c26⟩ -
 dsimp only [aq,nq,cq]
 refine e_one 6 (zm rfl rfl rfl rfl (.c rfl .n) ce123 (zxe (s:=t) (p:=p2) (n:=n2) (cap:=c2) (l:=l2) (hn:=ass) (hln:=by first|rfl|assumption|omega|(rw [yq];omega)|(decide +kernel))) (.c (j:=3) rfl .n) ?_)
 rintro ⟨p27,c28⟩ -
 dsimp only [aq,nq,cq]
 refine e_one 7 (zm rfl rfl rfl rfl (.c rfl .n) ce123 (zPd (z:= - ym t l2) (p:=p27) (cap:=c28) (hln:=by first|rfl|assumption|omega|(rw [yq];omega)|(decide +kernel))) (.c (j:=0) rfl .n) ?_)
 rintro ⟨p29,c210⟩ -
 dsimp only [aq,nq,cq]
 refine e_pv 8 rfl rfl (zx zr44 rfl yj (.c sz42 (.c sz42 .n)) (.c rfl (.c rfl .n)) (.c rfl rfl rfl (.t2 .nil) (.c rfl rfl rfl (.s2 (.t2 .nil)) .n)))<|e_one 9 (zp kr rfl rfl rfl rfl rfl sz44 rfl (.t4 .nil) ?_)
 refine zN kr<|zg<|zS ?_
 have hz1: - - ym s l1=(yS ((s,l1),(t,l2))).num:=by rw [Int.neg_neg];exact (Big.qv_parts hq).1.symm
 have hz2: - - ym t l2=(((yS ((s,l1),(t,l2))).den:Nat):Int):=by rw [Int.neg_neg];exact (Big.qv_parts hq).2.symm
 exact zM Tryz.results116 (p25,c26,p29,c210) trivial (zr 0 ty44 rfl rfl (.t4 .nil)) (by rw [hz1,hz2]) (ho:=(.n:PickO _ _ _)) ((.e (j:=2) rfl (by rw [hz1]) (.e (j:=0) rfl (by rw [hz2]) .n)):SelR _ _ _)
theorem zye {s:Bool} {p1:Option Addr} {n1:Nat} {c1:Nat} {l1:List Int} {t:Bool} {p2:Option Addr} {n2:Nat} {c2:Nat} {l2:List Int} (hn1:l1.length=n1) (hn2:l2.length=n2) (hm1:n1≤1048576) (hm2:n2≤1048576) (hq:Big.qok ((s,l1),(t,l2))) (hl:yK (yS ((s,l1),(t,l2)))≤1048576):Con yl 116 [.agg #[.bool (s),.slice (p1) (n1) (c1),.bool (t),.slice (p2) (n2) (c2)]] [] [slF (rI .u32) (p1) (c1) (l1),slF (rI .u32) (p2) (c2) (l2)] (Y:=(Wd)×(Wd)) (fun y=>True) (fun y=> .agg #[y.1.b,y.1.l,y.2.b,y.2.l]) (fun y=>[]) (fun y=>[qF true y.1 y.2 (yS ((s,l1),(t,l2)))]):=by
  exact con_qr (zWe hn1 hn2 hm1 hm2 hq) rfl rfl hl
theorem zD {z:Int} (hz: -9223372036854775808≤z∧z≤9223372036854775807):Con yl 71 [yc yd z] [] [] (Y:=Wd×Wd) (fun y=>True) (fun y=> .agg #[y.1.b,y.1.l,y.2.b,y.2.l]) (fun y=>[]) (fun y=>[qF true y.1 y.2 ((z:Int):Rat)]):=by
 refine zv Tryz.func71 rfl rfl rfl (fun c=> ?_)
 show RunC _ _ _ _ _ [(0,yc yd z)] [] []
 refine zj<|zc<|zE rfl rfl (zo zr44 rfl) (fun b1=> ?_)
 refine zk<|zg<|zj<|zc<|e_mv rfl<|zG rfl rfl (.c rfl .n) ce104 (zNd (z:=z) (hz:=ass)) (.n) ?_
 rintro w32 -
 dsimp only [aq,nq,cq]
 refine zG rfl rfl (.c rfl .n) ce104 (zNd (z:=1) (hz:=by first|rfl|assumption|omega|(rw [yq];omega)|(decide +kernel))) (.n) ?_
 rintro w33 -
 dsimp only [aq,nq,cq]
 refine e_p (zx zr44 rfl yj (.c sz42 (.c sz42 .n)) (.c rfl (.c rfl .n)) (.c rfl rfl rfl (.t2 .nil) (.c rfl rfl rfl (.s2 (.t2 .nil)) .n)))<|zl 0 rfl rfl rfl rfl rfl sz44 rfl (.t4 .nil) .z<|zk<|zg<|zS<|zdb (qF true w32 w33 ((z:Int):Rat)) (qF_close 1 0 rfl rfl (by exact ⟨(Rat.num_intCast z).symm,by rw [Rat.den_intCast];rfl,Nat.le_trans (Big.hq_64 hz.1 hz.2) dd⟩)) ?_
 exact zM Tryz.results71 (w32,w33) trivial (zr 0 ty44 rfl rfl (.t4 .nil)) rfl (ho:=(.n:PickO _ _ _)) ((.c (j:=0) rfl .n):SelR _ _ _)
theorem zXe {s:Bool} {p1:Option Addr} {n1:Nat} {c1:Nat} {l1:List Int} {t:Bool} {p2:Option Addr} {n2:Nat} {c2:Nat} {l2:List Int} (hn1:l1.length=n1) (hn2:l2.length=n2) (hm1:n1≤1048576) (hm2:n2≤1048576):Con yl 101 [.agg #[.bool s,.slice p1 n1 c1,.bool t,.slice p2 n2 c2]] [] [slF (rI .u32) p1 c1 l1,slF (rI .u32) p2 c2 l2] (Y:=Wd×Wd) (fun y=>True) (fun y=> .agg #[y.1.b,y.1.l,y.2.b,y.2.l]) (fun y=>[]) (fun y=>[qF true y.1 y.2 (yS ((s,l1),(t,l2)))]):=by
 refine zv Tryz.func101 rfl rfl rfl (fun c=> ?_)
 show RunC _ _ _ _ _ [(0,.agg #[.bool s,.slice p1 n1 c1,.bool t,.slice p2 n2 c2])] [] [slF (rI .u32) p1 c1 l1,slF (rI .u32) p2 c2 l2]
 refine zqa 0 rfl (fun hL0=> ?_)
 refine zfb 0 rfl (fun hE0=> ?_)
 refine zqa 1 rfl (fun hL1=> ?_)
 refine zfb 1 rfl (fun hE1=> ?_)
 have hnn1:yO l1:=fun g hg=>(zL.1 (hE0 g hg)).1
 have hnn2:yO l2:=fun g hg=>(zL.1 (hE1 g hg)).1
 have hb1:yx (ym s l1)≤n1:=by have:=Big.zpb (s:=s) hnn1;omega
 have hb2:yx (ym t l2)≤n2:=by have:=Big.zpb (s:=t) hnn2;omega
 refine zj<|zc<|zE rfl rfl (zZ rfl rfl) (fun b1=> ?_)
 refine zE rfl rfl (zo zr44 rfl) (fun b2=> ?_)
 refine zk<|zg<|zj<|zj<|zc<|e_ru (zd 1 ty44 rfl rfl (.t4 .nil))<|zU rfl rfl (.c rfl .n) ce97 (zyd (s:=s) (p1:=p1) (n1:=n1) (c1:=c1) (l1:=l1) (t:=t) (p2:=p2) (n2:=n2) (c2:=c2) (l2:=l2) (hn1:=ass) (hn2:=ass) (hm1:=ass) (hm2:=ass)) (.c (j:=0) rfl (.c (j:=1) rfl .n))<|zk<|zg<|zT rfl (fun hq=> ?_) (fun hq=> ?_)
 ·
  have hrp:=Big.raw_parts (x:=((s,l1),(t,l2))) hnn1 hnn2 hq
  have hqp:=Big.qv_parts (x:=((s,l1),(t,l2))) hq
  have hl:yK (yS ((s,l1),(t,l2)))≤1048576:=by unfold yK;rw [hqp.1,hqp.2];dsimp only;omega
  refine zj<|zc<|e_ru (zd 1 ty44 rfl rfl (.t4 .nil))<|zG rfl rfl (.c rfl .n) ce116 (zye (s:=s) (p1:=p1) (n1:=n1) (c1:=c1) (l1:=l1) (t:=t) (p2:=p2) (n2:=n2) (c2:=c2) (l2:=l2) (hn1:=ass) (hn2:=ass) (hm1:=ass) (hm2:=ass) (hq:=by first|rfl|assumption|omega|(rw [yq];omega)|(decide +kernel)) (hl:=by first|rfl|assumption|omega|(rw [yq];omega)|(decide +kernel))) (.c (j:=0) rfl (.c (j:=1) rfl .n)) ?_
  rintro ⟨w33,w44⟩ -
  dsimp only [aq,nq,cq]
  refine zl 0 rfl rfl rfl rfl rfl sz44 rfl (.t4 .nil) .z<|zk<|zg<|zS<|zu ?_
  exact zM Tryz.results101 (w33,w44) trivial (zr 0 ty44 rfl rfl (.t4 .nil)) rfl (ho:=(.n:PickO _ _ _)) ((.c (j:=0) rfl .n):SelR _ _ _)
 ·
  have hz:=Big.qv_not (x:=((s,l1),(t,l2))) hq
  refine zw<|zg<|zj<|zc<|zG rfl rfl (.c rfl .n) ce71 (zD (z:=0) (hz:=by first|rfl|assumption|omega|(rw [yq];omega)|(decide +kernel))) (.n) ?_
  rintro ⟨w35,w46⟩ -
  dsimp only [aq,nq,cq]
  refine zl 0 rfl rfl rfl rfl rfl sz44 rfl (.t4 .nil) .z<|zk<|zg<|zS ?_
  exact zM Tryz.results101 (w35,w46) trivial (zr 0 ty44 rfl rfl (.t4 .nil)) rfl (ho:=(.n:PickO _ _ _)) ((.e (j:=0) rfl (by rw [hz];rfl) .n):SelR _ _ _)
theorem zYa {k1:Bool} {u1:Wd} {v1:Wd} {q1:Rat}:Con yl 101 [.agg #[u1.b,u1.l,v1.b,v1.l]] [] [qF k1 u1 v1 (q1)] (Y:=(Wd)×(Wd)) (fun y=>True) (fun y=> .agg #[y.1.b,y.1.l,y.2.b,y.2.l]) (fun y=>[]) (fun y=>[qF true y.1 y.2 (q1)]):=by
  exact zlf (fun x hx hk h1 h2 hl=>by subst hx;exact zXe rfl rfl h1 h2)
theorem zhe {k1:Bool} {u1:Wd} {v1:Wd} {q1:Rat}:Con yl 79 [.agg #[u1.b,u1.l,v1.b,v1.l]] [] [qF k1 u1 v1 q1] (Y:=Unit) (fun y=>True) (fun y=> yc yd (Big.sgq q1)) (fun y=>[]) (fun y=>[]):=by
 refine zv Tryz.func79 rfl rfl rfl (fun c=> ?_)
 show RunC _ _ _ _ _ [(0,.agg #[u1.b,u1.l,v1.b,v1.l])] [] [qF k1 u1 v1 q1]
 refine zj<|zc<|zE rfl rfl (zZ rfl rfl) (fun b1=> ?_)
 refine e_p (zh rfl)<|zk<|zg<|zj<|zc<|e_ru (zd 0 ty44 rfl rfl (.t4 .nil))<|zG rfl rfl (.c rfl .n) ce101 (zYa (k1:=k1) (u1:=u1) (v1:=v1) (q1:=q1)) (.c (j:=0) rfl .n) ?_
 rintro ⟨w32,w43⟩ -
 dsimp only [aq,nq,cq]
 refine e_p (zNc yj rfl ty42 rfl (.t2 .nil))<|zMc (qF_open 0 rfl) (fun _ _=> ?_)
 refine zU rfl rfl (.c rfl .n) ce105 (zAc (w1:=w32) (x1:=(q1).num)) (.c (j:=0) rfl .n)<|e_p (zh rfl)<|zk<|zg<|zS ?_
 exact zM Tryz.results79 () trivial (zC rfl) rfl (ho:=(.n:PickO _ _ _)) (.n:SelR _ _ _)
theorem zMf {k1:Bool} {u1:Wd} {v1:Wd} {q1:Rat} (hl:yK q1≤1048576):Con yl 107 [.agg #[u1.b,u1.l,v1.b,v1.l]] [] [qF k1 u1 v1 q1] (Y:=Wd×Wd) (fun y=>True) (fun y=> .agg #[y.1.b,y.1.l,y.2.b,y.2.l]) (fun y=>[]) (fun y=>[qF true y.1 y.2 (- q1)]):=by
 refine zv Tryz.func107 rfl rfl rfl (fun c=> ?_)
 show RunC _ _ _ _ _ [(0,.agg #[u1.b,u1.l,v1.b,v1.l])] [] [qF k1 u1 v1 q1]
 have a1:=yF q1
 have a2:=yG q1
 refine zj<|zc<|zE rfl rfl (zZ rfl rfl) (fun b1=> ?_)
 refine zE rfl rfl (zo zr44 rfl) (fun b2=> ?_)
 refine zk<|zg<|zj<|zc<|e_ru (zd 1 ty44 rfl rfl (.t4 .nil))<|zG rfl rfl (.c rfl .n) ce101 (zYa (k1:=k1) (u1:=u1) (v1:=v1) (q1:=q1)) (.c (j:=0) rfl .n) ?_
 rintro ⟨w33,w44⟩ -
 dsimp only [aq,nq,cq]
 refine zl 1 rfl rfl rfl rfl rfl sz44 rfl (.t4 .nil) (.s .z)<|zk<|zg<|zj<|zP (OW:=[boxA b2 44 (cw [wz,wz])]) (O:=[boxA b1 44 (cw [w33,w44])]) 6 mixed (.then .ret) kr<|e_pv 0 rfl rfl (zf yj rfl sz42 rfl rfl)<|e_uw 1 rfl rfl (zd 1 ty42 rfl rfl (.t2 .nil))<|e_pv 3 rfl rfl (zf yj rfl sz42 rfl rfl)<|e_uw 4 rfl rfl (zd 1 ty42 rfl rfl (.s2 (.t2 .nil)))<|zEb (qF_open 0 rfl) (fun _ _=> ?_)
 refine e_one 2 (zm rfl rfl rfl rfl (.c rfl .n) ce123 (zQd (w1:=w33) (x1:=(q1).num) (hln:=by first|rfl|assumption|omega|(rw [yq];omega)|(decide +kernel))) (.c (j:=0) rfl .n) ?_)
 rintro w35 -
 dsimp only [aq,nq,cq]
 refine e_pv 5 rfl rfl (zx zr44 rfl yj (.c sz42 (.c sz42 .n)) (.c rfl (.c rfl .n)) (.c rfl rfl rfl (.t2 .nil) (.c rfl rfl rfl (.s2 (.t2 .nil)) .n)))<|e_one 6 (zp kr rfl rfl rfl rfl rfl sz44 rfl (.t4 .nil) ?_)
 refine zN kr<|zg<|zS<|zdb (qF true w35 w44 (- q1)) (qF_close 0 2 rfl rfl (by exact ⟨(Rat.neg_num q1).symm,by rw [Rat.neg_den],by rw [Big.hq_neg];exact hl⟩)) ?_
 exact zM Tryz.results107 (w35,w44) trivial (zr 0 ty44 rfl rfl (.t4 .nil)) rfl (ho:=(.n:PickO _ _ _)) ((.c (j:=0) rfl .n):SelR _ _ _)
theorem zpa {k1:Bool} {u1:Wd} {v1:Wd} {q1:Rat} {k2:Bool} {u2:Wd} {v2:Wd} {q2:Rat} (hl:yK q1+yK q2+1≤1048576):Con yl 80 [.agg #[u1.b,u1.l,v1.b,v1.l],.agg #[u2.b,u2.l,v2.b,v2.l]] [] [qF k1 u1 v1 q1,qF k2 u2 v2 q2] (Y:=Wd×Wd) (fun y=>True) (fun y=> .agg #[y.1.b,y.1.l,y.2.b,y.2.l]) (fun y=>[]) (fun y=>[qF true y.1 y.2 (q1+q2)]):=by
 refine zv Tryz.func80 rfl rfl rfl (fun c=> ?_)
 show RunC _ _ _ _ _ [(0,.agg #[u1.b,u1.l,v1.b,v1.l]),(1,.agg #[u2.b,u2.l,v2.b,v2.l])] [] [qF k1 u1 v1 q1,qF k2 u2 v2 q2]
 have a1:=yF q1
 have a2:=yG q1
 have a3:=yF q2
 have a4:=yG q2
 have b1:=yH q1.num q2.den
 have b2:=yH q2.num q1.den
 have b3:=Big.zQc (q1.num*q2.den) (q2.num*q1.den)
 have b4:=yH (q1.den:Int) q2.den
 have b5:=yH q1.num q2.num
 refine zj<|zc<|zE rfl rfl (zZ rfl rfl) (fun b1=> ?_)
 refine zE rfl rfl (zZ rfl rfl) (fun b2=> ?_)
 refine zE rfl rfl (zo zr44 rfl) (fun b3=> ?_)
 refine zk<|zg<|zj<|zaa (.c (i:=2) rfl (.c (i:=1) rfl (.c (i:=0) rfl .n)))<|zP (OW:=[boxA b1 44 (cw [u1,v1]),boxA b2 44 (cw [u2,v2])]) (O:=[boxA b3 44 (cw [wz,wz])]) 4 mixed (.then .ret) kr<|e_uw 0 rfl rfl (zd 0 ty44 rfl rfl (.t4 .nil))<|e_uw 2 rfl rfl (zd 1 ty44 rfl rfl (.t4 .nil))<|e_one 1 (zm rfl rfl rfl rfl (.c rfl .n) ce101 (zYa (k1:=k1) (u1:=u1) (v1:=v1) (q1:=q1)) (.c (j:=0) rfl .n) ?_)
 rintro ⟨w34,w45⟩ -
 dsimp only [aq,nq,cq]
 refine e_one 3 (zm rfl rfl rfl rfl (.c rfl .n) ce101 (zYa (k1:=k2) (u1:=u2) (v1:=v2) (q1:=q2)) (.c (j:=2) rfl .n) ?_)
 rintro ⟨w36,w47⟩ -
 dsimp only [aq,nq,cq]
 refine e_one 4 (zp kr rfl rfl rfl rfl rfl sz44 rfl (.t4 .nil) ?_)
 refine zhb (zoa (i:=1) rfl)<|e_one 5 (zp kr rfl rfl rfl rfl rfl sz44 rfl (.t4 .nil) ?_)
 refine zN kr<|zg<|zj<|zaa (.c (i:=2) rfl (.c (i:=0) rfl (.c (i:=0) rfl .n)))<|zP (OW:=[boxA b3 44 (cw [wz,wz])]) (O:=[boxA b2 44 (cw [w36,w47]),boxA b1 44 (cw [w34,w45])]) 17 mixed (.then .ret) kr<|e_pv 0 rfl rfl (zf yj rfl sz42 rfl rfl)<|e_uw 1 rfl rfl (zd 2 ty42 rfl rfl (.t2 .nil))<|e_pv 2 rfl rfl (zf yj rfl sz42 rfl rfl)<|e_uw 3 rfl rfl (zd 1 ty42 rfl rfl (.s2 (.t2 .nil)))<|e_pv 5 rfl rfl (zf yj rfl sz42 rfl rfl)<|e_uw 6 rfl rfl (zd 1 ty42 rfl rfl (.t2 .nil))<|e_pv 7 rfl rfl (zf yj rfl sz42 rfl rfl)<|e_uw 8 rfl rfl (zd 2 ty42 rfl rfl (.s2 (.t2 .nil)))<|e_pv 11 rfl rfl (zf yj rfl sz42 rfl rfl)<|e_uw 12 rfl rfl (zd 2 ty42 rfl rfl (.s2 (.t2 .nil)))<|e_pv 13 rfl rfl (zf yj rfl sz42 rfl rfl)<|e_uw 14 rfl rfl (zd 1 ty42 rfl rfl (.s2 (.t2 .nil)))<|zEb (qF_open 1 rfl) (fun _ _=> ?_)
 refine zEb (qF_open 2 rfl) (fun _ _=> ?_)
 refine e_one 4 (zm rfl rfl rfl rfl (.c rfl (.c rfl .n)) ce103 (zCb (w1:=w34) (w2:=w47) (x1:=(q1).num) (x2:=(((q2).den:Nat):Int)) (hb1:=by first|rfl|assumption|omega|(rw [yq];omega)|(decide +kernel)) (hb2:=by first|rfl|assumption|omega|(rw [yq];omega)|(decide +kernel))) (.c (j:=2) rfl (.c (j:=1) rfl .n)) ?_)
 rintro w38 -
 dsimp only [aq,nq,cq]
 refine e_one 9 (zm rfl rfl rfl rfl (.c rfl (.c rfl .n)) ce103 (zCb (w1:=w36) (w2:=w45) (x1:=(q2).num) (x2:=(((q1).den:Nat):Int)) (hb1:=by first|rfl|assumption|omega|(rw [yq];omega)|(decide +kernel)) (hb2:=by first|rfl|assumption|omega|(rw [yq];omega)|(decide +kernel))) (.c (j:=1) rfl (.c (j:=4) rfl .n)) ?_)
 rintro w39 -
 dsimp only [aq,nq,cq]
 refine e_one 10 (zm rfl rfl rfl rfl (.c rfl (.c rfl .n)) ce108 (zIf (w1:=w38) (w2:=w39) (x1:=((q1).num)*(((q2).den:Nat):Int)) (x2:=((q2).num)*(((q1).den:Nat):Int)) (hb1:=by first|rfl|assumption|omega|(rw [yq];omega)|(decide +kernel)) (hb2:=by first|rfl|assumption|omega|(rw [yq];omega)|(decide +kernel))) (.c (j:=1) rfl (.c (j:=0) rfl .n)) ?_)
 rintro w310 -
 dsimp only [aq,nq,cq]
 refine e_one 15 (zm rfl rfl rfl rfl (.c rfl (.c rfl .n)) ce103 (zCb (w1:=w45) (w2:=w47) (x1:=(((q1).den:Nat):Int)) (x2:=(((q2).den:Nat):Int)) (hb1:=by first|rfl|assumption|omega|(rw [yq];omega)|(decide +kernel)) (hb2:=by first|rfl|assumption|omega|(rw [yq];omega)|(decide +kernel))) (.c (j:=6) rfl (.c (j:=4) rfl .n)) ?_)
 rintro w311 -
 dsimp only [aq,nq,cq]
 refine e_one 16 (zm rfl rfl rfl rfl (.c rfl (.c rfl .n)) ce106 (zUb (w1:=w310) (w2:=w311) (x1:=(((q1).num)*(((q2).den:Nat):Int))+(((q2).num)*(((q1).den:Nat):Int))) (x2:=(((q1).den:Nat):Int)*(((q2).den:Nat):Int)) (hl1:=by first|rfl|assumption|omega|(rw [yq];omega)|(decide +kernel)) (hl2:=by first|rfl|assumption|omega|(rw [yq];omega)|(decide +kernel)) (hd:=by exact Int.mul_ne_zero (yV q1) (yV q2))) (.c (j:=1) rfl (.c (j:=0) rfl .n)) ?_)
 rintro ⟨w312,w413⟩ -
 dsimp only [aq,nq,cq]
 refine e_one 17 (zp kr rfl rfl rfl rfl rfl sz44 rfl (.t4 .nil) ?_)
 refine zN kr<|zg<|zS ?_
 exact zM Tryz.results80 (w312,w413) trivial (zr 0 ty44 rfl rfl (.t4 .nil)) rfl (ho:=(.n:PickO _ _ _)) ((.e (j:=0) rfl (by rw [Big.add_parts]) .n):SelR _ _ _)
theorem zca {k1:Bool} {u1:Wd} {v1:Wd} {q1:Rat} {k2:Bool} {u2:Wd} {v2:Wd} {q2:Rat} (hl:yK q1+yK q2+1≤1048576):Con yl 81 [.agg #[u1.b,u1.l,v1.b,v1.l],.agg #[u2.b,u2.l,v2.b,v2.l]] [] [qF k1 u1 v1 q1,qF k2 u2 v2 q2] (Y:=Wd×Wd) (fun y=>True) (fun y=> .agg #[y.1.b,y.1.l,y.2.b,y.2.l]) (fun y=>[]) (fun y=>[qF true y.1 y.2 (q1*q2)]):=by
 refine zv Tryz.func81 rfl rfl rfl (fun c=> ?_)
 show RunC _ _ _ _ _ [(0,.agg #[u1.b,u1.l,v1.b,v1.l]),(1,.agg #[u2.b,u2.l,v2.b,v2.l])] [] [qF k1 u1 v1 q1,qF k2 u2 v2 q2]
 have a1:=yF q1
 have a2:=yG q1
 have a3:=yF q2
 have a4:=yG q2
 have b1:=yH q1.num q2.den
 have b2:=yH q2.num q1.den
 have b3:=Big.zQc (q1.num*q2.den) (q2.num*q1.den)
 have b4:=yH (q1.den:Int) q2.den
 have b5:=yH q1.num q2.num
 refine zj<|zc<|zE rfl rfl (zZ rfl rfl) (fun b1=> ?_)
 refine zE rfl rfl (zZ rfl rfl) (fun b2=> ?_)
 refine zE rfl rfl (zo zr44 rfl) (fun b3=> ?_)
 refine zk<|zg<|zj<|zaa (.c (i:=2) rfl (.c (i:=1) rfl (.c (i:=0) rfl .n)))<|zP (OW:=[boxA b1 44 (cw [u1,v1]),boxA b2 44 (cw [u2,v2])]) (O:=[boxA b3 44 (cw [wz,wz])]) 4 mixed (.then .ret) kr<|e_uw 0 rfl rfl (zd 0 ty44 rfl rfl (.t4 .nil))<|e_uw 2 rfl rfl (zd 1 ty44 rfl rfl (.t4 .nil))<|e_one 1 (zm rfl rfl rfl rfl (.c rfl .n) ce101 (zYa (k1:=k1) (u1:=u1) (v1:=v1) (q1:=q1)) (.c (j:=0) rfl .n) ?_)
 rintro ⟨w34,w45⟩ -
 dsimp only [aq,nq,cq]
 refine e_one 3 (zm rfl rfl rfl rfl (.c rfl .n) ce101 (zYa (k1:=k2) (u1:=u2) (v1:=v2) (q1:=q2)) (.c (j:=2) rfl .n) ?_)
 rintro ⟨w36,w47⟩ -
 dsimp only [aq,nq,cq]
 refine e_one 4 (zp kr rfl rfl rfl rfl rfl sz44 rfl (.t4 .nil) ?_)
 refine zhb (zoa (i:=1) rfl)<|e_one 5 (zp kr rfl rfl rfl rfl rfl sz44 rfl (.t4 .nil) ?_)
 refine zN kr<|zg<|zj<|zaa (.c (i:=2) rfl (.c (i:=0) rfl (.c (i:=0) rfl .n)))<|zP (OW:=[boxA b3 44 (cw [wz,wz])]) (O:=[boxA b2 44 (cw [w36,w47]),boxA b1 44 (cw [w34,w45])]) 11 mixed (.then .ret) kr<|e_pv 0 rfl rfl (zf yj rfl sz42 rfl rfl)<|e_uw 1 rfl rfl (zd 2 ty42 rfl rfl (.t2 .nil))<|e_pv 2 rfl rfl (zf yj rfl sz42 rfl rfl)<|e_uw 3 rfl rfl (zd 1 ty42 rfl rfl (.t2 .nil))<|e_pv 5 rfl rfl (zf yj rfl sz42 rfl rfl)<|e_uw 6 rfl rfl (zd 2 ty42 rfl rfl (.s2 (.t2 .nil)))<|e_pv 7 rfl rfl (zf yj rfl sz42 rfl rfl)<|e_uw 8 rfl rfl (zd 1 ty42 rfl rfl (.s2 (.t2 .nil)))<|zEb (qF_open 1 rfl) (fun _ _=> ?_)
 refine zEb (qF_open 2 rfl) (fun _ _=> ?_)
 refine e_one 4 (zm rfl rfl rfl rfl (.c rfl (.c rfl .n)) ce103 (zCb (w1:=w34) (w2:=w36) (x1:=(q1).num) (x2:=(q2).num) (hb1:=by first|rfl|assumption|omega|(rw [yq];omega)|(decide +kernel)) (hb2:=by first|rfl|assumption|omega|(rw [yq];omega)|(decide +kernel))) (.c (j:=2) rfl (.c (j:=0) rfl .n)) ?_)
 rintro w38 -
 dsimp only [aq,nq,cq]
 refine e_one 9 (zm rfl rfl rfl rfl (.c rfl (.c rfl .n)) ce103 (zCb (w1:=w45) (w2:=w47) (x1:=(((q1).den:Nat):Int)) (x2:=(((q2).den:Nat):Int)) (hb1:=by first|rfl|assumption|omega|(rw [yq];omega)|(decide +kernel)) (hb2:=by first|rfl|assumption|omega|(rw [yq];omega)|(decide +kernel))) (.c (j:=4) rfl (.c (j:=2) rfl .n)) ?_)
 rintro w39 -
 dsimp only [aq,nq,cq]
 refine e_one 10 (zm rfl rfl rfl rfl (.c rfl (.c rfl .n)) ce106 (zUb (w1:=w38) (w2:=w39) (x1:=((q1).num)*((q2).num)) (x2:=(((q1).den:Nat):Int)*(((q2).den:Nat):Int)) (hl1:=by first|rfl|assumption|omega|(rw [yq];omega)|(decide +kernel)) (hl2:=by first|rfl|assumption|omega|(rw [yq];omega)|(decide +kernel)) (hd:=by exact Int.mul_ne_zero (yV q1) (yV q2))) (.c (j:=1) rfl (.c (j:=0) rfl .n)) ?_)
 rintro ⟨w310,w411⟩ -
 dsimp only [aq,nq,cq]
 refine e_one 11 (zp kr rfl rfl rfl rfl rfl sz44 rfl (.t4 .nil) ?_)
 refine zN kr<|zg<|zS ?_
 exact zM Tryz.results81 (w310,w411) trivial (zr 0 ty44 rfl rfl (.t4 .nil)) rfl (ho:=(.n:PickO _ _ _)) ((.e (j:=0) rfl (by rw [Big.mul_parts]) .n):SelR _ _ _)
theorem zIb {k1:Bool} {u1:Wd} {v1:Wd} {q1:Rat} {k2:Bool} {u2:Wd} {v2:Wd} {q2:Rat} (hl:yK q1+yK q2+1≤1048576):Con yl 78 [.agg #[u1.b,u1.l,v1.b,v1.l],.agg #[u2.b,u2.l,v2.b,v2.l]] [] [qF k1 u1 v1 q1,qF k2 u2 v2 q2] (Y:=Wd×Wd) (fun y=>True) (fun y=> .agg #[y.1.b,y.1.l,y.2.b,y.2.l]) (fun y=>[]) (fun y=>[qF true y.1 y.2 (q1 - q2)]):=by
 refine zv Tryz.func78 rfl rfl rfl (fun c=> ?_)
 show RunC _ _ _ _ _ [(0,.agg #[u1.b,u1.l,v1.b,v1.l]),(1,.agg #[u2.b,u2.l,v2.b,v2.l])] [] [qF k1 u1 v1 q1,qF k2 u2 v2 q2]
 have a1:=yF q1
 have a2:=yG q1
 have a3:=yF q2
 have a4:=yG q2
 refine zj<|zc<|zE rfl rfl (zZ rfl rfl) (fun b1=> ?_)
 refine zE rfl rfl (zZ rfl rfl) (fun b2=> ?_)
 refine zE rfl rfl (zo zr44 rfl) (fun b3=> ?_)
 refine zk<|zg<|zj<|zP (OW:=[boxA b3 44 (cw [wz,wz])]) (O:=[boxA b2 44 (cw [u2,v2]),boxA b1 44 (cw [u1,v1])]) 4 mixed (.then .ret) kr<|e_uw 0 rfl rfl (zd 2 ty44 rfl rfl (.t4 .nil))<|e_uw 1 rfl rfl (zd 1 ty44 rfl rfl (.t4 .nil))<|e_one 2 (zm rfl rfl rfl rfl (.c rfl .n) ce107 (zMf (k1:=k2) (u1:=u2) (v1:=v2) (q1:=q2) (hl:=by first|rfl|assumption|omega|(rw [yq];omega)|(decide +kernel)|(rw [Big.hq_neg];omega))) (.c (j:=1) rfl .n) ?_)
 rintro ⟨w34,w45⟩ -
 dsimp only [aq,nq,cq]
 refine e_one 3 (zm rfl rfl rfl rfl (.c rfl (.c rfl .n)) ce80 (zpa (k1:=k1) (u1:=u1) (v1:=v1) (q1:=q1) (k2:=true) (u2:=w34) (v2:=w45) (q2:= - q2) (hl:=by first|rfl|assumption|omega|(rw [yq];omega)|(decide +kernel)|(rw [Big.hq_neg];omega))) (.c (j:=1) rfl (.c (j:=0) rfl .n)) ?_)
 rintro ⟨w36,w47⟩ -
 dsimp only [aq,nq,cq]
 refine e_one 4 (zp kr rfl rfl rfl rfl rfl sz44 rfl (.t4 .nil) ?_)
 refine zN kr<|zg<|zS ?_
 exact zM Tryz.results78 (w36,w47) trivial (zr 0 ty44 rfl rfl (.t4 .nil)) rfl (ho:=(.n:PickO _ _ _)) ((.e (j:=0) rfl (by rw [Rat.sub_eq_add_neg]) .n):SelR _ _ _)
theorem zSc {k1:Bool} {u1:Wd} {v1:Wd} {q1:Rat} {k2:Bool} {u2:Wd} {v2:Wd} {q2:Rat} (hl:yK q1+yK q2+1≤1048576):Con yl 70 [.agg #[u1.b,u1.l,v1.b,v1.l],.agg #[u2.b,u2.l,v2.b,v2.l]] [] [qF k1 u1 v1 q1,qF k2 u2 v2 q2] (Y:=Unit) (fun y=>True) (fun y=> yc yd (Big.sgq (q1 - q2))) (fun y=>[]) (fun y=>[]):=by
 refine zv Tryz.func70 rfl rfl rfl (fun c=> ?_)
 show RunC _ _ _ _ _ [(0,.agg #[u1.b,u1.l,v1.b,v1.l]),(1,.agg #[u2.b,u2.l,v2.b,v2.l])] [] [qF k1 u1 v1 q1,qF k2 u2 v2 q2]
 have a1:=yF q1
 have a2:=yG q1
 have a3:=yF q2
 have a4:=yG q2
 have b1:=yH q1.num q2.den
 have b2:=yH q2.num q1.den
 have b3:=Big.zQc (q1.num*q2.den) (q2.num*q1.den)
 have b4:=yH (q1.den:Int) q2.den
 have b5:=yH q1.num q2.num
 refine zj<|zc<|zE rfl rfl (zZ rfl rfl) (fun b1=> ?_)
 refine zE rfl rfl (zZ rfl rfl) (fun b2=> ?_)
 refine e_p (zh rfl)<|zk<|zg<|zj<|zaa (.c (i:=1) rfl (.c (i:=0) rfl .n))<|zP (OW:=[boxA b1 44 (cw [u1,v1]),boxA b2 44 (cw [u2,v2])]) (O:=[]) 4 mixed (.then .ret) kr<|e_uw 0 rfl rfl (zd 0 ty44 rfl rfl (.t4 .nil))<|e_uw 2 rfl rfl (zd 1 ty44 rfl rfl (.t4 .nil))<|e_one 1 (zm rfl rfl rfl rfl (.c rfl .n) ce101 (zYa (k1:=k1) (u1:=u1) (v1:=v1) (q1:=q1)) (.c (j:=0) rfl .n) ?_)
 rintro ⟨w33,w44⟩ -
 dsimp only [aq,nq,cq]
 refine e_one 3 (zm rfl rfl rfl rfl (.c rfl .n) ce101 (zYa (k1:=k2) (u1:=u2) (v1:=v2) (q1:=q2)) (.c (j:=2) rfl .n) ?_)
 rintro ⟨w35,w46⟩ -
 dsimp only [aq,nq,cq]
 refine e_one 4 (zp kr rfl rfl rfl rfl rfl sz44 rfl (.t4 .nil) ?_)
 refine zhb (zoa (i:=1) rfl)<|e_one 5 (zp kr rfl rfl rfl rfl rfl sz44 rfl (.t4 .nil) ?_)
 refine zN kr<|zg<|zj<|zP (OW:=[]) (O:=[boxA b2 44 (cw [w35,w46]),boxA b1 44 (cw [w33,w44])]) 100000 mixed (.then .ret) kr<|e_pv 0 rfl rfl (zf yj rfl sz42 rfl rfl)<|e_u 1 rfl rfl (zd 1 ty42 rfl rfl (.t2 .nil))<|e_pv 2 rfl rfl (zf yj rfl sz42 rfl rfl)<|e_u 3 rfl rfl (zd 0 ty42 rfl rfl (.s2 (.t2 .nil)))<|e_pv 5 rfl rfl (zf yj rfl sz42 rfl rfl)<|e_u 6 rfl rfl (zd 0 ty42 rfl rfl (.t2 .nil))<|e_pv 7 rfl rfl (zf yj rfl sz42 rfl rfl)<|e_u 8 rfl rfl (zd 1 ty42 rfl rfl (.s2 (.t2 .nil)))<|zEb (qF_open 1 rfl) (fun _ _=> ?_)
 refine zEb (qF_open 2 rfl) (fun _ _=> ?_)
 refine e_one 4 (zm rfl rfl rfl rfl (.c rfl (.c rfl .n)) ce103 (zCb (w1:=w33) (w2:=w46) (x1:=(q1).num) (x2:=(((q2).den:Nat):Int)) (hb1:=by first|rfl|assumption|omega|(rw [yq];omega)|(decide +kernel)) (hb2:=by first|rfl|assumption|omega|(rw [yq];omega)|(decide +kernel))) (.c (j:=2) rfl (.c (j:=1) rfl .n)) ?_)
 rintro w37 -
 dsimp only [aq,nq,cq]
 refine e_one 9 (zm rfl rfl rfl rfl (.c rfl (.c rfl .n)) ce103 (zCb (w1:=w35) (w2:=w44) (x1:=(q2).num) (x2:=(((q1).den:Nat):Int)) (hb1:=by first|rfl|assumption|omega|(rw [yq];omega)|(decide +kernel)) (hb2:=by first|rfl|assumption|omega|(rw [yq];omega)|(decide +kernel))) (.c (j:=1) rfl (.c (j:=4) rfl .n)) ?_)
 rintro w38 -
 dsimp only [aq,nq,cq]
 refine e_one 10 (zLa rfl rfl rfl rfl (.c rfl (.c rfl .n)) ce102 (zge (w1:=w37) (w2:=w38) (x1:=((q1).num)*(((q2).den:Nat):Int)) (x2:=((q2).num)*(((q1).den:Nat):Int))) (.c (j:=1) rfl (.c (j:=0) rfl .n)) ?_)
 refine e_pv 11 rfl rfl (zh rfl)<|zN kr<|zg<|zS ?_
 exact zM Tryz.results70 () trivial (zC rfl) (by rw [Big.cmp_rat]) (ho:=(.n:PickO _ _ _)) (.n:SelR _ _ _)
theorem zhd {w1:Wd} {x1:Int}:Con yl 126 [.agg #[w1.b,w1.l]] [] [zF w1 x1] (Y:=Wd) (fun y=>True) (fun y=> .agg #[y.b,y.l]) (fun y=>[]) (fun y=>[zF y x1]):=by
 refine zv Tryz.func126 rfl rfl rfl (fun c=> ?_)
 show RunC _ _ _ _ _ [(0,.agg #[w1.b,w1.l])] [] [zF w1 x1]
 refine zj<|zc<|zE rfl rfl (zZ rfl rfl) (fun b1=> ?_)
 refine zE rfl rfl (zo zr42 rfl) (fun b2=> ?_)
 refine zk<|zg<|zj<|zj<|zc<|e_ru (zd 1 ty42 rfl rfl (.t2 .nil))<|zU rfl rfl (.c rfl .n) ce111 (zUe (w1:=w1) (x1:=x1)) (.c (j:=0) rfl .n)<|zk<|zg<|zX rfl rfl<|zj<|zc<|e_ru (zd 1 ty42 rfl rfl (.t2 .nil))<|zl 0 rfl rfl rfl rfl rfl sz42 rfl (.t2 .nil) .z<|zk<|zg<|zS<|zu ?_
 exact zM Tryz.results126 w1 trivial (zr 0 ty42 rfl rfl (.t2 .nil)) rfl (ho:=(.n:PickO _ _ _)) ((.c (j:=0) rfl .n):SelR _ _ _)
theorem zeg {w1:Wd} {w2:Wd} {x1:Int} {x2:Int} (hl1:yx x1≤1048576) (hl2:yx x2≤1048576):Con yl 110 [.agg #[w1.b,w1.l],.agg #[w2.b,w2.l]] [] [zF w1 x1,zF w2 x2] (Y:=Wd×Wd) (fun y=>True) (fun y=> .tuple #[.agg #[y.1.b,y.1.l,y.2.b,y.2.l],yc yd (if x2=0 then 14 else 0)]) (fun y=>[]) (fun y=>[qF (decide (x2≠0)) y.1 y.2 (Rat.divInt x1 x2)]):=by
 refine zv Tryz.func110 rfl rfl rfl (fun c=> ?_)
 show RunC _ _ _ _ _ [(0,.agg #[w1.b,w1.l]),(1,.agg #[w2.b,w2.l])] [] [zF w1 x1,zF w2 x2]
 refine zj<|zc<|zE rfl rfl (zZ rfl rfl) (fun b1=> ?_)
 refine zE rfl rfl (zZ rfl rfl) (fun b2=> ?_)
 refine zE rfl rfl (zo zr44 rfl) (fun b3=> ?_)
 refine e_p (zh rfl)<|zk<|zg<|zj<|zaa (.c (i:=2) rfl (.c (i:=1) rfl (.c (i:=0) rfl .n)))<|zP (OW:=[boxA b1 42 [w1.b,w1.l],boxA b2 42 [w2.b,w2.l]]) (O:=[boxA b3 44 (cw [wz,wz])]) 4 mixed (.then .ret) kr<|e_uw 0 rfl rfl (zd 0 ty42 rfl rfl (.t2 .nil))<|e_uw 2 rfl rfl (zd 1 ty42 rfl rfl (.t2 .nil))<|e_one 1 (zm rfl rfl rfl rfl (.c rfl .n) ce126 (zhd (w1:=w1) (x1:=x1)) (.c (j:=0) rfl .n) ?_)
 rintro w34 -
 dsimp only [aq,nq,cq]
 refine e_one 3 (zm rfl rfl rfl rfl (.c rfl .n) ce126 (zhd (w1:=w2) (x1:=x2)) (.c (j:=2) rfl .n) ?_)
 rintro w35 -
 dsimp only [aq,nq,cq]
 refine e_one 4 (zp kr rfl rfl rfl rfl rfl sz42 rfl (.t2 .nil) ?_)
 refine zhb (zoa (i:=1) rfl)<|e_one 5 (zp kr rfl rfl rfl rfl rfl sz42 rfl (.t2 .nil) ?_)
 refine zN kr<|zg<|zj<|zj<|zc<|e_ru (zd 0 ty42 rfl rfl (.t2 .nil))<|zU rfl rfl (.c rfl .n) ce105 (zAc (w1:=w35) (x1:=x2)) (.c (j:=0) rfl .n)<|e_p (zOa rfl rfl)<|zk<|zg<|zT rfl (fun hz0=> ?_) (fun hz0=> ?_)
 ·
  have hx0:x2=0:=yR.1 hz0
  refine zj<|zc<|e_p (zx zr44 rfl yj (.c sz42 (.c sz42 .n)) .n .n)<|zl 2 rfl rfl rfl rfl rfl sz44 rfl (.t4 .nil) (.s (.s .z))<|e_p (zh rfl)<|zk<|zg<|zS<|zu<|zdb (qF false wz wz 0) (fun g _=>qF_none g) ?_
  exact zCa Tryz.results110 (wz,wz) trivial (zr 2 ty44 rfl rfl (.t4 .nil)) (zC rfl) (by rw [if_pos hx0];rfl) (ho:=(.n:PickO _ _ _)) ((.e (j:=0) rfl (by rw [Big.divInt_nil hx0,decide_eq_false (not_not_intro hx0)]) .n):SelR _ _ _)
 ·
  have hx0:x2≠0:=fun e=>hz0 (yR.2 e)
  refine zw<|zg<|zj<|zc<|e_ru (zd 1 ty42 rfl rfl (.t2 .nil))<|e_ru (zd 0 ty42 rfl rfl (.t2 .nil))<|zG rfl rfl (.c rfl (.c rfl .n)) ce106 (zUb (w1:=w34) (w2:=w35) (x1:=x1) (x2:=x2) (hl1:=ass) (hl2:=ass) (hd:=by first|rfl|assumption|omega|(rw [yq];omega)|(decide +kernel))) (.c (j:=1) rfl (.c (j:=0) rfl .n)) ?_
  rintro ⟨w36,w47⟩ -
  dsimp only [aq,nq,cq]
  refine zl 2 rfl rfl rfl rfl rfl sz44 rfl (.t4 .nil) (.s (.s .z))<|e_p (zh rfl)<|zk<|zg<|zS ?_
  exact zCa Tryz.results110 (w36,w47) trivial (zr 2 ty44 rfl rfl (.t4 .nil)) (zC rfl) (by rw [if_neg hx0]) (ho:=(.n:PickO _ _ _)) ((.e (j:=0) rfl (by rw [decide_eq_true hx0]) .n):SelR _ _ _)
theorem zfg {z1:Int} {z2:Int} (hz1: -9223372036854775808≤z1∧z1≤9223372036854775807) (hz2: -9223372036854775808≤z2∧z2≤9223372036854775807):Con yl 95 [yc yd z1,yc yd z2] [] [] (Y:=Wd×Wd) (fun y=>True) (fun y=> .tuple #[.agg #[y.1.b,y.1.l,y.2.b,y.2.l],yc yd (if z2=0 then 14 else 0)]) (fun y=>[]) (fun y=>[qF (decide (z2≠0)) y.1 y.2 (Rat.divInt z1 z2)]):=by
 refine zv Tryz.func95 rfl rfl rfl (fun c=> ?_)
 show RunC _ _ _ _ _ [(0,yc yd z1),(1,yc yd z2)] [] []
 have g1:=Big.zif hz1.1 hz1.2
 have g2:=Big.zif hz2.1 hz2.2
 refine zj<|zc<|zE rfl rfl (zo zr44 rfl) (fun b1=> ?_)
 refine e_p (zh rfl)<|zk<|zg<|zj<|zc<|e_mv rfl<|zG rfl rfl (.c rfl .n) ce104 (zNd (z:=z1) (hz:=ass)) (.n) ?_
 rintro w32 -
 dsimp only [aq,nq,cq]
 refine e_mv rfl<|zG rfl rfl (.c rfl .n) ce104 (zNd (z:=z2) (hz:=ass)) (.n) ?_
 rintro w33 -
 dsimp only [aq,nq,cq]
 refine zG rfl rfl (.c rfl (.c rfl .n)) ce110 (zeg (w1:=w32) (w2:=w33) (x1:=z1) (x2:=z2) (hl1:=by first|rfl|assumption|omega|(rw [yq];omega)|(decide +kernel)) (hl2:=by first|rfl|assumption|omega|(rw [yq];omega)|(decide +kernel))) (.c (j:=1) rfl (.c (j:=0) rfl .n)) ?_
 rintro ⟨w34,w45⟩ -
 dsimp only [aq,nq,cq]
 refine e_p (zy rfl rfl)<|e_p (zy rfl rfl)<|zl 0 rfl rfl rfl rfl rfl sz44 rfl (.t4 .nil) .z<|e_p (zh rfl)<|zk<|zg<|zS ?_
 exact zCa Tryz.results95 (w34,w45) trivial (zr 0 ty44 rfl rfl (.t4 .nil)) (zC rfl) rfl (ho:=(.n:PickO _ _ _)) ((.c (j:=0) rfl .n):SelR _ _ _)
theorem zpf {z1:Int} {z2:Int} (hz1: -9223372036854775808≤z1∧z1≤9223372036854775807) (hz2: -9223372036854775808≤z2∧z2≤9223372036854775807) (hy:z2≠0):Con yl 95 [yc yd (z1),yc yd (z2)] [] [] (Y:=(Wd)×(Wd)) (fun y=>True) (fun y=> .tuple #[.agg #[y.1.b,y.1.l,y.2.b,y.2.l],yc yd (0)]) (fun y=>[]) (fun y=>[qF true y.1 y.2 (Rat.divInt z1 z2)]):=by
  have h:=zfg hz1 hz2
  rw [if_neg hy,decide_eq_true hy] at h
  exact h
theorem zoc {k1:Bool} {u1:Wd} {v1:Wd} {q1:Rat} {k2:Bool} {u2:Wd} {v2:Wd} {q2:Rat} (hl:yK q1+yK q2+1≤1048576):Con yl 77 [.agg #[u1.b,u1.l,v1.b,v1.l],.agg #[u2.b,u2.l,v2.b,v2.l]] [] [qF k1 u1 v1 q1,qF k2 u2 v2 q2] (Y:=Wd×Wd) (fun y=>True) (fun y=> .tuple #[.agg #[y.1.b,y.1.l,y.2.b,y.2.l],yc yd (if q2=0 then 14 else 0)]) (fun y=>[]) (fun y=>[qF (decide (q2≠0)) y.1 y.2 (q1 / q2)]):=by
 refine zv Tryz.func77 rfl rfl rfl (fun c=> ?_)
 show RunC _ _ _ _ _ [(0,.agg #[u1.b,u1.l,v1.b,v1.l]),(1,.agg #[u2.b,u2.l,v2.b,v2.l])] [] [qF k1 u1 v1 q1,qF k2 u2 v2 q2]
 have a1:=yF q1
 have a2:=yG q1
 have a3:=yF q2
 have a4:=yG q2
 have b1:=yH q1.num q2.den
 have b2:=yH (q1.den:Int) q2.num
 refine zj<|zc<|zE rfl rfl (zZ rfl rfl) (fun b1=> ?_)
 refine zE rfl rfl (zZ rfl rfl) (fun b2=> ?_)
 refine zE rfl rfl (zo zr44 rfl) (fun b3=> ?_)
 refine e_p (zh rfl)<|zk<|zg<|zj<|zaa (.c (i:=2) rfl (.c (i:=1) rfl (.c (i:=0) rfl .n)))<|zP (OW:=[boxA b1 44 (cw [u1,v1]),boxA b2 44 (cw [u2,v2])]) (O:=[boxA b3 44 (cw [wz,wz])]) 4 mixed (.then .ret) kr<|e_uw 0 rfl rfl (zd 0 ty44 rfl rfl (.t4 .nil))<|e_uw 2 rfl rfl (zd 1 ty44 rfl rfl (.t4 .nil))<|e_one 1 (zm rfl rfl rfl rfl (.c rfl .n) ce101 (zYa (k1:=k1) (u1:=u1) (v1:=v1) (q1:=q1)) (.c (j:=0) rfl .n) ?_)
 rintro ⟨w34,w45⟩ -
 dsimp only [aq,nq,cq]
 refine e_one 3 (zm rfl rfl rfl rfl (.c rfl .n) ce101 (zYa (k1:=k2) (u1:=u2) (v1:=v2) (q1:=q2)) (.c (j:=2) rfl .n) ?_)
 rintro ⟨w36,w47⟩ -
 dsimp only [aq,nq,cq]
 refine e_one 4 (zp kr rfl rfl rfl rfl rfl sz44 rfl (.t4 .nil) ?_)
 refine zhb (zoa (i:=1) rfl)<|e_one 5 (zp kr rfl rfl rfl rfl rfl sz44 rfl (.t4 .nil) ?_)
 refine zN kr<|zg<|zj<|zj<|zc<|e_p (zf yj rfl sz42 rfl rfl)<|e_ru (zd 0 ty42 rfl rfl (.t2 .nil))<|zMc (qF_open 0 rfl) (fun _ _=> ?_)
 refine zU rfl rfl (.c rfl .n) ce105 (zAc (w1:=w36) (x1:=(q2).num)) (.c (j:=0) rfl .n)<|e_p (zOa rfl rfl)<|zk<|zg<|zT rfl (fun hz0=> ?_) (fun hz0=> ?_)
 ·
  have hx0:q2=0:=Rat.num_eq_zero.1 (yR.1 hz0)
  refine zj<|zc<|e_p (zx zr44 rfl yj (.c sz42 (.c sz42 .n)) .n .n)<|zl 2 rfl rfl rfl rfl rfl sz44 rfl (.t4 .nil) (.s (.s .z))<|e_p (zh rfl)<|zk<|zg<|zS<|zu<|zdb (qF false wz wz 0) (fun g _=>qF_none g) ?_
  exact zCa Tryz.results77 (wz,wz) trivial (zr 2 ty44 rfl rfl (.t4 .nil)) (zC rfl) (by rw [if_pos hx0];rfl) (ho:=(.n:PickO _ _ _)) ((.e (j:=0) rfl (by rw [Big.div_nil hx0,decide_eq_false (not_not_intro hx0)]) .n):SelR _ _ _)
 ·
  have hx1:q2.num≠0:=fun e=>hz0 (yR.2 e)
  have hx0:q2≠0:=fun e=>hx1 (Rat.num_eq_zero.2 e)
  refine zw<|zg<|zj<|zaa (.c (i:=2) rfl (.c (i:=0) rfl (.c (i:=0) rfl .n)))<|zP (OW:=[boxA b3 44 (cw [wz,wz])]) (O:=[boxA b2 44 (cw [w36,w47]),boxA b1 44 (cw [w34,w45])]) 11 mixed (.then .ret) kr<|e_pv 0 rfl rfl (zf yj rfl sz42 rfl rfl)<|e_uw 1 rfl rfl (zd 2 ty42 rfl rfl (.t2 .nil))<|e_pv 2 rfl rfl (zf yj rfl sz42 rfl rfl)<|e_uw 3 rfl rfl (zd 1 ty42 rfl rfl (.s2 (.t2 .nil)))<|e_pv 5 rfl rfl (zf yj rfl sz42 rfl rfl)<|e_uw 6 rfl rfl (zd 2 ty42 rfl rfl (.s2 (.t2 .nil)))<|e_pv 7 rfl rfl (zf yj rfl sz42 rfl rfl)<|e_uw 8 rfl rfl (zd 1 ty42 rfl rfl (.t2 .nil))<|zEb (qF_open 3 rfl) (fun _ _=> ?_)
  refine e_one 4 (zm rfl rfl rfl rfl (.c rfl (.c rfl .n)) ce103 (zCb (w1:=w34) (w2:=w47) (x1:=(q1).num) (x2:=(((q2).den:Nat):Int)) (hb1:=by first|rfl|assumption|omega|(rw [yq];omega)|(decide +kernel)) (hb2:=by first|rfl|assumption|omega|(rw [yq];omega)|(decide +kernel))) (.c (j:=0) rfl (.c (j:=3) rfl .n)) ?_)
  rintro w38 -
  dsimp only [aq,nq,cq]
  refine e_one 9 (zm rfl rfl rfl rfl (.c rfl (.c rfl .n)) ce103 (zCb (w1:=w45) (w2:=w36) (x1:=(((q1).den:Nat):Int)) (x2:=(q2).num) (hb1:=by first|rfl|assumption|omega|(rw [yq];omega)|(decide +kernel)) (hb2:=by first|rfl|assumption|omega|(rw [yq];omega)|(decide +kernel))) (.c (j:=2) rfl (.c (j:=3) rfl .n)) ?_)
  rintro w39 -
  dsimp only [aq,nq,cq]
  refine e_one 10 (zm rfl rfl rfl rfl (.c rfl (.c rfl .n)) ce106 (zUb (w1:=w38) (w2:=w39) (x1:=((q1).num)*(((q2).den:Nat):Int)) (x2:=(((q1).den:Nat):Int)*((q2).num)) (hl1:=by first|rfl|assumption|omega|(rw [yq];omega)|(decide +kernel)) (hl2:=by first|rfl|assumption|omega|(rw [yq];omega)|(decide +kernel)) (hd:=by exact Int.mul_ne_zero (yV q1) hx1)) (.c (j:=1) rfl (.c (j:=0) rfl .n)) ?_)
  rintro ⟨w310,w411⟩ -
  dsimp only [aq,nq,cq]
  refine e_one 11 (zp kr rfl rfl rfl rfl rfl sz44 rfl (.t4 .nil) ?_)
  refine e_pv 12 rfl rfl (zh rfl)<|zN kr<|zg<|zS ?_
  exact zCa Tryz.results77 (w310,w411) trivial (zr 0 ty44 rfl rfl (.t4 .nil)) (zC rfl) (by rw [if_neg hx0]) (ho:=(.n:PickO _ _ _)) ((.e (j:=0) rfl (by rw [decide_eq_true hx0,Big.div_parts hx1]) .n):SelR _ _ _)
theorem zBc {k1:Bool} {u1:Wd} {v1:Wd} {q1:Rat} {k2:Bool} {u2:Wd} {v2:Wd} {q2:Rat} (hl:yK q1+yK q2+1≤1048576) (hy:q2≠0):Con yl 77 [.agg #[u1.b,u1.l,v1.b,v1.l],.agg #[u2.b,u2.l,v2.b,v2.l]] [] [qF k1 u1 v1 (q1),qF k2 u2 v2 (q2)] (Y:=(Wd)×(Wd)) (fun y=>True) (fun y=> .tuple #[.agg #[y.1.b,y.1.l,y.2.b,y.2.l],yc yd (0)]) (fun y=>[]) (fun y=>[qF true y.1 y.2 (q1 / q2)]):=by
  have h:= @zoc k1 u1 v1 q1 k2 u2 v2 q2 hl
  rw [if_neg hy,decide_eq_true hy] at h
  exact h
end Go.Proofs.YtjeahiahjgifgaaGreatDoor.Sp
namespace Go.Proofs.YtjeahiahjgifgaaGreatDoor.Sp
open Go
set_option linter.unusedVariables false
set_option maxRecDepth 100000
set_option maxHeartbeats 8000000
theorem zRd {a:Int} {b:Int} {bf:Nat} {uf:Wd} {vf:Wd} {qf:Rat} (ha: -1048576≤a∧a≤1048576) (hb: -1048576≤b∧b≤1048576) (hqf:yK qf≤6):Con yl 96 [yc yd a,yc yd b,ye (some ⟨bf,0,none⟩)] [] [atF bf 0 [uf.b,uf.l,vf.b,vf.l],qF true uf vf qf] (Y:=Wd×Wd) (fun y=>True) (fun y=> .agg #[y.1.b,y.1.l,y.2.b,y.2.l]) (fun y=>[]) (fun y=>[qF true y.1 y.2 (((a:Int):Rat)+(qf*(((b - a):Int):Rat)))]):=by
 refine zv Tryz.func96 rfl rfl rfl (fun c=> ?_)
 show RunC _ _ _ _ _ [(0,yc yd a),(1,yc yd b),(2,ye (some ⟨bf,0,none⟩))] [] [atF bf 0 [uf.b,uf.l,vf.b,vf.l],qF true uf vf qf]
 refine zj<|zc<|zE rfl rfl (zo zr44 rfl) (fun b1=> ?_)
 refine zk<|zg<|zj<|zP (OW:=[boxA b1 44 (cw [wz,wz])]) (O:=[]) 9 mixed (.then .ret) kr<|e_dm 0 rfl rfl rfl<|e_u 2 rfl rfl (zba (j:=0) 0 ty44 rfl rfl rfl (.t4 .nil))<|e_dm 3 rfl rfl rfl<|e_dm 4 rfl rfl rfl<|e_pv 5 rfl rfl (zna (z:=(b - a)) rfl rfl (w64 om))<|e_one 1 (zm rfl rfl rfl rfl (.c rfl .n) ce71 (zD (z:=a) (hz:=yX)) (.n) ?_)
 rintro ⟨w32,w43⟩ -
 dsimp only [aq,nq,cq]
 refine e_one 6 (zm rfl rfl rfl rfl (.c rfl .n) ce71 (zD (z:=(b - a)) (hz:=yX)) (.n) ?_)
 rintro ⟨w34,w45⟩ -
 dsimp only [aq,nq,cq]
 refine e_one 7 (zm rfl rfl rfl rfl (.c rfl (.c rfl .n)) ce81 (zca (k1:=true) (u1:=uf) (v1:=vf) (q1:=qf) (k2:=true) (u2:=w34) (v2:=w45) (q2:=(((b - a):Int):Rat)) (hl:=yX)) (.c (j:=3) rfl (.c (j:=0) rfl .n)) ?_)
 rintro ⟨w36,w47⟩ -
 dsimp only [aq,nq,cq]
 refine e_one 8 (zm rfl rfl rfl rfl (.c rfl (.c rfl .n)) ce80 (zpa (k1:=true) (u1:=w32) (v1:=w43) (q1:=((a:Int):Rat)) (k2:=true) (u2:=w36) (v2:=w47) (q2:=qf*(((b - a):Int):Rat)) (hl:=yX)) (.c (j:=2) rfl (.c (j:=0) rfl .n)) ?_)
 rintro ⟨w38,w49⟩ -
 dsimp only [aq,nq,cq]
 refine e_one 9 (zp kr rfl rfl rfl rfl rfl sz44 rfl (.t4 .nil) ?_)
 refine zN kr<|zg<|zS ?_
 exact zM Tryz.results96 (w38,w49) trivial (zr 0 ty44 rfl rfl (.t4 .nil)) rfl (ho:=(.n:PickO _ _ _)) ((.c (j:=0) rfl .n):SelR _ _ _)
theorem zTc {s:Sh.S} {r:Int} (hok:Sh.Ok s) (hr:0≤r∧r≤64) (hlt:s.ta<s.tb):Con yl 61 [.agg #[yc yd (s.fi),yc yd (s.st),yc yd (s.ta),yc yd (s.xa),yc yd (s.ya),yc yd (s.za),yc yd (s.qa),yc yd (s.qb),yc yd (s.qc),yc yd (s.qd),yc yd (s.tb),yc yd (s.xb),yc yd (s.yb),yc yd (s.zb),yc yd (s.ra),yc yd (s.rb),yc yd (s.rc),yc yd (s.rd)],yc yd r] [] [] (Y:=Wd×Wd×Wd×Wd×Wd×Wd) (fun y=>True) (fun y=> .agg #[y.1.b,y.1.l,y.2.1.b,y.2.1.l,y.2.2.1.b,y.2.2.1.l,y.2.2.2.1.b,y.2.2.2.1.l,y.2.2.2.2.1.b,y.2.2.2.2.1.l,y.2.2.2.2.2.b,y.2.2.2.2.2.l]) (fun y=>[]) (fun y=>[qF true y.1 y.2.1 ((Sh.pos s r).1),qF true y.2.2.1 y.2.2.2.1 ((Sh.pos s r).2.1),qF true y.2.2.2.2.1 y.2.2.2.2.2 ((Sh.pos s r).2.2)]):=by
 refine zv Tryz.func61 rfl rfl rfl (fun c=> ?_)
 show RunC _ _ _ _ _ [(0,.agg #[yc yd (s.fi),yc yd (s.st),yc yd (s.ta),yc yd (s.xa),yc yd (s.ya),yc yd (s.za),yc yd (s.qa),yc yd (s.qb),yc yd (s.qc),yc yd (s.qd),yc yd (s.tb),yc yd (s.xb),yc yd (s.yb),yc yd (s.zb),yc yd (s.ra),yc yd (s.rb),yc yd (s.rc),yc yd (s.rd)]),(1,yc yd r)] [] []
 have hn:=hok.n
 have hpa:=hok.pa
 have hpb:=hok.pb
 have hqa:=hok.qa
 have hqb:=hok.qb
 have htm:=Sh.tm_b hok hr
 have hrs: -(64*1073741824)≤r*s.st∧r*s.st≤64*1073741824:=by have h8:=htm;unfold Sh.tm at h8;have h9:=Sh.mul_b (x:=r) (y:=s.st) (m:=64) (n:=1073741824) om om;omega
 have hfq:=Sh.frc_hq hok hr
 refine zj<|zc<|zE rfl rfl (zZ rfl rfl) (fun b1=> ?_)
 refine zE rfl rfl (zo zr106 rfl) (fun b2=> ?_)
 refine zk<|zg<|zj<|zc<|e_p (zf yt rfl sz3 rfl rfl)<|e_ru (ze 1 ty3 rfl rfl rfl)<|e_mv rfl<|e_p (zf yt rfl sz3 rfl rfl)<|e_ru (ze 1 ty3 rfl rfl rfl)<|e_p (zJa (z:=(r*s.st)) rfl rfl (w64 om))<|e_p (zH (z:=(s.fi+(r*s.st))) rfl rfl (w64 om))<|e_p (zf yt rfl sz27 rfl rfl)<|e_p (zf yv rfl sz3 rfl rfl)<|e_ru (ze 1 ty3 rfl rfl rfl)<|e_p (zna (z:=((s.fi+(r*s.st)) - s.ta)) rfl rfl (w64 om))<|e_p (zf yt rfl sz27 rfl rfl)<|e_p (zf yv rfl sz3 rfl rfl)<|e_ru (ze 1 ty3 rfl rfl rfl)<|e_p (zf yt rfl sz27 rfl rfl)<|e_p (zf yv rfl sz3 rfl rfl)<|e_ru (ze 1 ty3 rfl rfl rfl)<|e_p (zna (z:=(s.tb - s.ta)) rfl rfl (w64 om))<|zG rfl rfl (.c rfl (.c rfl .n)) ce95 (zpf (z1:=((s.fi+(r*s.st)) - s.ta)) (z2:=(s.tb - s.ta)) (hz1:=yX) (hz2:=yX) (hy:=yX)) (.n) ?_
 rintro ⟨w33,w44⟩ -
 dsimp only [aq,nq,cq]
 refine e_mv rfl<|e_p (zy rfl rfl)<|e_p (zy rfl rfl)<|zE rfl rfl (zo zr44 rfl) (fun b5=> ?_)
 refine zl 0 rfl rfl rfl rfl rfl sz44 rfl (.t4 .nil) .z<|e_p (zh rfl)<|zk<|zg<|zj ?_
 have e6:s.fi+(r*s.st)=Sh.tm s r:=by rfl
 rw [e6]
 have e7:(Rat.divInt ((Sh.tm s r) - s.ta) (s.tb - s.ta):Rat)=Sh.frc s r:=by rfl
 rw [e7]
 refine zdd 0 rfl .z<|zc<|e_p (zmc .n (.c rfl .n))<|e_p (zh rfl)<|zk<|zg<|zj<|zaa (.c (i:=1) rfl (.c (i:=1) rfl .n))<|zP (OW:=[boxA b2 106 (cw [wz,wz,wz,wz,wz,wz])]) (O:=[boxA b1 29 (cS s)]) 31 mixed (.then .ret) kr<|e_dm 0 rfl rfl rfl<|e_pv 1 rfl rfl (zf yt rfl sz27 rfl rfl)<|e_pv 2 rfl rfl (zf yv rfl sz23 rfl rfl)<|e_pv 3 rfl rfl (zf yD rfl sz3 rfl rfl)<|e_uw 4 rfl rfl (ze 1 ty3 rfl rfl rfl)<|e_pv 5 rfl rfl (zf yt rfl sz27 rfl rfl)<|e_pv 6 rfl rfl (zf yv rfl sz23 rfl rfl)<|e_pv 7 rfl rfl (zf yD rfl sz3 rfl rfl)<|e_uw 8 rfl rfl (ze 1 ty3 rfl rfl rfl)<|e_dm 10 rfl rfl rfl<|e_pv 11 rfl rfl (zf yt rfl sz27 rfl rfl)<|e_pv 12 rfl rfl (zf yv rfl sz23 rfl rfl)<|e_pv 13 rfl rfl (zf yD rfl sz3 rfl rfl)<|e_uw 14 rfl rfl (ze 1 ty3 rfl rfl rfl)<|e_pv 15 rfl rfl (zf yt rfl sz27 rfl rfl)<|e_pv 16 rfl rfl (zf yv rfl sz23 rfl rfl)<|e_pv 17 rfl rfl (zf yD rfl sz3 rfl rfl)<|e_uw 18 rfl rfl (ze 1 ty3 rfl rfl rfl)<|e_dm 20 rfl rfl rfl<|e_pv 21 rfl rfl (zf yt rfl sz27 rfl rfl)<|e_pv 22 rfl rfl (zf yv rfl sz23 rfl rfl)<|e_pv 23 rfl rfl (zf yD rfl sz3 rfl rfl)<|e_uw 24 rfl rfl (ze 1 ty3 rfl rfl rfl)<|e_pv 25 rfl rfl (zf yt rfl sz27 rfl rfl)<|e_pv 26 rfl rfl (zf yv rfl sz23 rfl rfl)<|e_pv 27 rfl rfl (zf yD rfl sz3 rfl rfl)<|e_uw 28 rfl rfl (ze 1 ty3 rfl rfl rfl)<|e_one 9 (zvd (first:=[]) (cap:=[ye (some ⟨b5,0,none⟩)]) rfl rfl rfl rfl rfl (.c rfl (.c rfl .n)) ce96 (zRd (a:=s.xa) (b:=s.xb) (bf:=b5) (uf:=w33) (vf:=w44) (qf:=Sh.frc s r) (ha:=yX) (hb:=yX) (hqf:=yX)) (.c (j:=0) rfl (.c (j:=1) rfl .n)) ?_)
 rintro ⟨w38,w49⟩ -
 dsimp only [aq,nq,cq]
 refine e_one 19 (zvd (first:=[]) (cap:=[ye (some ⟨b5,0,none⟩)]) rfl rfl rfl rfl rfl (.c rfl (.c rfl .n)) ce96 (zRd (a:=s.ya) (b:=s.yb) (bf:=b5) (uf:=w33) (vf:=w44) (qf:=Sh.frc s r) (ha:=yX) (hb:=yX) (hqf:=yX)) (.c (j:=1) rfl (.c (j:=2) rfl .n)) ?_)
 rintro ⟨w310,w411⟩ -
 dsimp only [aq,nq,cq]
 refine e_one 29 (zvd (first:=[]) (cap:=[ye (some ⟨b5,0,none⟩)]) rfl rfl rfl rfl rfl (.c rfl (.c rfl .n)) ce96 (zRd (a:=s.za) (b:=s.zb) (bf:=b5) (uf:=w33) (vf:=w44) (qf:=Sh.frc s r) (ha:=yX) (hb:=yX) (hqf:=yX)) (.c (j:=2) rfl (.c (j:=3) rfl .n)) ?_)
 rintro ⟨w312,w413⟩ -
 dsimp only [aq,nq,cq]
 refine e_pv 30 rfl rfl (zsa zr106 rfl Tryz.underlying106 sz44 (.c rfl (.c rfl (.c rfl .n))) (.c rfl rfl rfl (.t4 .nil) (.c rfl rfl rfl (.s4 (.t4 .nil)) (.c rfl rfl rfl (.s8 (.t4 .nil)) .n))))<|e_one 31 (zp kr rfl rfl rfl rfl rfl sz106 rfl (.t8 (.t4 .nil)) ?_)
 refine zN kr<|zg<|zS ?_
 exact zM Tryz.results61 (w38,w49,w310,w411,w312,w413) trivial (zr 0 ty106 rfl rfl (.t8 (.t4 .nil))) rfl (ho:=(.n:PickO _ _ _)) ((.of [2,1,0] rfl):SelR _ _ _)
end Go.Proofs.YtjeahiahjgifgaaGreatDoor.Sp
