/- Lemmas on the walk and plain lemmas that the claim of this folder uses; each states its own conditions. Lines were printed by a program of ours. -/
import Derived.Test.YtjcpbhlijoigfaaGreatZ10C
set_option linter.unusedVariables false
set_option linter.unusedSimpArgs false
set_option linter.unusedSectionVars false
open Go.Value renaming int → ya, pointer → yc
open Go.IntKind renaming i64 → yb
open Go.Proofs.YtjcpbhlijoigfaaGreat.Big renaming digs → yd, valL → yf, raw → yk, okL_getD → ym, trimL → yn, digs_ok → yo, zS → yp, raw_big → yq, okL → yr, ln → yt, sg → yu, valL_digs → yw, pw → yx, hq_num → yz, hq_den → yA, len_digs_nil → yB, cmp → yC, getD_set_ne → yD, okL_snoc → yF, nn → yG, ln_mono' → yH, hq → yI, okL_set → yJ, zHa → yK, sign_zero → yL, qv → yM, sg_raw → yN, two_lt → yO, den_ne → yP, LgI → yQ
open Go.Proofs.Tryz renaming underlying39 → ye, underlying121 → yg, underlying120 → yh, underlying43 → yi, prog → yj, underlying41 → yl, underlying2 → yv, underlying4 → yy, results155 → yE
namespace Go.Proofs.YtjcpbhlijoigfaaGreat.Sp
open Go
set_option linter.unusedVariables false
set_option maxRecDepth 100000
set_option maxHeartbeats 8000000
theorem zEb {p:Option Addr} {n:Nat} {cap:Nat} {l:List Int} (hn:l.length=n):Con yj 134 [.slice p n cap] [] [slF (rI .u32) p cap l] (Y:=Unit) (fun y=>True) (fun y=> .slice p ((yn l).length) cap) (fun y=>[]) (fun y=>[slF (rI .u32) p cap (yn l)]):=by
 refine zm Tryz.func134 rfl rfl rfl (fun c=> ?_)
 show RunC _ _ _ _ _ [(0,.slice p n cap)] [] [slF (rI .u32) p cap l]
 refine zba 0 rfl (fun hL0=> ?_)
 refine zg<|za<|e_p (zb rfl)<|zh<|zd<|zg<|zB<|zka (X:=Nat) (fun x:Nat=>x≤l.length∧yn (l.take x)=yn l) (fun x=>[(0,.slice p x cap),(2,.slice none 0 0)]) (fun x=>[]) (fun x=>[slF (rI .u32) p cap (l.take x),slF (rI .u32) p cap l]) (fun x:Nat=>x) n (show n≤l.length∧yn (l.take n)=yn l from by exact ⟨by omega,by rw [List.take_of_length_le om]⟩) ((.c rfl (.c rfl .n)):SubM _ _) (ho:=(.n:PickO _ _ _)) ((.e (j:=0) rfl (by rw [List.take_of_length_le om]) (.c (j:=0) rfl .n)):SelR _ _ _) ?_
 rintro k hI
 replace hI:k≤l.length∧yn (l.take k)=yn l:=hI
 try dsimp only
 obtain ⟨hk,hT⟩:=hI
 have hlt:(l.take k).length=k:=by rw [List.length_take];omega
 refine zg<|zEa (X:=Unit) (fun x=>True) (fun x=>[(14,.bool (decide (0<k∧l.getD (k - 1) 0=0))),(0,.slice p k cap),(2,.slice none 0 0)]) (fun x=>[]) (fun x=>[slF (rI .u32) p cap (l.take k),slF (rI .u32) p cap l]) ?_ ?_
 ·
  refine za<|e_mv rfl<|e_p (zN ye rfl)<|e_p (zAa rfl rfl)<|zaa rfl rfl (zX rfl) (fun h1=> ?_) (fun h1=> ?_)
  ·
   refine e_mv rfl<|e_mv rfl<|e_p (zN ye rfl)<|e_p (zla (z:=(((k:Nat):Int) - 1)) rfl rfl (w64 om))<|zP (x0:=((l.take k).getD ((((k:Nat):Int) - 1).toNat) 0)) 0 ((((k:Nat):Int) - 1).toNat) rfl ye sz121 rfl rfl rfl cbs rfl om (gD (d:=0) om) (fun b2 o3 hok4=> ?_)
   replace hok4:=zG.1 hok4
   refine e_ru (zx (j:=0) 0 ty121 rfl rfl rfl rfl)<|e_p (zua rfl rfl)<|e_p (zo rfl rfl)<|zh ?_
   exact zga () (show True from by first|trivial|omega|simp_all) ((.e rfl (congrArg Value.bool (by rw [Big.getD_take l om];have h1:0<k:=om;have h2:((k:Int) - 1).toNat=k - 1:=om;simp [h1,h2])) (.c rfl (.c rfl .n))):SubM _ _) (ho:=(.n:PickO _ _ _)) ((.of [1,2] rfl):SelR _ _ _)
  ·
   refine e_no<|e_no<|e_no<|e_no<|e_no<|e_no<|e_no<|e_p (zo rfl rfl)<|zh ?_
   exact zga () (show True from by first|trivial|omega|simp_all) ((.e rfl (congrArg Value.bool (by have h1:¬0<k:=om;simp [h1])) (.c rfl (.c rfl .n))):SubM _ _) (ho:=(.n:PickO _ _ _)) ((.of [0,1] rfl):SelR _ _ _)
 ·
  rintro ⟨⟩ -
  try dsimp only
  refine zC rfl (fun hc=> ?_) (fun hc=> ?_)
  ·
   refine zA<|zd<|zB<|za<|e_mv rfl<|e_mv rfl<|e_p (zN ye rfl)<|e_p (zla (z:=(((k - 1):Nat):Int)) rfl rfl (w64 om))<|e_p (zwb (hi:=(k - 1)) ye sz121 rfl (.s rfl) (.inr ⟨_,rfl⟩) om)<|zEc (zjc 0 rfl (k - 1) om) (fun _ _=> ?_)
   refine e_p (zb rfl)<|zh<|zO<|zda (k - 1) (show (k - 1)≤l.length∧yn (l.take (k - 1))=yn l from by exact ⟨by omega,by rw [← hT,Big.trim_go l hc.1 hk hc.2]⟩) (by show k - 1<k;omega) ((.e rfl (by first|rfl|(congr 1;omega)|simp_all) (.c rfl .n)):SubM _ _) (ho:=(.n:PickO _ _ _)) ((.e (j:=0) rfl (by rw [List.take_take];congr 2;omega) (.c (j:=2) rfl .n)):SelR _ _ _)
  ·
   refine zja<|zj<|zj<|zt<|zd<|zg<|za<|e_mv rfl<|e_p (zb rfl)<|zh<|zd<|zH ?_
   have hfin:yn l=l.take k:=by rw [← hT];exact Big.trim_stop l hk hc
   exact zy Tryz.results134 () trivial (zl rfl) (by rw [hfin,hlt]) (ho:=(.n:PickO _ _ _)) ((.e (j:=0) rfl (by rw [hfin]) .n):SelR _ _ _)
theorem zCe {p:Option Addr} {n:Nat} {cap:Nat} {l:List Int} {i:Nat} (hn:l.length=n) (hi:i≤4611686018427387904):Con yj 147 [.slice p n cap,ya yb ((i:Nat):Int)] [] [slF (rI .u32) p cap l] (Y:=Unit) (fun y=>True) (fun y=> .int .u32 (l.getD i 0)) (fun y=>[]) (fun y=>[]):=by
 refine zm Tryz.func147 rfl rfl rfl (fun c=> ?_)
 show RunC _ _ _ _ _ [(0,.slice p n cap),(1,ya yb ((i:Nat):Int))] [] [slF (rI .u32) p cap l]
 refine zba 0 rfl (fun hL0=> ?_)
 refine zg<|za<|e_p (zb rfl)<|zh<|zd<|zg<|zg<|za<|e_mv rfl<|e_mv rfl<|e_p (zN ye rfl)<|e_p (zY rfl rfl)<|zh<|zd<|zC rfl (fun h1=> ?_) (fun h1=> ?_)
 ·
  refine zg<|za<|e_mv rfl<|e_mv rfl<|zP (x0:=(l.getD i 0)) 0 i rfl ye sz121 rfl rfl rfl cbs rfl rfl (gD (d:=0) om) (fun b2 o3 hok4=> ?_)
  replace hok4:=zG.1 hok4
  refine e_ru (zx (j:=0) 0 ty121 rfl rfl rfl rfl)<|e_p (zb rfl)<|zh<|zd<|zH<|zi ?_
  exact zy Tryz.results147 () trivial (zl rfl) rfl (ho:=(.n:PickO _ _ _)) (.n:SelR _ _ _)
 ·
  refine zA<|zd<|zg<|za<|e_p (zb rfl)<|zh<|zd<|zH ?_
  exact zy Tryz.results147 () trivial (zl rfl) (by rw [show l.getD i 0=0 by simp [List.getD,List.getElem?_eq_none (show l.length≤i by omega)]]) (ho:=(.n:PickO _ _ _)) (.n:SelR _ _ _)
theorem zfg {p1:Option Addr} {n1:Nat} {c1:Nat} {l1:List Int} {p2:Option Addr} {n2:Nat} {c2:Nat} {l2:List Int} (hn1:l1.length=n1) (hn2:l2.length=n2) (hb1:n1≤1099511627776) (hb2:n2≤1099511627776) (ho1:yr l1) (ho2:yr l2):Con yj 135 [.slice p1 n1 c1,.slice p2 n2 c2] [] [slF (rI .u32) p1 c1 l1,slF (rI .u32) p2 c2 l2] (Y:=(Option Addr)×Nat) (fun y=>True) (fun y=> .slice (y.1) ((yd (yf l1+yf l2).toNat).length) (y.2)) (fun y=>[]) (fun y=>[slF (rI .u32) (y.1) (y.2) (yd (yf l1+yf l2).toNat)]):=by
 refine zm Tryz.func135 rfl rfl rfl (fun c=> ?_)
 show RunC _ _ _ _ _ [(0,.slice p1 n1 c1),(1,.slice p2 n2 c2)] [] [slF (rI .u32) p1 c1 l1,slF (rI .u32) p2 c2 l2]
 refine zba 0 rfl (fun hL0=> ?_)
 refine zba 1 rfl (fun hL1=> ?_)
 refine zg<|za<|e_p (zb rfl)<|zh<|zd<|zg<|za<|e_mv rfl<|e_p (zN ye rfl)<|e_mv rfl<|e_p (zN ye rfl)<|e_p (v:= ya yb (((max n1 n2):Nat):Int)) (by rw [show ((((max n1 n2):Nat):Int):Int)=max ((n1:Nat):Int) ((n2:Nat):Int) by omega];exact zff rfl rfl)<|e_p (zI (z:=((((max n1 n2)+1):Nat):Int)) rfl rfl (w64 om))<|zFa rfl rfl (zqb (r:=rI .u32) (k:=((max n1 n2)+1)) (x0:=0) (γ0:=()) ye inf121 rfl rfl rfl rfl om om rfl (fun g _=>by exact zG.2 dd) dd) (fun b1 _=> ?_)
 refine e_p (zb rfl)<|zh<|zd<|zg<|za<|e_p (zb rfl)<|zh<|zd<|zg<|zg<|za<|e_mv rfl<|e_p (zN ye rfl)<|e_mv rfl<|zh<|zd<|zB<|zka (X:=Nat×(List Int)×Int) (fun x:Nat×(List Int)×Int=>x.1≤max n1 n2+1∧x.2.1.length=x.1∧0≤x.2.2∧x.2.2≤1∧yr x.2.1∧yf x.2.1+yx x.1*x.2.2=yf (l1.take x.1)+yf (l2.take x.1)) (fun x=>[(6,.int .u32 (x.2.2)),(18,ya yb ((x.1:Nat):Int)),(17,ya yb ((((max n1 n2)+1):Nat):Int)),(5,.slice (some ⟨b1,0,none⟩) ((max n1 n2)+1) ((max n1 n2)+1)),(4,.slice none 0 0),(0,.slice p1 n1 c1),(1,.slice p2 n2 c2)]) (fun x=>[rowA 121 (rI .u32) (some ⟨b1,0,none⟩) ((max n1 n2)+1) (x.2.1++List.replicate (max n1 n2+1 - x.1) 0)]) (fun x=>[slF (rI .u32) p1 c1 l1,slF (rI .u32) p2 c2 l2]) (fun x:Nat×(List Int)×Int=>max n1 n2+1 - x.1) (0,[],0) (show 0≤max n1 n2+1∧([]).length=0∧0≤0∧0≤1∧yr ([])∧yf ([])+yx 0*0=yf (l1.take 0)+yf (l2.take 0) from by exact ⟨by omega,rfl,by decide,by decide,Big.okL_nil,by simp [yf]⟩) ((.c rfl (.e rfl (by first|rfl|(congr 1;omega)|simp_all) (.of rfl))):SubM _ _) (ho:=((.e (i:=0) rfl (by simp) .n):PickO _ _ _)) ((.of [0,1] rfl):SelR _ _ _) ?_
 rintro ⟨i,os,cy⟩ hI
 replace hI:i≤max n1 n2+1∧os.length=i∧0≤cy∧cy≤1∧yr os∧yf os+yx i*cy=yf (l1.take i)+yf (l2.take i):=hI
 try dsimp only
 obtain ⟨hi,hol,hc0,hc1,hok,hv⟩:=hI
 have hg1:=ym ho1 i
 have hg2:=ym ho2 i
 refine zg<|za<|e_p (zY rfl rfl)<|zh<|zd<|zg<|zC rfl (fun h2=> ?_) (fun h2=> ?_)
 ·
  refine zA<|zd<|zg<|zB<|zg<|za<|e_mv rfl<|e_p (zb rfl)<|zh<|zd<|zg<|za<|e_mv rfl<|e_mv rfl<|zL rfl rfl (.c rfl (.c rfl .n)) ce147 (zCe (p:=p1) (n:=n1) (cap:=c1) (l:=l1) (i:=i) (hn:=ass) (hi:=cbb)) (.c (j:=0) rfl .n)<|e_mv rfl<|e_mv rfl<|zL rfl rfl (.c rfl (.c rfl .n)) ce147 (zCe (p:=p2) (n:=n2) (cap:=c2) (l:=l2) (i:=i) (hn:=ass) (hi:=cbb)) (.c (j:=1) rfl .n)<|e_p (zI (z:=(l1.getD i 0+l2.getD i 0)) rfl rfl (wu32 om))<|e_mv rfl<|e_p (zI (z:=((l1.getD i 0+l2.getD i 0)+cy)) rfl rfl (wu32 om))<|e_p (zb rfl)<|zh<|zd<|zg<|za<|e_p (zb rfl)<|zh<|zd<|zg<|zg<|za<|e_mv rfl<|e_p (zJa rfl rfl)<|zh<|zd<|zC rfl (fun hc=> ?_) (fun hc=> ?_)
  ·
   refine za<|e_mv rfl<|e_p (zla (z:=(((l1.getD i 0+l2.getD i 0)+cy) - 1000000000)) rfl rfl (wu32 om))<|e_p (zb rfl)<|e_p (zb rfl)<|zh<|zd<|za<|e_mv rfl<|e_mv rfl<|e_mv rfl<|e_p (zia (j:=i) ye sz121 rfl rfl rfl om)<|zIa 0 rfl rfl rfl (zea (j:=i) (x0:=(((l1.getD i 0+l2.getD i 0)+cy) - 1000000000)) (γ0:=()) rfl rfl (by first|omega|(rw [List.length_map];omega)|(simp only [List.length_set];omega)|(simp;done)|(simp;omega)) rfl rfl sz121 (fun _ _=>by exact zG.2 om)) (fun _=> .z) (fun _ _=> ?_)
   refine zh<|zO<|zd<|za<|e_p (zI (z:=(((i+1):Nat):Int)) rfl rfl (w64 om))<|e_mv rfl<|zh<|zda ((i+1),os++[l1.getD i 0+l2.getD i 0+cy - 1000000000],1) (show (i+1)≤max n1 n2+1∧(os++[l1.getD i 0+l2.getD i 0+cy - 1000000000]).length=(i+1)∧0≤1∧1≤1∧yr (os++[l1.getD i 0+l2.getD i 0+cy - 1000000000])∧yf (os++[l1.getD i 0+l2.getD i 0+cy - 1000000000])+yx (i+1)*1=yf (l1.take (i+1))+yf (l2.take (i+1)) from by exact ⟨by omega,by simp [hol],by decide,by decide,yF hok om om,Big.plus_step hol hv om⟩) (by show max n1 n2+1 - (i+1)<max n1 n2+1 - i;omega) ((.of rfl):SubM _ _) (ho:=((.e (i:=0) rfl (by rw [Big.set_pad hol om]) .n):PickO _ _ _)) ((.of [0,1] rfl):SelR _ _ _)
  ·
   refine zA<|zd<|za<|e_mv rfl<|e_mv rfl<|e_mv rfl<|e_p (zia (j:=i) ye sz121 rfl rfl rfl om)<|zIa 0 rfl rfl rfl (zea (j:=i) (x0:=((l1.getD i 0+l2.getD i 0)+cy)) (γ0:=()) rfl rfl (by first|omega|(rw [List.length_map];omega)|(simp only [List.length_set];omega)|(simp;done)|(simp;omega)) rfl rfl sz121 (fun _ _=>by exact zG.2 om)) (fun _=> .z) (fun _ _=> ?_)
   refine zh<|zO<|zd<|za<|e_p (zI (z:=(((i+1):Nat):Int)) rfl rfl (w64 om))<|e_mv rfl<|zh<|zda ((i+1),os++[l1.getD i 0+l2.getD i 0+cy],0) (show (i+1)≤max n1 n2+1∧(os++[l1.getD i 0+l2.getD i 0+cy]).length=(i+1)∧0≤0∧0≤1∧yr (os++[l1.getD i 0+l2.getD i 0+cy])∧yf (os++[l1.getD i 0+l2.getD i 0+cy])+yx (i+1)*0=yf (l1.take (i+1))+yf (l2.take (i+1)) from by exact ⟨by omega,by simp [hol],by decide,by decide,yF hok om om,Big.plus_step hol hv om⟩) (by show max n1 n2+1 - (i+1)<max n1 n2+1 - i;omega) ((.of rfl):SubM _ _) (ho:=((.e (i:=0) rfl (by rw [Big.set_pad hol om]) .n):PickO _ _ _)) ((.of [0,1] rfl):SelR _ _ _)
 ·
  have e3:os++List.replicate (max n1 n2+1 - i) 0=os:=by rw [show max n1 n2+1 - i=0 by omega];simp
  rw [e3]
  have hfin:=Big.plus_fin ho1 ho2 hok hc0 hol om hv
  have htr:yn os=yd (yf l1+yf l2).toNat:=by rw [Big.digs_valL hok,hfin]
  refine zja<|zj<|zj<|zt<|zd<|zg<|za<|e_mv rfl<|zma 0 rfl .z<|zE rfl rfl (.c rfl .n) ce134 (zEb (p:=some ⟨b1,0,none⟩) (n:=((max n1 n2)+1)) (cap:=((max n1 n2)+1)) (l:=os) (hn:=cbb)) (.c (j:=0) rfl .n) ?_
  rintro ⟨⟩ -
  dsimp only [aq,nq,cq]
  refine e_p (zb rfl)<|zh<|zd<|zH ?_
  exact zy Tryz.results135 ((some ⟨b1,0,none⟩),((max n1 n2)+1)) trivial (zl rfl) (by rw [htr]) (ho:=(.n:PickO _ _ _)) ((.e (j:=0) rfl (by rw [htr]) .n):SelR _ _ _)
theorem zQd {a:Nat} {b:Nat} {p1:Option Addr} {c1:Nat} {p2:Option Addr} {c2:Nat} (hb1:(yd (a)).length≤1099511627776) (hb2:(yd (b)).length≤1099511627776):Con yj 135 [.slice (p1) ((yd (a)).length) (c1),.slice (p2) ((yd (b)).length) (c2)] [] [slF (rI .u32) (p1) (c1) (yd (a)),slF (rI .u32) (p2) (c2) (yd (b))] (Y:=(Option Addr)×(Nat)) (fun y=>True) (fun y=> .slice (y.1) ((yd (a+b)).length) (y.2)) (fun y=>[]) (fun y=>[slF (rI .u32) (y.1) (y.2) (yd (a+b))]):=by
  have h:= @zfg p1 (yd a).length c1 (yd a) p2 (yd b).length c2 (yd b) rfl rfl hb1 hb2 (yo a) (yo b)
  rw [yw,yw,show ((a:Int)+(b:Int)).toNat=a+b by omega] at h
  exact h
theorem zoc {x:Int}:Con yj 156 [ya yb x] [] [] (Y:=Unit) (fun y=>True) (fun y=> .bool false) (fun y=>[]) (fun y=>[]):=by
 refine zm Tryz.func156 rfl rfl rfl (fun c=> ?_)
 show RunC _ _ _ _ _ [(0,ya yb x)] [] []
 refine zg<|za<|e_p (zb rfl)<|zh<|zd<|zg<|za<|e_mv rfl<|e_mv rfl<|e_p (zMa rfl rfl)<|e_p (zb rfl)<|zh<|zd<|zH ?_
 exact zy Tryz.results156 () trivial (zl rfl) (by simp) (ho:=(.n:PickO _ _ _)) (.n:SelR _ _ _)
theorem zpc {x:Int}:Con yj 158 [.int .u32 x] [] [] (Y:=Unit) (fun y=>True) (fun y=> .bool false) (fun y=>[]) (fun y=>[]):=by
 refine zm Tryz.func158 rfl rfl rfl (fun c=> ?_)
 show RunC _ _ _ _ _ [(0,.int .u32 x)] [] []
 refine zg<|za<|e_p (zb rfl)<|zh<|zd<|zg<|za<|e_mv rfl<|e_mv rfl<|e_p (zMa rfl rfl)<|e_p (zb rfl)<|zh<|zd<|zH ?_
 exact zy Tryz.results158 () trivial (zl rfl) (by simp) (ho:=(.n:PickO _ _ _)) (.n:SelR _ _ _)
theorem zWc {u:Int} {v:Int}:Con yj 148 [ya yb u,ya yb v] [] [] (Y:=Unit) (fun y=>True) (fun y=> ya yb (yC u v)) (fun y=>[]) (fun y=>[]):=by
 refine zm Tryz.func148 rfl rfl rfl (fun c=> ?_)
 show RunC _ _ _ _ _ [(0,ya yb u),(1,ya yb v)] [] []
 refine zg<|za<|e_p (zb rfl)<|zh<|zd<|zg<|za<|e_mv rfl<|zL rfl rfl (.c rfl .n) ce156 (zoc (x:=u)) (.n)<|e_p (zb rfl)<|zh<|zd<|zg<|za<|e_mv rfl<|zL rfl rfl (.c rfl .n) ce156 (zoc (x:=v)) (.n)<|e_p (zb rfl)<|zh<|zd<|zg<|zg<|za<|e_mv rfl<|zh<|zd<|zgb rfl rfl<|zA<|zd<|zg<|zg<|za<|e_mv rfl<|zh<|zd<|zgb rfl rfl<|zA<|zd<|zg<|zg<|za<|e_mv rfl<|e_mv rfl<|e_p (zY rfl rfl)<|zh<|zd<|zC rfl (fun h1=> ?_) (fun h1=> ?_)
 ·
  refine zg<|za<|e_p (zb rfl)<|zh<|zd<|zH<|zi ?_
  exact zy Tryz.results148 () trivial (zl rfl) (by rw [Big.cmp_lt om]) (ho:=(.n:PickO _ _ _)) (.n:SelR _ _ _)
 ·
  refine zA<|zd<|zg<|zg<|za<|e_mv rfl<|e_mv rfl<|e_p (zAa rfl rfl)<|zh<|zd<|zC rfl (fun h2=> ?_) (fun h2=> ?_)
  ·
   refine zg<|za<|e_p (zb rfl)<|zh<|zd<|zH<|zi ?_
   exact zy Tryz.results148 () trivial (zl rfl) (by rw [Big.cmp_gt om]) (ho:=(.n:PickO _ _ _)) (.n:SelR _ _ _)
  ·
   refine zA<|zd<|zg<|za<|e_p (zb rfl)<|zh<|zd<|zH ?_
   exact zy Tryz.results148 () trivial (zl rfl) (by rw [show yC u v=0 by simp [yC];omega]) (ho:=(.n:PickO _ _ _)) (.n:SelR _ _ _)
theorem zme {u:Int} {v:Int}:Con yj 150 [.int .u32 u,.int .u32 v] [] [] (Y:=Unit) (fun y=>True) (fun y=> ya yb (yC u v)) (fun y=>[]) (fun y=>[]):=by
 refine zm Tryz.func150 rfl rfl rfl (fun c=> ?_)
 show RunC _ _ _ _ _ [(0,.int .u32 u),(1,.int .u32 v)] [] []
 refine zg<|za<|e_p (zb rfl)<|zh<|zd<|zg<|za<|e_mv rfl<|zL rfl rfl (.c rfl .n) ce158 (zpc (x:=u)) (.n)<|e_p (zb rfl)<|zh<|zd<|zg<|za<|e_mv rfl<|zL rfl rfl (.c rfl .n) ce158 (zpc (x:=v)) (.n)<|e_p (zb rfl)<|zh<|zd<|zg<|zg<|za<|e_mv rfl<|zh<|zd<|zgb rfl rfl<|zA<|zd<|zg<|zg<|za<|e_mv rfl<|zh<|zd<|zgb rfl rfl<|zA<|zd<|zg<|zg<|za<|e_mv rfl<|e_mv rfl<|e_p (zY rfl rfl)<|zh<|zd<|zC rfl (fun h1=> ?_) (fun h1=> ?_)
 ·
  refine zg<|za<|e_p (zb rfl)<|zh<|zd<|zH<|zi ?_
  exact zy Tryz.results150 () trivial (zl rfl) (by rw [Big.cmp_lt om]) (ho:=(.n:PickO _ _ _)) (.n:SelR _ _ _)
 ·
  refine zA<|zd<|zg<|zg<|za<|e_mv rfl<|e_mv rfl<|e_p (zAa rfl rfl)<|zh<|zd<|zC rfl (fun h2=> ?_) (fun h2=> ?_)
  ·
   refine zg<|za<|e_p (zb rfl)<|zh<|zd<|zH<|zi ?_
   exact zy Tryz.results150 () trivial (zl rfl) (by rw [Big.cmp_gt om]) (ho:=(.n:PickO _ _ _)) (.n:SelR _ _ _)
  ·
   refine zA<|zd<|zg<|za<|e_p (zb rfl)<|zh<|zd<|zH ?_
   exact zy Tryz.results150 () trivial (zl rfl) (by rw [show yC u v=0 by simp [yC];omega]) (ho:=(.n:PickO _ _ _)) (.n:SelR _ _ _)
theorem back_u32 {b:Nat} {p:Option Addr} {n cap:Nat} {l:List Int} (hn:l.length=n):Back yj 157 [yc (some ⟨b,0,none⟩)] [atF b 0 [.slice p n cap],slF (rI .u32) p cap l] n (fun k=>[ya yb ((k:Nat):Int),.int .u32 (l.getD k 0)]):=by
  refine back_intro Tryz.func157 rfl rfl rfl (fun l0 c X Y φ ψ OO RR OS RS H x0 hx0=> ?_)
  show RunC _ _ _ _ _ [(0,.func (.yield l0) #[] #[]),(1,yc (some ⟨b,0,none⟩))] (OO x0) (atF b 0 [.slice p n cap] :: slF (rI .u32) p cap l :: RR x0)
  refine zba 1 rfl (fun hL=> ?_)
  refine zg<|za<|e_ru (zx (j:=0) 0 ty39 rfl rfl rfl rfl)<|e_p (zN ye rfl)<|e_p (zla (z:=(((n:Nat):Int) - 1)) rfl rfl (w64 om))<|e_p (zb rfl)<|zh<|zd<|zB<|zdf (X:=X×Nat) (fun z=>φ z.1 z.2∧z.2≤n) (fun z=>[(3,ya yb (((z.2:Nat):Int) - 1)),(1,yc (some ⟨b,0,none⟩)),(0,.func (.yield l0) #[] #[])]) (fun z=>OO z.1) (fun z=>atF b 0 [.slice p n cap] :: slF (rI .u32) p cap l :: RR z.1) (fun z=>z.2) (x0,n) ⟨hx0,Nat.le_refl _⟩ (.c rfl (.c rfl (.c rfl .n)):SubM _ _) (fun w m=>m) ?_
  rintro ⟨x,k⟩ ⟨hx,hk⟩
  dsimp only at hx hk
  try dsimp only
  refine zg<|zg<|za<|e_mv rfl<|e_p (zJa rfl rfl)<|zh<|zd<|zC rfl (fun h=> ?_) (fun h=> ?_)
  · refine zA ?_
    refine zd ?_
    obtain ⟨j,rfl⟩:∃j,k=j+1:=⟨k - 1,by omega⟩
    rw [show (((j+1:Nat):Int) - 1)=(j:Int) by omega]
    refine zg<|zB<|zg<|za<|e_mv rfl<|e_mv rfl<|e_ru (zx (j:=0) 0 ty39 rfl rfl rfl rfl)<|e_mv rfl<|zP (x0:=l.getD j 0) 1 j rfl ye sz121 rfl rfl rfl hn rfl rfl (gD (d:=0) om) (fun b2 o3 hok=> ?_)
    refine e_ru (zx (j:=0) 0 ty121 rfl rfl rfl rfl)<|ztg (X:=X) (Y:=Y) (φ:=fun x'=>φ x' j) (ψ:=ψ) (OO:=OO) (RR:=fun x'=>[atF b 0 [.slice p n cap],slF (rI .u32) p cap l]++RR x') (OS:=OS) (RS:=RS) (vs:=[ya yb ((j:Nat):Int),.int .u32 (l.getD j 0)]) rfl rfl rfl (.c rfl (.c rfl .n)) (fun w m=>H x j w om hx (m.weaken fun h g s r a=>⟨h,g,s,r.2,Hp.le_refl _,Hp.le_refl _,a,fun _ _ e=> .inl e⟩)) (fun x' hx'=> ?_) (fun y hy=> ?_)
    · refine e_p (ztb rfl) ?_
      refine zh<|zd<|zgb rfl rfl<|zA<|zO<|zd<|za<|e_mv rfl<|e_p (zla (z:=((j:Int) - 1)) rfl rfl (w64 om))<|e_p (zb rfl)<|zh ?_
      exact zsg (x',j) ⟨hx',by show j≤n;omega⟩ (by show j<j+1;omega) (.c rfl (.c rfl (.c rfl .n)):SubM _ _) (fun w m=>m)
    · refine e_p (ztb rfl) ?_
      refine zh<|zd<|zCb rfl rfl<|zH<|zp<|zi<|zi<|zp ?_
      exact zde rfl y hy (fun w m=>m)
  · have hk0 : k = 0 := by omega
    subst hk0
    refine zja<|zj<|zj<|zt<|p_endI ?_
    exact zce rfl x hx (fun w m=>m)
theorem zPb {p:Option Addr} {n:Nat} {cap:Nat}:Con yj 149 [.slice p n cap] [] [] (Y:=Nat) (fun y=>True) (fun y=> .func (.func 157) #[] #[yc (some ⟨y,0,none⟩)]) (fun y=>[]) (fun y=>[atF y 0 [.slice p n cap]]):=by
 refine zm Tryz.func149 rfl rfl rfl (fun c=> ?_)
 show RunC _ _ _ _ _ [(0,.slice p n cap)] [] []
 refine zg<|za<|zM rfl rfl (zR rfl rfl) (fun b1=> ?_)
 refine e_p (zb rfl)<|zh<|zd<|zg<|za<|e_p (zLa .n (.c rfl .n))<|e_p (zb rfl)<|zh<|zd<|zH<|zgf 0 rfl .z ?_
 exact zy Tryz.results149 b1 trivial (zl rfl) rfl (ho:=(.n:PickO _ _ _)) ((.c (j:=0) rfl .n):SelR _ _ _)
theorem zec {a:Nat} {b:Nat} {p1:Option Addr} {c1:Nat} {p2:Option Addr} {c2:Nat}:Con yj 136 [.slice p1 ((yd a).length) c1,.slice p2 ((yd b).length) c2] [] [slF (rI .u32) p1 c1 (yd a),slF (rI .u32) p2 c2 (yd b)] (Y:=Unit) (fun y=>True) (fun y=> ya yb (yC (a:Int) (b:Int))) (fun y=>[]) (fun y=>[]):=by
 refine zxc Tryz.func136 rfl rfl rfl (fun c=> ?_)
 show RunC _ _ _ _ _ [(0,.slice p1 ((yd a).length) c1),(1,.slice p2 ((yd b).length) c2)] [] [slF (rI .u32) p1 c1 (yd a),slF (rI .u32) p2 c2 (yd b)]
 refine zba 0 rfl (fun hL0=> ?_)
 refine zba 1 rfl (fun hL1=> ?_)
 refine zg<|za<|zM rfl rfl (zR rfl rfl) (fun b1=> ?_)
 refine zM rfl rfl (zn zr3 rfl) (fun b2=> ?_)
 refine zh<|zd<|zg<|zg<|za<|e_mv rfl<|e_p (zN ye rfl)<|e_ru (zf 1 ty39 rfl rfl rfl)<|e_p (zN ye rfl)<|e_p (zMa rfl rfl)<|zh<|zd<|zC rfl (fun hlen=> ?_) (fun hlen=> ?_)
 ·
  refine zg<|za<|e_mv rfl<|e_p (zN ye rfl)<|e_ru (zf 1 ty39 rfl rfl rfl)<|e_p (zN ye rfl)<|zL rfl rfl (.c rfl (.c rfl .n)) ce148 (zWc (u:=(((yd a).length:Nat):Int)) (v:=(((yd b).length:Nat):Int))) (.n)<|zk 0 rfl rfl rfl rfl rfl sz3 rfl (.take .nil) .z<|zh<|zd<|zH<|zi<|zhf ?_
  exact zy Tryz.results136 () trivial (zBb 0 ty3 rfl rfl rfl) (by rw [Big.cmp_len om]) (ho:=(.n:PickO _ _ _)) (.n:SelR _ _ _)
 ·
  replace hlen:(yd a).length=(yd b).length:=by omega
  refine zA<|zd<|zg<|zg<|za<|e_mv rfl<|zE rfl rfl (.c rfl .n) ce149 (zPb (p:=p1) (n:=(yd a).length) (cap:=c1)) (.n) ?_
  rintro b3 -
  dsimp only [aq,nq,cq]
  refine zh<|zd<|zB<|zge (fa:=[atF b3 0 [.slice p1 ((yd a).length) c1],slF (rI .u32) p1 c1 (yd a)]) (N:=((yd a).length)) (encs:=fun k=>[ya yb ((k:Nat):Int),.int .u32 ((yd a).getD k 0)]) rfl ce157 (back_u32 cbs) (fun _=>rfl) rfl (X:=Unit) (Y:=Unit) (fun x k=>k≤(yd a).length∧(yd a).drop k=(yd b).drop k) (fun y=>True) (fun x=>[boxA b2 3 [ya yb 0],boxA b1 39 [.slice p2 ((yd b).length) c2]]) (fun x=>[slF (rI .u32) p2 c2 (yd b)]) (fun y=>[boxA b2 3 [ya yb (yC (a:Int) (b:Int))],boxA b1 39 [.slice p2 ((yd b).length) c2]]) (fun y=>[atF b3 0 [.slice p1 ((yd a).length) c1],slF (rI .u32) p1 c1 (yd a),slF (rI .u32) p2 c2 (yd b)]) (fun k=>[(6,.int .u32 ((yd a).getD k 0)),(5,ya yb ((k:Nat):Int)),(20,.int .u32 ((yd a).getD k 0)),(19,ya yb ((k:Nat):Int)),(18,.func (.func 157) #[] #[yc (some ⟨b3,0,none⟩)]),(17,.slice p1 ((yd a).length) c1),(11,.bool (decide ((((yd a).length:Nat):Int)≠(((yd b).length:Nat):Int)))),(10,ya yb (((yd b).length:Nat):Int)),(9,.slice p2 ((yd b).length) c2),(8,ya yb (((yd a).length:Nat):Int)),(7,.slice p1 ((yd a).length) c1),(4,yc (some ⟨b2,0,none⟩)),(3,yc (some ⟨b1,0,none⟩)),(0,.slice p1 ((yd a).length) c1),(1,.slice p2 ((yd b).length) c2)]) () (show ((yd a).length)≤(yd a).length∧(yd a).drop ((yd a).length)=(yd b).drop ((yd a).length) from by exact ⟨Nat.le_refl _,by rw [List.drop_length,hlen,List.drop_length]⟩) (ho:=((.of [0,0] rfl):PickO _ _ _)) ((.of [0,1,2] rfl):SelR _ _ _) ?_ ?_ ?_ ?_
  ·
   intro l k O' R' Q' hP
   refine zg<|za<|e_p (zb rfl)<|zh<|zd<|za<|e_p (zb rfl)<|zh ?_
   exact hP
  ·
   rintro l4 D5 o6 o7 ⟨⟩ k hkN hI
   replace hI:(k+1)≤(yd a).length∧(yd a).drop (k+1)=(yd b).drop (k+1):=hI
   try dsimp only
   have hg1:=ym (yo a) k
   have hg2:=ym (yo b) k
   refine zB<|zg<|za<|e_mv rfl<|e_ru (zf 3 ty39 rfl rfl rfl)<|e_mv rfl<|zP (x0:=((yd b).getD k 0)) 2 k rfl ye sz121 rfl rfl rfl cbs rfl rfl (gD (d:=0) om) (fun b8 o9 hok10=> ?_)
   replace hok10:=zG.1 hok10
   refine e_ru (zx (j:=0) 0 ty121 rfl rfl rfl rfl)<|e_p (zMa rfl rfl)<|zh<|zd<|zC rfl (fun hne=> ?_) (fun hne=> ?_)
   ·
    refine zg<|za<|e_mv rfl<|e_ru (zf 3 ty39 rfl rfl rfl)<|e_mv rfl<|zP (x0:=((yd b).getD k 0)) 3 k rfl ye sz121 rfl rfl rfl cbs rfl rfl (gD (d:=0) om) (fun b11 o12 hok13=> ?_)
    replace hok13:=zG.1 hok13
    refine e_ru (zx (j:=0) 0 ty121 rfl rfl rfl rfl)<|zL rfl rfl (.c rfl (.c rfl .n)) ce150 (zme (u:=((yd a).getD k 0)) (v:=((yd b).getD k 0))) (.n)<|zk 2 rfl rfl rfl rfl rfl sz3 rfl (.take .nil) (.s (.s .z))<|zh<|zd<|zH<|zp ?_
    exact zfe () (show True from by first|trivial|omega) (ho:=((.c (i:=0) rfl (.c (i:=0) rfl (.e (i:=0) rfl (by rw [Big.cmp_at hlen om hI.2 hne]) (.c (i:=0) rfl .n)))):PickO _ _ _)) ((.of [2,3,4] rfl):SelR _ _ _)
   ·
    refine zA<|zO ?_
    exact zee () (show k≤(yd a).length∧(yd a).drop k=(yd b).drop k from by exact ⟨by omega,Big.drop_more om om hI.2 (Decidable.not_not.1 hne)⟩) (ho:=((.of [0,0,0,0] rfl):PickO _ _ _)) ((.of [1,2,3] rfl):SelR _ _ _)
  ·
   rintro D14 ⟨⟩ hI
   replace hI:0≤(yd a).length∧(yd a).drop 0=(yd b).drop 0:=hI
   try dsimp only
   have heq:(yd a)=(yd b):=by simpa using hI.2
   have hab:=Big.cmp_eq heq
   refine zO<|zd<|zg<|za<|zk 1 rfl rfl rfl rfl rfl sz3 rfl (.take .nil) (.s .z)<|zh<|zd<|zH<|zAe 0 rfl rfl ?_
   exact zy Tryz.results136 () trivial (zBb 0 ty3 rfl rfl rfl) (by rw [hab];simp [yC]) (ho:=(.n:PickO _ _ _)) (.n:SelR _ _ _)
  ·
   rintro D15 ⟨⟩ hS
   replace hS:True:=hS
   try dsimp only
   refine zp<|zi<|zAe 0 rfl rfl ?_
   exact zy Tryz.results136 () trivial (zBb 0 ty3 rfl rfl rfl) rfl (ho:=(.n:PickO _ _ _)) (.n:SelR _ _ _)
theorem zSe {g:Int}:Con yj 152 [.int .u32 g] [] [] (Y:=Unit) (fun y=>True) (fun y=> .bool (decide (1000000000≤g))) (fun y=>[]) (fun y=>[]):=by
 refine zm Tryz.func152 rfl rfl rfl (fun c=> ?_)
 show RunC _ _ _ _ _ [(0,.int .u32 g)] [] []
 refine zg<|za<|e_p (zb rfl)<|zh<|zd<|zg<|za<|e_mv rfl<|e_p (zJa rfl rfl)<|e_p (zb rfl)<|zh<|zd<|zH ?_
 exact zy Tryz.results152 () trivial (zl rfl) rfl (ho:=(.n:PickO _ _ _)) (.n:SelR _ _ _)
theorem zfd {p:Option Addr} {n:Nat} {cap:Nat} {l:List Int} (hn:l.length=n):Con yj 159 [.slice p n cap,.func (.func 152) #[] #[]] [] [slF (rI .u32) p cap l] (Y:=Int) (fun y=>(0≤y↔∃g∈l,1000000000≤g)) (fun y=> ya yb y) (fun y=>[]) (fun y=>[]):=by
 refine zm Tryz.func159 rfl rfl rfl (fun c=> ?_)
 show RunC _ _ _ _ _ [(0,.slice p n cap),(1,.func (.func 152) #[] #[])] [] [slF (rI .u32) p cap l]
 refine zba 0 rfl (fun hL0=> ?_)
 refine zg<|za<|e_p (zb rfl)<|zh<|zd<|zg<|zg<|za<|e_mv rfl<|e_p (zN ye rfl)<|e_mv rfl<|zh<|zd<|zB<|zka (X:=Nat) (fun x:Nat=>x≤n∧∀j,j<x→l.getD j 0<1000000000) (fun x=>[(8,ya yb ((x:Nat):Int)),(7,ya yb ((n:Nat):Int)),(0,.slice p n cap),(1,.func (.func 152) #[] #[])]) (fun x=>[]) (fun x=>[slF (rI .u32) p cap l]) (fun x:Nat=>n - x) 0 (show 0≤n∧∀j,j<0→l.getD j 0<1000000000 from by exact ⟨by omega,fun j h=>by omega⟩) ((.e rfl (by first|rfl|(congr 1;omega)|simp_all) (.of rfl)):SubM _ _) (ho:=(.n:PickO _ _ _)) ((.c (j:=0) rfl .n):SelR _ _ _) ?_
 rintro i hI
 replace hI:i≤n∧∀j,j<i→l.getD j 0<1000000000:=hI
 try dsimp only
 obtain ⟨hi,hall⟩:=hI
 refine zg<|za<|e_p (zY rfl rfl)<|zh<|zd<|zg<|zC rfl (fun h1=> ?_) (fun h1=> ?_)
 ·
  refine zA<|zd<|zg<|zB<|zg<|za<|e_mv rfl<|e_p (zb rfl)<|zh<|zd<|zg<|za<|e_mv rfl<|e_mv rfl<|e_mv rfl<|zP (x0:=(l.getD i 0)) 0 i rfl ye sz121 rfl rfl rfl cbs rfl rfl (gD (d:=0) om) (fun b2 o3 hok4=> ?_)
  replace hok4:=zG.1 hok4
  refine e_ru (zx (j:=0) 0 ty121 rfl rfl rfl rfl)<|zHc (first:=[]) (cap:=[]) rfl rfl rfl (.c rfl .n) ce152 (zSe (g:=(l.getD i 0))) (.n) ?_
  rintro ⟨⟩ -
  dsimp only [aq,nq,cq]
  refine zh<|zd<|zC rfl (fun hb=> ?_) (fun hb=> ?_)
  ·
   refine zg<|za<|e_mv rfl<|e_p (zb rfl)<|zh<|zd<|zH<|zp<|zi<|zi<|zp<|zi ?_
   exact zy Tryz.results159 ((i:Nat):Int) (⟨fun _=>⟨l.getD i 0,Big.getD_mem om,hb⟩,fun _=>by omega⟩) (zl rfl) rfl (ho:=(.n:PickO _ _ _)) (.n:SelR _ _ _)
  ·
   refine zA<|zO<|zd<|za<|e_p (zI (z:=(((i+1):Nat):Int)) rfl rfl (w64 om))<|e_mv rfl<|zh<|zda (i+1) (show (i+1)≤n∧∀j,j<(i+1)→l.getD j 0<1000000000 from by refine ⟨by omega,fun j hj=> ?_⟩;by_cases e:j=i;subst e;omega;exact hall j om) (by show n - (i+1)<n - i;omega) ((.of rfl):SubM _ _) (ho:=(.n:PickO _ _ _)) ((.c (j:=1) rfl .n):SelR _ _ _)
 ·
  refine zja<|zj<|zj<|zt<|zd<|zg<|za<|e_p (zb rfl)<|zh<|zd<|zH ?_
  exact zy Tryz.results159 (-1) (⟨fun h=>by omega,fun ⟨g,hg,hb⟩=>by obtain ⟨j,hj,e⟩:=Big.mem_getD hg;have:=hall j om;omega⟩) (zl rfl) rfl (ho:=(.n:PickO _ _ _)) (.n:SelR _ _ _)
theorem zzc {p:Option Addr} {n:Nat} {cap:Nat} {l:List Int} (hn:l.length=n):Con yj 151 [.slice p n cap,.func (.func 152) #[] #[]] [] [slF (rI .u32) p cap l] (Y:=Unit) (fun y=>True) (fun y=> .bool (decide (∃g∈l,1000000000≤g))) (fun y=>[]) (fun y=>[]):=by
 refine zm Tryz.func151 rfl rfl rfl (fun c=> ?_)
 show RunC _ _ _ _ _ [(0,.slice p n cap),(1,.func (.func 152) #[] #[])] [] [slF (rI .u32) p cap l]
 refine zba 0 rfl (fun hL0=> ?_)
 refine zg<|za<|e_p (zb rfl)<|zh<|zd<|zg<|za<|e_mv rfl<|e_mv rfl<|zE rfl rfl (.c rfl (.c rfl .n)) ce159 (zfd (p:=p) (n:=n) (cap:=cap) (l:=l) (hn:=ass)) (.c (j:=0) rfl .n) ?_
 rintro r1 hr
 dsimp only [aq,nq,cq]
 replace hr:(0≤r1↔∃g∈l,1000000000≤g):=hr
 refine e_p (zJa rfl rfl)<|e_p (zb rfl)<|zh<|zd<|zH ?_
 exact zy Tryz.results151 () trivial (zl rfl) (congrArg Value.bool (decide_eq_decide.2 hr.symm)) (ho:=(.n:PickO _ _ _)) (.n:SelR _ _ _)
theorem zqc {s:Bool} {p:Option Addr} {n:Nat} {cap:Nat} {l:List Int} (hn:l.length=n):Con yj 138 [.agg #[.bool s,.slice p n cap]] [] [slF (rI .u32) p cap l] (Y:=Unit) (fun y=>True) (fun y=> .bool (decide (Big.canon s l))) (fun y=>[]) (fun y=>[]):=by
 refine zm Tryz.func138 rfl rfl rfl (fun c=> ?_)
 show RunC _ _ _ _ _ [(0,.agg #[.bool s,.slice p n cap])] [] [slF (rI .u32) p cap l]
 refine zba 0 rfl (fun hL0=> ?_)
 refine zg<|za<|zM rfl rfl (zR rfl rfl) (fun b1=> ?_)
 refine e_p (zb rfl)<|zh<|zd<|zg<|za<|e_p (ze yl rfl sz39 rfl rfl)<|e_ru (zf 0 ty39 rfl rfl rfl)<|e_p (zN ye rfl)<|e_p (zb rfl)<|zh<|zd<|zg<|zg<|za<|e_mv rfl<|e_p (zua rfl rfl)<|zh<|zd<|zC rfl (fun h0=> ?_) (fun h0=> ?_)
 ·
  refine zg<|za<|e_p (ze yl rfl sz4 rfl rfl)<|e_ru (zf 0 ty4 rfl rfl rfl)<|e_p (ztb rfl)<|e_p (zb rfl)<|zh<|zd<|zH<|zi ?_
  exact zy Tryz.results138 () trivial (zl rfl) (congrArg Value.bool (by have:l.length=0:=om;cases s <;> simp [Big.canon,this])) (ho:=(.n:PickO _ _ _)) (.n:SelR _ _ _)
 ·
  refine zA<|zd<|zEa (X:=Unit) (fun x=>True) (fun x=>[(2,.bool (decide (((l.getD ((((n:Nat):Int) - 1).toNat) 0)≠0)∧(¬(∃g∈l,1000000000≤g)))))]) (fun x=>[boxA b1 41 [.bool s,.slice p n cap]]) (fun x=>[slF (rI .u32) p cap l]) ?_ ?_
  ·
   refine za<|e_p (ze yl rfl sz39 rfl rfl)<|e_ru (zf 0 ty39 rfl rfl rfl)<|e_mv rfl<|e_p (zla (z:=(((n:Nat):Int) - 1)) rfl rfl (w64 om))<|zP (x0:=(l.getD ((((n:Nat):Int) - 1).toNat) 0)) 0 ((((n:Nat):Int) - 1).toNat) rfl ye sz121 rfl rfl rfl cbs rfl om (gD (d:=0) om) (fun b2 o3 hok4=> ?_)
   replace hok4:=zG.1 hok4
   refine e_ru (zx (j:=0) 0 ty121 rfl rfl rfl rfl)<|e_p (zMa rfl rfl)<|zaa rfl rfl (zX rfl) (fun h5=> ?_) (fun h5=> ?_)
   ·
    refine e_p (ze yl rfl sz39 rfl rfl)<|e_ru (zf 0 ty39 rfl rfl rfl)<|zL rfl rfl (.c rfl (.c rfl .n)) ce151 (zzc (p:=p) (n:=n) (cap:=cap) (l:=l) (hn:=ass)) (.c (j:=1) rfl .n)<|e_p (zYa rfl)<|e_p (zo rfl rfl)<|e_p (zb rfl)<|zh ?_
    exact zga () (show True from by first|trivial|omega|simp_all) ((.e rfl (congrArg Value.bool (by simp_all)) .n):SubM _ _) (ho:=((.c (i:=0) rfl .n):PickO _ _ _)) ((.c (j:=1) rfl .n):SelR _ _ _)
   ·
    refine e_no<|e_no<|e_no<|e_no<|e_p (zo rfl rfl)<|e_p (zb rfl)<|zh ?_
    exact zga () (show True from by first|trivial|omega|simp_all) ((.e rfl (congrArg Value.bool (by simp_all)) .n):SubM _ _) (ho:=((.c (i:=0) rfl .n):PickO _ _ _)) ((.c (j:=1) rfl .n):SelR _ _ _)
  ·
   rintro ⟨⟩ -
   try dsimp only
   refine zH ?_
   exact zy Tryz.results138 () trivial (zl rfl) (congrArg Value.bool (decide_eq_decide.2 (by rw [Big.canon_more om,hn];have e:((n:Int) - 1).toNat=n - 1:=om;simp [e]))) (ho:=(.n:PickO _ _ _)) (.n:SelR _ _ _)
theorem zTe {z:Int} {p:Option Addr} {cap:Nat}:Con yj 138 [.agg #[.bool (decide ((z)<0)),.slice (p) ((yd ((z).natAbs)).length) (cap)]] [] [slF (rI .u32) (p) (cap) (yd ((z).natAbs))] (Y:=Unit) (fun y=>True) (fun y=> .bool true) (fun y=>[]) (fun y=>[]):=by
  have h:= @zqc (decide ((z)<0)) p (yd (z).natAbs).length cap (yd (z).natAbs) rfl
  rw [decide_eq_true (Big.canon_digs z)] at h
  exact h
theorem zUe {w1:Wd} {x1:Int}:Con yj 138 [.agg #[w1.b,w1.l]] [] [zF w1 (x1)] (Y:=Unit) (fun y=>True) (fun y=> .bool true) (fun y=>[]) (fun y=>[]):=by
  exact zOd (fun p c=>zTe)
theorem zOa {s:Bool} {p:Option Addr} {n:Nat} {cap:Nat} {l:List Int} (hn:l.length=n):Con yj 117 [.agg #[.bool s,.slice p n cap]] [] [slF (rI .u32) p cap l] (Y:=(Option Addr)×Nat) (fun y=>True) (fun y=> .slice (y.1) ((yd ((yk s l).natAbs)).length) (y.2)) (fun y=>[]) (fun y=>[slF (rI .u32) (y.1) (y.2) (yd ((yk s l).natAbs))]):=by
 refine zm Tryz.func117 rfl rfl rfl (fun c=> ?_)
 show RunC _ _ _ _ _ [(0,.agg #[.bool s,.slice p n cap])] [] [slF (rI .u32) p cap l]
 refine zba 0 rfl (fun hL0=> ?_)
 refine zSa 0 rfl (fun hE0=> ?_)
 have hnn:yG l:=fun g hg=>(zG.1 (hE0 g hg)).1
 refine zg<|za<|zM rfl rfl (zR rfl rfl) (fun b1=> ?_)
 refine e_p (zb rfl)<|zh<|zd<|zg<|zg<|za<|e_ru (zc 0 ty41 rfl rfl (.t2 .nil))<|zL rfl rfl (.c rfl .n) ce138 (zqc (s:=s) (p:=p) (n:=n) (cap:=cap) (l:=l) (hn:=ass)) (.c (j:=0) rfl .n)<|e_p (zYa rfl)<|zh<|zd<|zC rfl (fun hc=> ?_) (fun hc=> ?_)
 ·
  refine zg<|za<|e_p (zb rfl)<|zh<|zd<|zH<|zi ?_
  have hd:yd (yk s l).natAbs=[]:=by rw [Big.raw_digs hnn,if_neg hc]
  refine zJd (rI .u32) ?_
  exact zy Tryz.results117 (none,0) trivial (zl rfl) (by rw [hd];rfl) (ho:=(.n:PickO _ _ _)) ((.e (j:=0) rfl (by rw [hd]) .n):SelR _ _ _)
 ·
  refine zA<|zd<|zg<|za<|e_p (ze yl rfl sz39 rfl rfl)<|e_ru (zf 0 ty39 rfl rfl rfl)<|e_p (zb rfl)<|zh<|zd<|zH ?_
  have hd:yd (yk s l).natAbs=l:=by rw [Big.raw_digs hnn,if_pos (Decidable.not_not.1 hc)]
  exact zy Tryz.results117 (p,cap) trivial (zl rfl) (by rw [hd,hn]) (ho:=(.n:PickO _ _ _)) ((.e (j:=0) rfl (by rw [hd]) .n):SelR _ _ _)
theorem zFb {z:Int} {p:Option Addr} {cap:Nat}:Con yj 117 [.agg #[.bool (decide ((z)<0)),.slice (p) ((yd ((z).natAbs)).length) (cap)]] [] [slF (rI .u32) (p) (cap) (yd ((z).natAbs))] (Y:=(Option Addr)×(Nat)) (fun y=>True) (fun y=> .slice (y.1) ((yd ((z).natAbs)).length) (y.2)) (fun y=>[]) (fun y=>[slF (rI .u32) (y.1) (y.2) (yd ((z).natAbs))]):=by
  have h:= @zOa (decide ((z)<0)) p (yd (z).natAbs).length cap (yd (z).natAbs) rfl
  rw [yq] at h
  exact h
theorem zgg {s:Bool} {p:Option Addr} {n:Nat} {cap:Nat} {l:List Int} (hn:l.length=n) (ho:yr l):Con yj 114 [.bool s,.slice p n cap] [] [slF (rI .u32) p cap l] (Y:=(Option Addr)×Nat) (fun y=>True) (fun y=> .agg #[.bool (decide ((yu s (yf l))<0)),.slice (y.1) ((yd ((yu s (yf l)).natAbs)).length) (y.2)]) (fun y=>[]) (fun y=>[slF (rI .u32) (y.1) (y.2) (yd ((yu s (yf l)).natAbs))]):=by
 refine zm Tryz.func114 rfl rfl rfl (fun c=> ?_)
 show RunC _ _ _ _ _ [(0,.bool s),(1,.slice p n cap)] [] [slF (rI .u32) p cap l]
 refine zba 0 rfl (fun hL0=> ?_)
 have htr:yn l=yd (yu s (yf l)).natAbs:=by rw [Big.sg_abs (Big.valL_nonneg ho),Big.digs_valL ho]
 refine zg<|za<|zM rfl rfl (zn zr41 rfl) (fun b1=> ?_)
 refine zh<|zd<|zg<|za<|e_mv rfl<|zE rfl rfl (.c rfl .n) ce134 (zEb (p:=p) (n:=n) (cap:=cap) (l:=l) (hn:=ass)) (.c (j:=0) rfl .n) ?_
 rintro ⟨⟩ -
 dsimp only [aq,nq,cq]
 refine e_p (zb rfl)<|zh<|zd<|zg<|zg<|za<|e_mv rfl<|e_p (zN ye rfl)<|e_p (zua rfl rfl)<|zh<|zd<|zC rfl (fun h0=> ?_) (fun h0=> ?_)
 ·
  refine zg<|za<|e_p (zJ zr41 rfl yl (.c sz4 (.c sz39 .n)) .n .n)<|zk 0 rfl rfl rfl rfl rfl sz41 rfl (.t2 .nil) .z<|zh<|zd<|zH<|zi ?_
  have hz:yf l=0:=Big.trim_zero ho om
  refine zJd (rI .u32) ?_
  exact zy Tryz.results114 (none,0) trivial (zu 0 ty41 rfl rfl (.t2 .nil)) (by rw [hz,Big.sg_zero];rfl) (ho:=(.n:PickO _ _ _)) ((.e (j:=0) rfl (by rw [hz,Big.sg_zero];rfl) .n):SelR _ _ _)
 ·
  refine zA<|zd<|zg<|za<|e_mv rfl<|e_mv rfl<|e_p (zJ zr41 rfl yl (.c sz4 (.c sz39 .n)) (.c rfl (.c rfl .n)) (.c rfl rfl rfl (.take .nil) (.c rfl rfl rfl (.skip (.take .nil)) .n)))<|zk 0 rfl rfl rfl rfl rfl sz41 rfl (.t2 .nil) .z<|zh<|zd<|zH ?_
  have hp:0<yf l:=Big.valL_pos ho (fun e=>h0 (by rw [e];rfl))
  exact zy Tryz.results114 (p,cap) trivial (zu 0 ty41 rfl rfl (.t2 .nil)) (by rw [Big.sg_pos hp,htr]) (ho:=(.n:PickO _ _ _)) ((.e (j:=0) rfl (by rw [htr]) .n):SelR _ _ _)
theorem zCa {s:Bool} {a:Nat} {p:Option Addr} {cap:Nat}:Con yj 114 [.bool (s),.slice (p) ((yd (a)).length) (cap)] [] [slF (rI .u32) (p) (cap) (yd (a))] (Y:=(Option Addr)×(Nat)) (fun y=>True) (fun y=> .agg #[.bool (decide ((yu s (a:Int))<0)),.slice (y.1) ((yd ((yu s (a:Int)).natAbs)).length) (y.2)]) (fun y=>[]) (fun y=>[slF (rI .u32) (y.1) (y.2) (yd ((yu s (a:Int)).natAbs))]):=by
  have h:= @zgg s p (yd a).length cap (yd a) rfl (yo a)
  rw [yw] at h
  exact h
theorem zzb {n0:Nat} (hn0:n0<18446744073709551616):Con yj 115 [.int .u64 ((n0:Nat):Int)] [] [] (Y:=(Option Addr)×Nat) (fun y=>True) (fun y=> .slice (y.1) ((yd n0).length) (y.2)) (fun y=>[]) (fun y=>[slF (rI .u32) (y.1) (y.2) (yd n0)]):=by
 refine zm Tryz.func115 rfl rfl rfl (fun c=> ?_)
 show RunC _ _ _ _ _ [(0,.int .u64 ((n0:Nat):Int))] [] []
 refine zg<|za<|e_p (zb rfl)<|zh<|zd<|zg<|za<|e_p (zb rfl)<|zh<|zd<|zg<|zB<|zcb 121 (rI .u32)<|zka (X:=Nat×(Option Addr)×Nat×(List Int)) (fun x:Nat×(Option Addr)×Nat×(List Int)=>x.1≤n0∧x.2.2.2++yd x.1=yd n0) (fun x=>[(3,.slice (x.2.1) (x.2.2.2.length) (x.2.2.1)),(0,.int .u64 ((x.1:Nat):Int)),(2,.slice none 0 0)]) (fun x=>[rowA 121 (rI .u32) (x.2.1) (x.2.2.1) (x.2.2.2)]) (fun x=>[]) (fun x:Nat×(Option Addr)×Nat×(List Int)=>x.1) (n0,none,0,[]) (show n0≤n0∧([])++yd n0=yd n0 from by exact ⟨Nat.le_refl _,rfl⟩) ((.e rfl (by first|rfl|(congr 1;omega)|simp_all) (.c rfl (.c rfl .n))):SubM _ _) (ho:=((.c (i:=0) rfl .n):PickO _ _ _)) (.n:SelR _ _ _) ?_
 rintro ⟨n,p,c,os⟩ hI
 replace hI:n≤n0∧os++yd n=yd n0:=hI
 try dsimp only
 obtain ⟨hnn,hos⟩:=hI
 have hlen:os.length+(yd n).length≤3:=by have:=congrArg List.length hos;rw [List.length_append] at this;have:=Big.zqf hn0;omega
 refine zg<|zg<|za<|e_mv rfl<|e_p (zAa rfl rfl)<|zh<|zd<|zC rfl (fun hc=> ?_) (fun hc=> ?_)
 ·
  refine zA<|zd<|zg<|zB<|za<|e_mv rfl<|e_mv rfl<|e_p (zwa (z:=(((n%1000000000):Nat):Int)) rfl rfl om (remN om om))<|e_p (zK (z:=(((n%1000000000):Nat):Int)) rfl (by rw [yh];rfl) yg (wu32 om))<|zFa rfl rfl (zV (enc:=fun z:Int=>[.int .u32 z]) (ok:=InK .u32) (h1:=fun _=>rfl) (h2:=fun _=>rfl) (k:=1) ye inf121 rfl dd dd dd (.c (x:=(((n%1000000000):Nat):Int)) rfl rfl (fun _ _=>by exact zG.2 om) .n)) (fun b1 _=> ?_)
  refine zma 0 rfl .z<|zIa 1 rfl rfl rfl (zsa 0 rfl ye inf121 dd rfl rfl cbs rfl cbs om om) (fun _=>(.s .z)) ?_
  rintro ⟨p2,c3⟩ -
  dsimp only [aq,nq,cq]
  refine e_p (zb rfl)<|zh<|zO<|zd<|za<|e_mv rfl<|e_p (zhb (z:=(((n / 1000000000):Nat):Int)) rfl rfl om (by rw [quoN (z:=(((n / 1000000000):Nat):Int)) om om];exact wu64 om))<|e_p (zb rfl)<|zh<|zda ((n / 1000000000),p2,c3,os++[((n%1000000000:Nat):Int)]) (show (n / 1000000000)≤n0∧(os++[((n%1000000000:Nat):Int)])++yd (n / 1000000000)=yd n0 from by exact ⟨by omega,Big.split_step om hos⟩) (by show n / 1000000000<n;omega) ((.e rfl (by simp) (.c rfl (.c rfl .n))):SubM _ _) (ho:=((.e (i:=1) rfl (by first|rfl|(congr 1;omega)|simp_all) .n):PickO _ _ _)) (.n:SelR _ _ _)
 ·
  refine zja<|zj<|zj<|zt<|zd<|zg<|za<|e_mv rfl<|e_p (zb rfl)<|zh<|zd<|zH ?_
  have hz:n=0:=by omega
  subst hz
  have hd:os=yd n0:=by simpa [Big.digs_zero] using hos
  refine zUb 0 rfl .z ?_
  exact zy Tryz.results115 (p,c) trivial (zl rfl) (by rw [hd]) (ho:=(.n:PickO _ _ _)) ((.e (j:=0) rfl (by rw [hd]) .n):SelR _ _ _)
theorem zrg {z:Int} (hz: -9223372036854775808≤z∧z≤9223372036854775807):Con yj 84 [ya yb z] [] [] (Y:=(Option Addr)×Nat) (fun y=>True) (fun y=> .agg #[.bool (decide (z<0)),.slice (y.1) ((yd ((z).natAbs)).length) (y.2)]) (fun y=>[]) (fun y=>[slF (rI .u32) (y.1) (y.2) (yd ((z).natAbs))]):=by
 refine zm Tryz.func84 rfl rfl rfl (fun c=> ?_)
 show RunC _ _ _ _ _ [(0,ya yb z)] [] []
 refine zg<|za<|zM rfl rfl (zn zr41 rfl) (fun b1=> ?_)
 refine zh<|zd<|zg<|za<|e_mv rfl<|e_p (zK (z:=(z%18446744073709551616)) rfl (by rw [Tryz.underlying3];rfl) yh (wu64m om))<|e_p (zb rfl)<|zh<|zd<|zg<|zg<|za<|e_mv rfl<|e_p (zY rfl rfl)<|zh<|zd<|zC rfl (fun hs=> ?_) (fun hs=> ?_)
 ·
  refine za<|e_mv rfl<|e_p (zFd (z:=((z.natAbs:Nat):Int)) rfl (wu64m om))<|e_p (zb rfl)<|zh<|zd<|zg<|za<|e_mv rfl<|e_p (zY rfl rfl)<|e_mv rfl<|zE rfl rfl (.c rfl .n) ce115 (zzb (n0:=z.natAbs) (hn0:=om)) (.n) ?_
  rintro ⟨p22,c23⟩ -
  dsimp only [aq,nq,cq]
  refine zE rfl rfl (.c rfl (.c rfl .n)) ce114 (zCa (s:=decide (z<0)) (a:=z.natAbs) (p:=p22) (cap:=c23)) (.c (j:=0) rfl .n) ?_
  rintro ⟨p24,c25⟩ -
  dsimp only [aq,nq,cq]
  refine zk 0 rfl rfl rfl rfl rfl sz41 rfl (.t2 .nil) .z<|zh<|zd<|zH ?_
  have hsg:yu (decide (z<0)) (z.natAbs:Int)=z:=Big.sg_big z
  exact zy Tryz.results84 (p24,c25) trivial (zu 0 ty41 rfl rfl (.t2 .nil)) (by rw [hsg]) (ho:=(.n:PickO _ _ _)) ((.e (j:=0) rfl (by rw [hsg]) .n):SelR _ _ _)
 ·
  have e6:((z%18446744073709551616):Int)=((z.natAbs:Nat):Int):=by omega
  rw [e6]
  refine zA<|zd<|zg<|za<|e_mv rfl<|e_p (zY rfl rfl)<|e_mv rfl<|zE rfl rfl (.c rfl .n) ce115 (zzb (n0:=z.natAbs) (hn0:=om)) (.n) ?_
  rintro ⟨p27,c28⟩ -
  dsimp only [aq,nq,cq]
  refine zE rfl rfl (.c rfl (.c rfl .n)) ce114 (zCa (s:=decide (z<0)) (a:=z.natAbs) (p:=p27) (cap:=c28)) (.c (j:=0) rfl .n) ?_
  rintro ⟨p29,c210⟩ -
  dsimp only [aq,nq,cq]
  refine zk 0 rfl rfl rfl rfl rfl sz41 rfl (.t2 .nil) .z<|zh<|zd<|zH ?_
  have hsg:yu (decide (z<0)) (z.natAbs:Int)=z:=Big.sg_big z
  exact zy Tryz.results84 (p29,c210) trivial (zu 0 ty41 rfl rfl (.t2 .nil)) (by rw [hsg]) (ho:=(.n:PickO _ _ _)) ((.e (j:=0) rfl (by rw [hsg]) .n):SelR _ _ _)
theorem zQb {z:Int} (hz: -9223372036854775808≤z∧z≤9223372036854775807):Con yj 84 [ya yb (z)] [] [] (Y:=(Wd)) (fun y=>True) (fun y=> .agg #[y.b,y.l]) (fun y=>[]) (fun y=>[zF y (z)]):=by
  exact zYb (zrg hz)
theorem zXc {a:Nat} {b:Nat} {p1:Option Addr} {c1:Nat} {p2:Option Addr} {c2:Nat} (hb1:(yd a).length≤1099511627776) (hb2:(yd b).length≤1099511627776) (hab:b≤a):Con yj 137 [.slice p1 ((yd a).length) c1,.slice p2 ((yd b).length) c2] [] [slF (rI .u32) p1 c1 (yd a),slF (rI .u32) p2 c2 (yd b)] (Y:=(Option Addr)×Nat) (fun y=>True) (fun y=> .slice (y.1) ((yd (a - b)).length) (y.2)) (fun y=>[]) (fun y=>[slF (rI .u32) (y.1) (y.2) (yd (a - b))]):=by
 refine zm Tryz.func137 rfl rfl rfl (fun c=> ?_)
 show RunC _ _ _ _ _ [(0,.slice p1 ((yd a).length) c1),(1,.slice p2 ((yd b).length) c2)] [] [slF (rI .u32) p1 c1 (yd a),slF (rI .u32) p2 c2 (yd b)]
 refine zba 0 rfl (fun hL0=> ?_)
 refine zba 1 rfl (fun hL1=> ?_)
 refine zg<|za<|e_p (zb rfl)<|zh<|zd<|zg<|za<|e_mv rfl<|e_p (zN ye rfl)<|zFa rfl rfl (zqb (r:=rI .u32) (k:=(yd a).length) (x0:=0) (γ0:=()) ye inf121 rfl rfl rfl rfl om om rfl (fun g _=>by exact zG.2 dd) dd) (fun b1 _=> ?_)
 refine e_p (zb rfl)<|zh<|zd<|zg<|za<|e_p (zb rfl)<|zh<|zd<|zg<|zg<|za<|e_mv rfl<|e_p (zN ye rfl)<|e_mv rfl<|zh<|zd<|zB<|zka (X:=Nat×(List Int)×Int) (fun x:Nat×(List Int)×Int=>x.1≤(yd a).length∧x.2.1.length=x.1∧0≤x.2.2∧x.2.2≤1∧yr x.2.1∧yf x.2.1+yf ((yd b).take x.1)=yf ((yd a).take x.1)+yx x.1*x.2.2) (fun x=>[(6,.int .u32 (x.2.2)),(14,ya yb ((x.1:Nat):Int)),(13,ya yb (((yd a).length:Nat):Int)),(5,.slice (some ⟨b1,0,none⟩) ((yd a).length) ((yd a).length)),(4,.slice none 0 0),(0,.slice p1 ((yd a).length) c1),(1,.slice p2 ((yd b).length) c2)]) (fun x=>[rowA 121 (rI .u32) (some ⟨b1,0,none⟩) ((yd a).length) (x.2.1++List.replicate ((yd a).length - x.1) 0)]) (fun x=>[slF (rI .u32) p1 c1 (yd a),slF (rI .u32) p2 c2 (yd b)]) (fun x:Nat×(List Int)×Int=>(yd a).length - x.1) (0,[],0) (show 0≤(yd a).length∧([]).length=0∧0≤0∧0≤1∧yr ([])∧yf ([])+yf ((yd b).take 0)=yf ((yd a).take 0)+yx 0*0 from by exact ⟨by omega,rfl,by decide,by decide,Big.okL_nil,by simp [yf]⟩) ((.c rfl (.e rfl (by first|rfl|(congr 1;omega)|simp_all) (.of rfl))):SubM _ _) (ho:=((.e (i:=0) rfl (by simp) .n):PickO _ _ _)) ((.of [0,1] rfl):SelR _ _ _) ?_
 rintro ⟨i,os,bo⟩ hI
 replace hI:i≤(yd a).length∧os.length=i∧0≤bo∧bo≤1∧yr os∧yf os+yf ((yd b).take i)=yf ((yd a).take i)+yx i*bo:=hI
 try dsimp only
 obtain ⟨hi,hol,hc0,hc1,hok,hv⟩:=hI
 have hg1:=ym (yo a) i
 have hg2:=ym (yo b) i
 refine zg<|za<|e_p (zY rfl rfl)<|zh<|zd<|zg<|zC rfl (fun h2=> ?_) (fun h2=> ?_)
 ·
  refine zA<|zd<|zg<|zB<|zg<|za<|e_mv rfl<|e_p (zb rfl)<|zh<|zd<|zg<|za<|e_mv rfl<|e_mv rfl<|zL rfl rfl (.c rfl (.c rfl .n)) ce147 (zCe (p:=p2) (n:=(yd b).length) (cap:=c2) (l:=yd b) (i:=i) (hn:=cbb) (hi:=cbb)) (.c (j:=1) rfl .n)<|e_mv rfl<|e_p (zI (z:=((yd b).getD i 0+bo)) rfl rfl (wu32 om))<|e_p (zb rfl)<|zh<|zd<|zg<|za<|e_p (zb rfl)<|zh<|zd<|zg<|za<|e_mv rfl<|e_mv rfl<|zP (x0:=((yd a).getD i 0)) 0 i rfl ye sz121 rfl rfl rfl (by first|rfl|assumption|(simp;omega)) rfl rfl (gD (d:=0) om) (fun b3 o4 hok5=> ?_)
  replace hok5:=zG.1 hok5
  refine e_ru (zx (j:=0) 0 ty121 rfl rfl rfl rfl)<|e_mv rfl<|e_p (zY rfl rfl)<|zh<|zd<|zC rfl (fun hc=> ?_) (fun hc=> ?_)
  ·
   refine za<|e_mv rfl<|e_mv rfl<|e_mv rfl<|e_mv rfl<|zP (x0:=((yd a).getD i 0)) 1 i rfl ye sz121 rfl rfl rfl (by first|rfl|assumption|(simp;omega)) rfl rfl (gD (d:=0) om) (fun b6 o7 hok8=> ?_)
   replace hok8:=zG.1 hok8
   refine e_ru (zx (j:=0) 0 ty121 rfl rfl rfl rfl)<|e_p (zI (z:=(((yd a).getD i 0)+1000000000)) rfl rfl (wu32 om))<|e_mv rfl<|e_p (zla (z:=((((yd a).getD i 0)+1000000000) - ((yd b).getD i 0+bo))) rfl rfl (wu32 om))<|e_p (zia (j:=i) ye sz121 rfl rfl rfl om)<|zIa 0 rfl rfl rfl (zea (j:=i) (x0:=((((yd a).getD i 0)+1000000000) - ((yd b).getD i 0+bo))) (γ0:=()) rfl rfl (by first|omega|(rw [List.length_map];omega)|(simp only [List.length_set];omega)|(simp;done)|(simp;omega)) rfl rfl sz121 (fun _ _=>by exact zG.2 om)) (fun _=> .z) (fun _ _=> ?_)
   refine e_p (zb rfl)<|zh<|zO<|zd<|za<|e_p (zI (z:=(((i+1):Nat):Int)) rfl rfl (w64 om))<|e_mv rfl<|zh<|zda ((i+1),os++[(yd a).getD i 0+1000000000 - ((yd b).getD i 0+bo)],1) (show (i+1)≤(yd a).length∧(os++[(yd a).getD i 0+1000000000 - ((yd b).getD i 0+bo)]).length=(i+1)∧0≤1∧1≤1∧yr (os++[(yd a).getD i 0+1000000000 - ((yd b).getD i 0+bo)])∧yf (os++[(yd a).getD i 0+1000000000 - ((yd b).getD i 0+bo)])+yf ((yd b).take (i+1))=yf ((yd a).take (i+1))+yx (i+1)*1 from by exact ⟨by omega,by simp [hol],by decide,by decide,yF hok om om,Big.minus_step hol hv om⟩) (by show (yd a).length - (i+1)<(yd a).length - i;omega) ((.of rfl):SubM _ _) (ho:=((.e (i:=0) rfl (by rw [Big.set_pad hol om]) .n):PickO _ _ _)) ((.of [2,3] rfl):SelR _ _ _)
  ·
   refine za<|e_mv rfl<|e_mv rfl<|e_mv rfl<|e_mv rfl<|zP (x0:=((yd a).getD i 0)) 1 i rfl ye sz121 rfl rfl rfl (by first|rfl|assumption|(simp;omega)) rfl rfl (gD (d:=0) om) (fun b9 o10 hok11=> ?_)
   replace hok11:=zG.1 hok11
   refine e_ru (zx (j:=0) 0 ty121 rfl rfl rfl rfl)<|e_mv rfl<|e_p (zla (z:=(((yd a).getD i 0) - ((yd b).getD i 0+bo))) rfl rfl (wu32 om))<|e_p (zia (j:=i) ye sz121 rfl rfl rfl om)<|zIa 0 rfl rfl rfl (zea (j:=i) (x0:=(((yd a).getD i 0) - ((yd b).getD i 0+bo))) (γ0:=()) rfl rfl (by first|omega|(rw [List.length_map];omega)|(simp only [List.length_set];omega)|(simp;done)|(simp;omega)) rfl rfl sz121 (fun _ _=>by exact zG.2 om)) (fun _=> .z) (fun _ _=> ?_)
   refine zh<|zO<|zd<|za<|e_p (zI (z:=(((i+1):Nat):Int)) rfl rfl (w64 om))<|e_mv rfl<|zh<|zda ((i+1),os++[(yd a).getD i 0 - ((yd b).getD i 0+bo)],0) (show (i+1)≤(yd a).length∧(os++[(yd a).getD i 0 - ((yd b).getD i 0+bo)]).length=(i+1)∧0≤0∧0≤1∧yr (os++[(yd a).getD i 0 - ((yd b).getD i 0+bo)])∧yf (os++[(yd a).getD i 0 - ((yd b).getD i 0+bo)])+yf ((yd b).take (i+1))=yf ((yd a).take (i+1))+yx (i+1)*0 from by exact ⟨by omega,by simp [hol],by decide,by decide,yF hok om om,Big.minus_step hol hv om⟩) (by show (yd a).length - (i+1)<(yd a).length - i;omega) ((.of rfl):SubM _ _) (ho:=((.e (i:=0) rfl (by rw [Big.set_pad hol om]) .n):PickO _ _ _)) ((.of [2,3] rfl):SelR _ _ _)
 ·
  have e12:os++List.replicate ((yd a).length - i) 0=os:=by rw [show (yd a).length - i=0 by omega];simp
  rw [e12]
  have htr:yn os=yd (a - b):=Big.minus_fin hab hok hc0 hol om hv
  refine zja<|zj<|zj<|zt<|zd<|zg<|za<|e_mv rfl<|zma 0 rfl .z<|zE rfl rfl (.c rfl .n) ce134 (zEb (p:=some ⟨b1,0,none⟩) (n:=(yd a).length) (cap:=(yd a).length) (l:=os) (hn:=cbb)) (.c (j:=0) rfl .n) ?_
  rintro ⟨⟩ -
  dsimp only [aq,nq,cq]
  refine e_p (zb rfl)<|zh<|zd<|zH ?_
  exact zy Tryz.results137 ((some ⟨b1,0,none⟩),((yd a).length)) trivial (zl rfl) (by rw [htr]) (ho:=(.n:PickO _ _ _)) ((.e (j:=0) rfl (by rw [htr]) .n):SelR _ _ _)
theorem zAg {s:Bool} {t:Bool} {a:Nat} {b:Nat} {p1:Option Addr} {c1:Nat} {p2:Option Addr} {c2:Nat} (hb1:(yd a).length≤1099511627776) (hb2:(yd b).length≤1099511627776):Con yj 116 [.bool s,.slice p1 ((yd a).length) c1,.bool t,.slice p2 ((yd b).length) c2] [] [slF (rI .u32) p1 c1 (yd a),slF (rI .u32) p2 c2 (yd b)] (Y:=(Option Addr)×Nat) (fun y=>True) (fun y=> .agg #[.bool (decide ((yu s (a:Int)+yu t (b:Int))<0)),.slice (y.1) ((yd ((yu s (a:Int)+yu t (b:Int)).natAbs)).length) (y.2)]) (fun y=>[]) (fun y=>[slF (rI .u32) (y.1) (y.2) (yd ((yu s (a:Int)+yu t (b:Int)).natAbs))]):=by
 refine zm Tryz.func116 rfl rfl rfl (fun c=> ?_)
 show RunC _ _ _ _ _ [(0,.bool s),(1,.slice p1 ((yd a).length) c1),(2,.bool t),(3,.slice p2 ((yd b).length) c2)] [] [slF (rI .u32) p1 c1 (yd a),slF (rI .u32) p2 c2 (yd b)]
 refine zba 0 rfl (fun hL0=> ?_)
 refine zba 1 rfl (fun hL1=> ?_)
 refine zg<|za<|zM rfl rfl (zn zr41 rfl) (fun b1=> ?_)
 refine zh<|zd<|zg<|zB<|zg<|za<|e_mv rfl<|e_mv rfl<|e_p (zZb yy rfl rfl)<|e_p (zb rfl)<|zh<|zd<|zC rfl (fun hst=> ?_) (fun hst=> ?_)
 ·
  refine zg<|za<|e_mv rfl<|e_mv rfl<|e_mv rfl<|zE rfl rfl (.c rfl (.c rfl .n)) ce135 (zQd (a:=a) (b:=b) (p1:=p1) (c1:=c1) (p2:=p2) (c2:=c2) (hb1:=ass) (hb2:=ass)) (.c (j:=0) rfl (.c (j:=1) rfl .n)) ?_
  rintro ⟨p32,c33⟩ -
  dsimp only [aq,nq,cq]
  refine zE rfl rfl (.c rfl (.c rfl .n)) ce114 (zCa (s:=s) (a:=a+b) (p:=p32) (cap:=c33)) (.c (j:=0) rfl .n) ?_
  rintro ⟨p24,c25⟩ -
  dsimp only [aq,nq,cq]
  refine zk 0 rfl rfl rfl rfl rfl sz41 rfl (.t2 .nil) .z<|zh<|zd<|zH<|zp<|zi ?_
  have hz:yu s ((a+b:Nat):Int)=yu s (a:Int)+yu t (b:Int):=by rw [← hst];unfold yu;split <;> omega
  exact zy Tryz.results116 (p24,c25) trivial (zu 0 ty41 rfl rfl (.t2 .nil)) (by rw [hz]) (ho:=(.n:PickO _ _ _)) ((.e (j:=0) rfl (by rw [hz]) .n):SelR _ _ _)
 ·
  refine zg<|za<|e_mv rfl<|e_mv rfl<|zL rfl rfl (.c rfl (.c rfl .n)) ce136 (zec (a:=a) (b:=b) (p1:=p1) (c1:=c1) (p2:=p2) (c2:=c2)) (.c (j:=0) rfl (.c (j:=1) rfl .n))<|e_p (zJa rfl rfl)<|e_p (zb rfl)<|zh<|zd<|zC rfl (fun hcmp=> ?_) (fun hcmp=> ?_)
  ·
   have hab:b≤a:=by have:=Big.cmp_ge.1 hcmp;omega
   refine zg<|za<|e_mv rfl<|e_mv rfl<|e_mv rfl<|zE rfl rfl (.c rfl (.c rfl .n)) ce137 (zXc (a:=a) (b:=b) (p1:=p1) (c1:=c1) (p2:=p2) (c2:=c2) (hb1:=ass) (hb2:=ass) (hab:=cbb)) (.c (j:=0) rfl (.c (j:=1) rfl .n)) ?_
   rintro ⟨p36,c37⟩ -
   dsimp only [aq,nq,cq]
   refine zE rfl rfl (.c rfl (.c rfl .n)) ce114 (zCa (s:=s) (a:=a - b) (p:=p36) (cap:=c37)) (.c (j:=0) rfl .n) ?_
   rintro ⟨p28,c29⟩ -
   dsimp only [aq,nq,cq]
   refine zk 0 rfl rfl rfl rfl rfl sz41 rfl (.t2 .nil) .z<|zh<|zd<|zH<|zp<|zi ?_
   have hz:yu s ((a - b:Nat):Int)=yu s (a:Int)+yu t (b:Int):=by revert hst;unfold yu;cases s <;> cases t <;> simp <;> omega
   exact zy Tryz.results116 (p28,c29) trivial (zu 0 ty41 rfl rfl (.t2 .nil)) (by rw [hz]) (ho:=(.n:PickO _ _ _)) ((.e (j:=0) rfl (by rw [hz]) .n):SelR _ _ _)
  ·
   have hab:a≤b:=by have:¬(b:Int)≤a:=fun h=>hcmp (Big.cmp_ge.2 h);omega
   refine zA<|zO<|zd<|zg<|za<|e_mv rfl<|e_mv rfl<|e_mv rfl<|zE rfl rfl (.c rfl (.c rfl .n)) ce137 (zXc (a:=b) (b:=a) (p1:=p2) (c1:=c2) (p2:=p1) (c2:=c1) (hb1:=ass) (hb2:=ass) (hab:=cbb)) (.c (j:=1) rfl (.c (j:=0) rfl .n)) ?_
   rintro ⟨p310,c311⟩ -
   dsimp only [aq,nq,cq]
   refine zE rfl rfl (.c rfl (.c rfl .n)) ce114 (zCa (s:=t) (a:=b - a) (p:=p310) (cap:=c311)) (.c (j:=0) rfl .n) ?_
   rintro ⟨p212,c213⟩ -
   dsimp only [aq,nq,cq]
   refine zk 0 rfl rfl rfl rfl rfl sz41 rfl (.t2 .nil) .z<|zh<|zd<|zH ?_
   have hz:yu t ((b - a:Nat):Int)=yu s (a:Int)+yu t (b:Int):=by revert hst;unfold yu;cases s <;> cases t <;> simp <;> omega
   exact zy Tryz.results116 (p212,c213) trivial (zu 0 ty41 rfl rfl (.t2 .nil)) (by rw [hz]) (ho:=(.n:PickO _ _ _)) ((.e (j:=0) rfl (by rw [hz]) .n):SelR _ _ _)
theorem zRd {a:Nat} {b:Nat} {p1:Option Addr} {c1:Nat} {p2:Option Addr} {c2:Nat} (hb1:(yd a).length≤1099511627776) (hb2:(yd b).length≤1099511627776):Con yj 118 [.slice p1 ((yd a).length) c1,.slice p2 ((yd b).length) c2] [] [slF (rI .u32) p1 c1 (yd a),slF (rI .u32) p2 c2 (yd b)] (Y:=(Option Addr)×Nat) (fun y=>True) (fun y=> .slice (y.1) ((yd (a*b)).length) (y.2)) (fun y=>[]) (fun y=>[slF (rI .u32) (y.1) (y.2) (yd (a*b))]):=by
 refine zm Tryz.func118 rfl rfl rfl (fun c=> ?_)
 show RunC _ _ _ _ _ [(0,.slice p1 ((yd a).length) c1),(1,.slice p2 ((yd b).length) c2)] [] [slF (rI .u32) p1 c1 (yd a),slF (rI .u32) p2 c2 (yd b)]
 refine zba 0 rfl (fun hL0=> ?_)
 refine zba 1 rfl (fun hL1=> ?_)
 have hoa:=yo a
 have hob:=yo b
 refine zg<|za<|e_p (zb rfl)<|zh<|zd<|zg<|za<|e_mv rfl<|e_p (zN ye rfl)<|e_mv rfl<|e_p (zN ye rfl)<|e_p (zI (z:=(((((yd a).length)+((yd b).length)):Nat):Int)) rfl rfl (w64 om))<|zFa rfl rfl (zqb (r:=rI .u32) (k:=(((yd a).length)+((yd b).length))) (x0:=0) (γ0:=()) ye inf121 rfl rfl rfl rfl om om rfl (fun g _=>by exact zG.2 dd) dd) (fun b1 _=> ?_)
 refine e_p (zb rfl)<|zh<|zd<|zg<|zg<|za<|e_mv rfl<|e_p (zN ye rfl)<|e_mv rfl<|zh<|zd<|zB<|zka (X:=Nat×(List Int)) (fun x:Nat×(List Int)=>x.1≤(yd a).length∧x.2.length=(yd a).length+(yd b).length∧yr x.2∧(∀k,x.1+(yd b).length≤k→x.2.getD k 0=0)∧yf x.2=yf ((yd a).take x.1)*yf (yd b)) (fun x=>[(20,ya yb ((x.1:Nat):Int)),(19,ya yb (((yd a).length:Nat):Int)),(18,.slice p1 ((yd a).length) c1),(5,.slice (some ⟨b1,0,none⟩) (((yd a).length)+((yd b).length)) (((yd a).length)+((yd b).length))),(4,.slice none 0 0),(1,.slice p2 ((yd b).length) c2)]) (fun x=>[rowA 121 (rI .u32) (some ⟨b1,0,none⟩) (((yd a).length)+((yd b).length)) (x.2)]) (fun x=>[slF (rI .u32) p1 c1 (yd a),slF (rI .u32) p2 c2 (yd b)]) (fun x:Nat×(List Int)=>(yd a).length - x.1) (0,List.replicate ((yd a).length+(yd b).length) 0) (show 0≤(yd a).length∧(List.replicate ((yd a).length+(yd b).length) 0).length=(yd a).length+(yd b).length∧yr (List.replicate ((yd a).length+(yd b).length) 0)∧(∀k,0+(yd b).length≤k→(List.replicate ((yd a).length+(yd b).length) 0).getD k 0=0)∧yf (List.replicate ((yd a).length+(yd b).length) 0)=yf ((yd a).take 0)*yf (yd b) from by exact ⟨by omega,by simp,Big.okL_zeros _,fun k _=>Big.getD_zeros _ k,by simp [Big.valL_zeros,yf]⟩) ((.e rfl (by first|rfl|(congr 1;omega)|simp_all) (.of rfl)):SubM _ _) (ho:=((.e (i:=0) rfl (by first|rfl|(congr 1;omega)|simp_all) .n):PickO _ _ _)) ((.of [0,1] rfl):SelR _ _ _) ?_
 rintro ⟨i,os⟩ hI
 replace hI:i≤(yd a).length∧os.length=(yd a).length+(yd b).length∧yr os∧(∀k,i+(yd b).length≤k→os.getD k 0=0)∧yf os=yf ((yd a).take i)*yf (yd b):=hI
 try dsimp only
 obtain ⟨hi,hol,hok,hz,hv⟩:=hI
 have hg1:=ym hoa i
 refine zg<|za<|e_p (zY rfl rfl)<|zh<|zd<|zg<|zC rfl (fun h2=> ?_) (fun h2=> ?_)
 ·
  refine zA<|zd<|zg<|zB<|zg<|za<|e_mv rfl<|zP (x0:=((yd a).getD i 0)) 0 i rfl ye sz121 rfl rfl rfl (by first|rfl|assumption|(simp;omega)|omega) rfl rfl (gD (d:=0) om) (fun b3 o4 hok5=> ?_)
  replace hok5:=zG.1 hok5
  refine e_ru (zx (j:=0) 0 ty121 rfl rfl rfl rfl)<|e_p (zb rfl)<|e_p (zb rfl)<|zh<|zd<|zg<|za<|e_p (zb rfl)<|zh<|zd<|zg<|zg<|za<|e_mv rfl<|e_p (zN ye rfl)<|e_mv rfl<|zh<|zd<|zB<|zka (X:=Nat×(List Int)×Int) (fun x:Nat×(List Int)×Int=>x.1≤(yd b).length∧x.2.1.length=(yd a).length+(yd b).length∧yr x.2.1∧0≤x.2.2∧x.2.2<1000000000∧(∀k,i+(yd b).length≤k→x.2.1.getD k 0=0)∧yf x.2.1+yx (i+x.1)*x.2.2=yf ((yd a).take i)*yf (yd b)+yx i*(yd a).getD i 0*yf ((yd b).take x.1)) (fun x=>[(8,.int .u64 (x.2.2)),(27,ya yb ((x.1:Nat):Int)),(26,ya yb (((yd b).length:Nat):Int)),(25,.slice p2 ((yd b).length) c2),(7,.int .u32 ((yd a).getD i 0)),(6,ya yb ((i:Nat):Int)),(20,ya yb ((i:Nat):Int)),(19,ya yb (((yd a).length:Nat):Int)),(18,.slice p1 ((yd a).length) c1),(5,.slice (some ⟨b1,0,none⟩) (((yd a).length)+((yd b).length)) (((yd a).length)+((yd b).length))),(4,.slice none 0 0),(1,.slice p2 ((yd b).length) c2)]) (fun x=>[rowA 121 (rI .u32) (some ⟨b1,0,none⟩) (((yd a).length)+((yd b).length)) (x.2.1)]) (fun x=>[atF b3 o4 [.int .u32 ((yd a).getD i 0)],slF (rI .u32) p1 c1 (yd a),slF (rI .u32) p2 c2 (yd b)]) (fun x:Nat×(List Int)×Int=>(yd b).length - x.1) (0,os,0) (show 0≤(yd b).length∧os.length=(yd a).length+(yd b).length∧yr os∧0≤0∧0<1000000000∧(∀k,i+(yd b).length≤k→os.getD k 0=0)∧yf os+yx (i+0)*0=yf ((yd a).take i)*yf (yd b)+yx i*(yd a).getD i 0*yf ((yd b).take 0) from by exact ⟨by omega,hol,hok,by decide,by decide,hz,by rw [hv];simp [yf]⟩) ((.c rfl (.e rfl (by first|rfl|(congr 1;omega)|simp_all) (.of rfl))):SubM _ _) (ho:=((.c (i:=0) rfl .n):PickO _ _ _)) ((.of [0,1,2] rfl):SelR _ _ _) ?_
  rintro ⟨j,os2,cy⟩ hJ
  replace hJ:j≤(yd b).length∧os2.length=(yd a).length+(yd b).length∧yr os2∧0≤cy∧cy<1000000000∧(∀k,i+(yd b).length≤k→os2.getD k 0=0)∧yf os2+yx (i+j)*cy=yf ((yd a).take i)*yf (yd b)+yx i*(yd a).getD i 0*yf ((yd b).take j):=hJ
  try dsimp only
  obtain ⟨hj,hol2,hok2,hcy0,hcy1,hz2,hv2⟩:=hJ
  have hg2:=ym hob j
  have hg3:=ym hok2 (i+j)
  have hpq:=Big.mul_lim hg1 hg2
  refine zg<|za<|e_p (zY rfl rfl)<|zh<|zd<|zg<|zC rfl (fun h6=> ?_) (fun h6=> ?_)
  ·
   refine zA<|zd<|zg<|zB<|zg<|za<|e_mv rfl<|zP (x0:=((yd b).getD j 0)) 2 j rfl ye sz121 rfl rfl rfl (by first|rfl|assumption|(simp;omega)|omega) rfl rfl (gD (d:=0) om) (fun b7 o8 hok9=> ?_)
   replace hok9:=zG.1 hok9
   refine e_ru (zx (j:=0) 0 ty121 rfl rfl rfl rfl)<|e_p (zb rfl)<|e_p (zb rfl)<|zh<|zd<|zg<|za<|e_mv rfl<|e_mv rfl<|e_mv rfl<|e_p (zI (z:=(((i+j):Nat):Int)) rfl rfl (w64 om))<|e_p (zia (j:=(i+j)) ye sz121 rfl rfl rfl om)<|r_vl rfl rfl (zha 0 (i+j) rfl ty121 rfl rfl (gD (d:=0) om) rfl) (fun _ hok10=> ?_)
   replace hok10:=zG.1 hok10
   refine e_p (zK (z:=(os2.getD (i+j) 0)) rfl (by rw [yg];rfl) yh (wu64 om))<|e_mv rfl<|e_p (zK (z:=((yd a).getD i 0)) rfl (by rw [yg];rfl) yh (wu64 om))<|e_mv rfl<|e_p (zK (z:=((yd b).getD j 0)) rfl (by rw [yg];rfl) yh (wu64 om))<|e_p (zya (z:=(((yd a).getD i 0)*((yd b).getD j 0))) rfl rfl (wu64 om))<|e_p (zI (z:=((os2.getD (i+j) 0)+(((yd a).getD i 0)*((yd b).getD j 0)))) rfl rfl (wu64 om))<|e_mv rfl<|e_p (zI (z:=(((os2.getD (i+j) 0)+(((yd a).getD i 0)*((yd b).getD j 0)))+cy)) rfl rfl (wu64 om))<|e_p (zb rfl)<|zh<|zd<|za<|e_mv rfl<|e_mv rfl<|e_mv rfl<|e_p (zI (z:=(((i+j):Nat):Int)) rfl rfl (w64 om))<|e_mv rfl<|e_p (zwa (z:=((((os2.getD (i+j) 0)+(((yd a).getD i 0)*((yd b).getD j 0)))+cy)%1000000000)) rfl rfl om (remN om om))<|e_p (zK (z:=((((os2.getD (i+j) 0)+(((yd a).getD i 0)*((yd b).getD j 0)))+cy)%1000000000)) rfl (by rw [yh];rfl) yg (wu32 om))<|e_mv rfl<|e_p (zhb (z:=((((os2.getD (i+j) 0)+(((yd a).getD i 0)*((yd b).getD j 0)))+cy) / 1000000000)) rfl rfl om (by rw [quoN (z:=((((os2.getD (i+j) 0)+(((yd a).getD i 0)*((yd b).getD j 0)))+cy) / 1000000000)) om om];exact wu64 om))<|e_p (zia (j:=(i+j)) ye sz121 rfl rfl rfl om)<|zIa 0 rfl rfl rfl (zea (j:=(i+j)) (x0:=((((os2.getD (i+j) 0)+(((yd a).getD i 0)*((yd b).getD j 0)))+cy)%1000000000)) (γ0:=()) rfl rfl (by first|omega|(rw [List.length_map];omega)|(simp only [List.length_set];omega)|(simp;done)|(simp;omega)) rfl rfl sz121 (fun _ _=>by exact zG.2 om)) (fun _=> .z) (fun _ _=> ?_)
   refine e_p (zb rfl)<|zh<|zO<|zd<|za<|e_p (zI (z:=(((j+1):Nat):Int)) rfl rfl (w64 om))<|e_mv rfl<|zh<|zda ((j+1),os2.set (i+j) ((os2.getD (i+j) 0+(yd a).getD i 0*(yd b).getD j 0+cy)%1000000000),(os2.getD (i+j) 0+(yd a).getD i 0*(yd b).getD j 0+cy) / 1000000000) (show (j+1)≤(yd b).length∧(os2.set (i+j) ((os2.getD (i+j) 0+(yd a).getD i 0*(yd b).getD j 0+cy)%1000000000)).length=(yd a).length+(yd b).length∧yr (os2.set (i+j) ((os2.getD (i+j) 0+(yd a).getD i 0*(yd b).getD j 0+cy)%1000000000))∧0≤((os2.getD (i+j) 0+(yd a).getD i 0*(yd b).getD j 0+cy) / 1000000000)∧((os2.getD (i+j) 0+(yd a).getD i 0*(yd b).getD j 0+cy) / 1000000000)<1000000000∧(∀k,i+(yd b).length≤k→(os2.set (i+j) ((os2.getD (i+j) 0+(yd a).getD i 0*(yd b).getD j 0+cy)%1000000000)).getD k 0=0)∧yf (os2.set (i+j) ((os2.getD (i+j) 0+(yd a).getD i 0*(yd b).getD j 0+cy)%1000000000))+yx (i+(j+1))*((os2.getD (i+j) 0+(yd a).getD i 0*(yd b).getD j 0+cy) / 1000000000)=yf ((yd a).take i)*yf (yd b)+yx i*(yd a).getD i 0*yf ((yd b).take (j+1)) from by exact ⟨by omega,by simpa using hol2,yJ hok2 om om,by omega,by omega,fun k hk=>by rw [yD om];exact hz2 k om,Big.mul_step hv2 om om⟩) (by show (yd b).length - (j+1)<(yd b).length - j;omega) ((.e rfl (by first|rfl|(congr 1;omega)|simp_all) (.of rfl)):SubM _ _) (ho:=((.e (i:=0) rfl (by first|rfl|(congr 1;omega)|simp_all) .n):PickO _ _ _)) ((.of [1,2,3] rfl):SelR _ _ _)
  ·
   have hjb:j=(yd b).length:=by omega
   subst hjb
   have hv3:=hv2
   refine zja<|zj<|zj<|zt<|zd<|za<|e_mv rfl<|e_mv rfl<|e_mv rfl<|e_p (zN ye rfl)<|e_p (zI (z:=(((i+((yd b).length)):Nat):Int)) rfl rfl (w64 om))<|e_mv rfl<|e_p (zK (z:=cy) rfl (by rw [yh];rfl) yg (wu32 om))<|e_p (zia (j:=(i+((yd b).length))) ye sz121 rfl rfl rfl om)<|zIa 0 rfl rfl rfl (zea (j:=(i+((yd b).length))) (x0:=cy) (γ0:=()) rfl rfl (by first|omega|(rw [List.length_map];omega)|(simp only [List.length_set];omega)|(simp;done)|(simp;omega)) rfl rfl sz121 (fun _ _=>by exact zG.2 om)) (fun _=> .z) (fun _ _=> ?_)
   refine zh<|zO<|zd<|za<|e_p (zI (z:=(((i+1):Nat):Int)) rfl rfl (w64 om))<|e_mv rfl<|zh<|zda ((i+1),os2.set (i+(yd b).length) cy) (show (i+1)≤(yd a).length∧(os2.set (i+(yd b).length) cy).length=(yd a).length+(yd b).length∧yr (os2.set (i+(yd b).length) cy)∧(∀k,(i+1)+(yd b).length≤k→(os2.set (i+(yd b).length) cy).getD k 0=0)∧yf (os2.set (i+(yd b).length) cy)=yf ((yd a).take (i+1))*yf (yd b) from by exact ⟨by omega,by simpa using hol2,yJ hok2 om om,fun k hk=>by rw [yD om];exact hz2 k om,Big.mul_round hv3 om (hz2 _ (Nat.le_refl _))⟩) (by show (yd a).length - (i+1)<(yd a).length - i;omega) ((.of rfl):SubM _ _) (ho:=((.e (i:=0) rfl (by first|rfl|(congr 1;omega)|simp_all) .n):PickO _ _ _)) ((.of [1,2] rfl):SelR _ _ _)
 ·
  have hia:i=(yd a).length:=by omega
  have hfin:yn os=yd (a*b):=Big.trimL_of hok (by rw [hv,hia,List.take_length,yw,yw,Int.natCast_mul])
  refine zja<|zj<|zj<|zt<|zd<|zg<|za<|e_mv rfl<|zma 0 rfl .z<|zE rfl rfl (.c rfl .n) ce134 (zEb (p:=some ⟨b1,0,none⟩) (n:=(((yd a).length)+((yd b).length))) (cap:=(((yd a).length)+((yd b).length))) (l:=os) (hn:=cbb)) (.c (j:=0) rfl .n) ?_
  rintro ⟨⟩ -
  dsimp only [aq,nq,cq]
  refine e_p (zb rfl)<|zh<|zd<|zH ?_
  exact zy Tryz.results118 ((some ⟨b1,0,none⟩),(((yd a).length)+((yd b).length))) trivial (zl rfl) (by rw [hfin]) (ho:=(.n:PickO _ _ _)) ((.e (j:=0) rfl (by rw [hfin]) .n):SelR _ _ _)
theorem zDe {s:Bool} {p:Option Addr} {n:Nat} {cap:Nat} {l:List Int} (hn:l.length=n):Con yj 120 [.agg #[.bool s,.slice p n cap]] [] [slF (rI .u32) p cap l] (Y:=Unit) (fun y=>True) (fun y=> ya yb ((yk s l).sign)) (fun y=>[]) (fun y=>[]):=by
 refine zm Tryz.func120 rfl rfl rfl (fun c=> ?_)
 show RunC _ _ _ _ _ [(0,.agg #[.bool s,.slice p n cap])] [] [slF (rI .u32) p cap l]
 refine zba 0 rfl (fun hL0=> ?_)
 refine zSa 0 rfl (fun hE0=> ?_)
 have hnn:yG l:=fun g hg=>(zG.1 (hE0 g hg)).1
 refine zg<|za<|zM rfl rfl (zR rfl rfl) (fun b1=> ?_)
 refine e_p (zb rfl)<|zh<|zd<|zg<|zB<|zg<|za<|e_ru (zc 0 ty41 rfl rfl (.t2 .nil))<|zE rfl rfl (.c rfl .n) ce117 (zOa (s:=s) (p:=p) (n:=n) (cap:=cap) (l:=l) (hn:=ass)) (.c (j:=0) rfl .n) ?_
 rintro ⟨p22,c23⟩ -
 dsimp only [aq,nq,cq]
 refine e_p (zN ye rfl)<|e_p (zua rfl rfl)<|e_p (zb rfl)<|zh<|zd<|zC rfl (fun h0=> ?_) (fun h0=> ?_)
 ·
  refine zg<|za<|e_p (zb rfl)<|zh<|zd<|zH<|zp<|zi ?_
  exact zy Tryz.results120 () trivial (zl rfl) (by rw [show yk s l=0 by have:=yB.1 (show (yd (yk s l).natAbs).length=0 by omega);omega];rfl) (ho:=(.n:PickO _ _ _)) (.n:SelR _ _ _)
 ·
  refine zg<|za<|e_p (ze yl rfl sz4 rfl rfl)<|e_ru (zf 0 ty4 rfl rfl rfl)<|e_p (zb rfl)<|zh<|zd<|zob rfl (fun hs=> ?_) (fun hs=> ?_)
  ·
   refine zg<|za<|e_p (zb rfl)<|zh<|zd<|zH<|zp<|zi ?_
   exact zy Tryz.results120 () trivial (zl rfl) (by rw [Big.sign_neg hnn hs (by intro e;rw [e] at h0;exact h0 rfl)]) (ho:=(.n:PickO _ _ _)) (.n:SelR _ _ _)
  ·
   refine zA<|zO<|zd<|zg<|za<|e_p (zb rfl)<|zh<|zd<|zH ?_
   exact zy Tryz.results120 () trivial (zl rfl) (by rw [Big.sign_pos hnn hs (by intro e;rw [e] at h0;exact h0 rfl)]) (ho:=(.n:PickO _ _ _)) (.n:SelR _ _ _)
theorem zYc {z:Int} {p:Option Addr} {cap:Nat}:Con yj 120 [.agg #[.bool (decide ((z)<0)),.slice (p) ((yd ((z).natAbs)).length) (cap)]] [] [slF (rI .u32) (p) (cap) (yd ((z).natAbs))] (Y:=Unit) (fun y=>True) (fun y=> ya yb ((z).sign)) (fun y=>[]) (fun y=>[]):=by
  have h:= @zDe (decide ((z)<0)) p (yd (z).natAbs).length cap (yd (z).natAbs) rfl
  rw [yq] at h
  exact h
theorem zrc {w1:Wd} {x1:Int}:Con yj 120 [.agg #[w1.b,w1.l]] [] [zF w1 (x1)] (Y:=Unit) (fun y=>True) (fun y=> ya yb ((x1).sign)) (fun y=>[]) (fun y=>[]):=by
  exact zOd (fun p c=>zYc)
theorem zBg {s:Bool} {p1:Option Addr} {n1:Nat} {c1:Nat} {l1:List Int} {t:Bool} {p2:Option Addr} {n2:Nat} {c2:Nat} {l2:List Int} (hn1:l1.length=n1) (hn2:l2.length=n2) (hb1:yt (yk s l1)≤1099511627776) (hb2:yt (yk t l2)≤1099511627776):Con yj 85 [.agg #[.bool s,.slice p1 n1 c1],.agg #[.bool t,.slice p2 n2 c2]] [] [slF (rI .u32) p1 c1 l1,slF (rI .u32) p2 c2 l2] (Y:=(Option Addr)×Nat) (fun y=>True) (fun y=> .agg #[.bool (decide ((yk s l1+yk t l2)<0)),.slice (y.1) ((yd ((yk s l1+yk t l2).natAbs)).length) (y.2)]) (fun y=>[]) (fun y=>[slF (rI .u32) (y.1) (y.2) (yd ((yk s l1+yk t l2).natAbs))]):=by
 refine zm Tryz.func85 rfl rfl rfl (fun c=> ?_)
 show RunC _ _ _ _ _ [(0,.agg #[.bool s,.slice p1 n1 c1]),(1,.agg #[.bool t,.slice p2 n2 c2])] [] [slF (rI .u32) p1 c1 l1,slF (rI .u32) p2 c2 l2]
 refine zba 0 rfl (fun hL0=> ?_)
 refine zSa 0 rfl (fun hE0=> ?_)
 refine zba 1 rfl (fun hL1=> ?_)
 refine zSa 1 rfl (fun hE1=> ?_)
 have hnn1:yG l1:=fun g hg=>(zG.1 (hE0 g hg)).1
 have hnn2:yG l2:=fun g hg=>(zG.1 (hE1 g hg)).1
 refine zg<|za<|zM rfl rfl (zR rfl rfl) (fun b1=> ?_)
 refine zM rfl rfl (zR rfl rfl) (fun b2=> ?_)
 refine zM rfl rfl (zn zr41 rfl) (fun b3=> ?_)
 refine zh<|zd<|zg<|zW (OW:=[boxA b3 41 [wz.b,wz.l]]) (O:=[boxA b2 41 [.bool t,.slice p2 n2 c2],boxA b1 41 [.bool s,.slice p1 n1 c1]]) 9 mixed (.then .ret) kr<|e_pv 0 rfl rfl (ze yl rfl sz4 rfl rfl)<|e_uw 1 rfl rfl (zf 2 ty4 rfl rfl rfl)<|e_uw 2 rfl rfl (zc 2 ty41 rfl rfl (.t2 .nil))<|e_pv 4 rfl rfl (ze yl rfl sz4 rfl rfl)<|e_uw 5 rfl rfl (zf 1 ty4 rfl rfl rfl)<|e_uw 6 rfl rfl (zc 1 ty41 rfl rfl (.t2 .nil))<|e_one 3 (zw rfl rfl rfl rfl (.c rfl .n) ce117 (zOa (s:=s) (p:=p1) (n:=n1) (cap:=c1) (l:=l1) (hn:=ass)) (.c (j:=0) rfl .n) ?_)
 rintro ⟨p24,c25⟩ -
 dsimp only [aq,nq,cq]
 refine e_one 7 (zw rfl rfl rfl rfl (.c rfl .n) ce117 (zOa (s:=t) (p:=p2) (n:=n2) (cap:=c2) (l:=l2) (hn:=ass)) (.c (j:=2) rfl .n) ?_)
 rintro ⟨p26,c27⟩ -
 dsimp only [aq,nq,cq]
 refine e_one 8 (zw rfl rfl rfl rfl (.c rfl (.c rfl (.c rfl (.c rfl .n)))) ce116 (zAg (s:=s) (t:=t) (a:=(yk s l1).natAbs) (b:=(yk t l2).natAbs) (p1:=p24) (c1:=c25) (p2:=p26) (c2:=c27) (hb1:=cbb) (hb2:=cbb)) (.c (j:=1) rfl (.c (j:=0) rfl .n)) ?_)
 rintro ⟨p38,c39⟩ -
 dsimp only [aq,nq,cq]
 refine e_one 9 (zv kr rfl rfl rfl rfl rfl sz41 rfl (.t2 .nil) ?_)
 refine zT kr<|zd<|zH ?_
 have hz:yu s ((yk s l1).natAbs:Int)+yu t ((yk t l2).natAbs:Int)=yk s l1+yk t l2:=by rw [yN hnn1,yN hnn2]
 exact zy Tryz.results85 (p38,c39) trivial (zu 0 ty41 rfl rfl (.t2 .nil)) (by rw [hz]) (ho:=(.n:PickO _ _ _)) ((.e (j:=0) rfl (by rw [hz]) .n):SelR _ _ _)
theorem zhg {x1:Int} {x2:Int} {p1:Option Addr} {c1:Nat} {p2:Option Addr} {c2:Nat} (hb1:yt x1≤1099511627776) (hb2:yt x2≤1099511627776):Con yj 85 [.agg #[.bool (decide ((x1)<0)),.slice (p1) ((yd ((x1).natAbs)).length) (c1)],.agg #[.bool (decide ((x2)<0)),.slice (p2) ((yd ((x2).natAbs)).length) (c2)]] [] [slF (rI .u32) (p1) (c1) (yd ((x1).natAbs)),slF (rI .u32) (p2) (c2) (yd ((x2).natAbs))] (Y:=(Option Addr)×(Nat)) (fun y=>True) (fun y=> .agg #[.bool (decide ((x1+x2)<0)),.slice (y.1) ((yd ((x1+x2).natAbs)).length) (y.2)]) (fun y=>[]) (fun y=>[slF (rI .u32) (y.1) (y.2) (yd ((x1+x2).natAbs))]):=by
  have h:= @zBg (decide ((x1)<0)) p1 (yd (x1).natAbs).length c1 (yd (x1).natAbs) (decide ((x2)<0)) p2 (yd (x2).natAbs).length c2 (yd (x2).natAbs) rfl rfl (by rw [yq];exact hb1) (by rw [yq];exact hb2)
  rw [yq,yq] at h
  exact h
theorem zyd {w1:Wd} {w2:Wd} {x1:Int} {x2:Int} (hb1:yt x1≤1099511627776) (hb2:yt x2≤1099511627776):Con yj 85 [.agg #[w1.b,w1.l],.agg #[w2.b,w2.l]] [] [zF w1 (x1),zF w2 (x2)] (Y:=(Wd)) (fun y=>True) (fun y=> .agg #[y.b,y.l]) (fun y=>[]) (fun y=>[zF y (x1+x2)]):=by
  exact zYb (zIc (fun p1 c1 p2 c2=>zhg hb1 hb2))
theorem zCg {s:Bool} {p1:Option Addr} {n1:Nat} {c1:Nat} {l1:List Int} {t:Bool} {p2:Option Addr} {n2:Nat} {c2:Nat} {l2:List Int} (hn1:l1.length=n1) (hn2:l2.length=n2) (hb1:yt (yk s l1)≤1099511627776) (hb2:yt (yk t l2)≤1099511627776):Con yj 86 [.agg #[.bool s,.slice p1 n1 c1],.agg #[.bool t,.slice p2 n2 c2]] [] [slF (rI .u32) p1 c1 l1,slF (rI .u32) p2 c2 l2] (Y:=(Option Addr)×Nat) (fun y=>True) (fun y=> .agg #[.bool (decide ((yk s l1*yk t l2)<0)),.slice (y.1) ((yd ((yk s l1*yk t l2).natAbs)).length) (y.2)]) (fun y=>[]) (fun y=>[slF (rI .u32) (y.1) (y.2) (yd ((yk s l1*yk t l2).natAbs))]):=by
 refine zm Tryz.func86 rfl rfl rfl (fun c=> ?_)
 show RunC _ _ _ _ _ [(0,.agg #[.bool s,.slice p1 n1 c1]),(1,.agg #[.bool t,.slice p2 n2 c2])] [] [slF (rI .u32) p1 c1 l1,slF (rI .u32) p2 c2 l2]
 refine zba 0 rfl (fun hL0=> ?_)
 refine zSa 0 rfl (fun hE0=> ?_)
 refine zba 1 rfl (fun hL1=> ?_)
 refine zSa 1 rfl (fun hE1=> ?_)
 have hnn1:yG l1:=fun g hg=>(zG.1 (hE0 g hg)).1
 have hnn2:yG l2:=fun g hg=>(zG.1 (hE1 g hg)).1
 refine zg<|za<|zM rfl rfl (zR rfl rfl) (fun b1=> ?_)
 refine zM rfl rfl (zR rfl rfl) (fun b2=> ?_)
 refine zM rfl rfl (zn zr41 rfl) (fun b3=> ?_)
 refine zh<|zd<|zg<|zW (OW:=[boxA b3 41 [wz.b,wz.l]]) (O:=[boxA b2 41 [.bool t,.slice p2 n2 c2],boxA b1 41 [.bool s,.slice p1 n1 c1]]) 11 mixed (.then .ret) kr<|e_pv 0 rfl rfl (ze yl rfl sz4 rfl rfl)<|e_uw 1 rfl rfl (zf 2 ty4 rfl rfl rfl)<|e_pv 2 rfl rfl (ze yl rfl sz4 rfl rfl)<|e_uw 3 rfl rfl (zf 1 ty4 rfl rfl rfl)<|e_pv 4 rfl rfl (zNa yy rfl rfl)<|e_uw 5 rfl rfl (zc 2 ty41 rfl rfl (.t2 .nil))<|e_uw 7 rfl rfl (zc 1 ty41 rfl rfl (.t2 .nil))<|e_one 6 (zw rfl rfl rfl rfl (.c rfl .n) ce117 (zOa (s:=s) (p:=p1) (n:=n1) (cap:=c1) (l:=l1) (hn:=ass)) (.c (j:=0) rfl .n) ?_)
 rintro ⟨p24,c25⟩ -
 dsimp only [aq,nq,cq]
 refine e_one 8 (zw rfl rfl rfl rfl (.c rfl .n) ce117 (zOa (s:=t) (p:=p2) (n:=n2) (cap:=c2) (l:=l2) (hn:=ass)) (.c (j:=2) rfl .n) ?_)
 rintro ⟨p26,c27⟩ -
 dsimp only [aq,nq,cq]
 refine e_one 9 (zw rfl rfl rfl rfl (.c rfl (.c rfl .n)) ce118 (zRd (a:=(yk s l1).natAbs) (b:=(yk t l2).natAbs) (p1:=p24) (c1:=c25) (p2:=p26) (c2:=c27) (hb1:=cbb) (hb2:=cbb)) (.c (j:=1) rfl (.c (j:=0) rfl .n)) ?_)
 rintro ⟨p38,c39⟩ -
 dsimp only [aq,nq,cq]
 refine e_one 10 (zw rfl rfl rfl rfl (.c rfl (.c rfl .n)) ce114 (zCa (s:=decide (s≠t)) (a:=((yk s l1).natAbs)*((yk t l2).natAbs)) (p:=p38) (cap:=c39)) (.c (j:=0) rfl .n) ?_)
 rintro ⟨p210,c211⟩ -
 dsimp only [aq,nq,cq]
 refine e_one 11 (zv kr rfl rfl rfl rfl rfl sz41 rfl (.t2 .nil) ?_)
 refine zT kr<|zd<|zH ?_
 have hz:yu (decide (s≠t)) (((yk s l1).natAbs*(yk t l2).natAbs:Nat):Int)=yk s l1*yk t l2:=by rw [Big.sg_mul,yN hnn1,yN hnn2]
 exact zy Tryz.results86 (p210,c211) trivial (zu 0 ty41 rfl rfl (.t2 .nil)) (by rw [hz]) (ho:=(.n:PickO _ _ _)) ((.e (j:=0) rfl (by rw [hz]) .n):SelR _ _ _)
theorem zig {x1:Int} {x2:Int} {p1:Option Addr} {c1:Nat} {p2:Option Addr} {c2:Nat} (hb1:yt x1≤1099511627776) (hb2:yt x2≤1099511627776):Con yj 86 [.agg #[.bool (decide ((x1)<0)),.slice (p1) ((yd ((x1).natAbs)).length) (c1)],.agg #[.bool (decide ((x2)<0)),.slice (p2) ((yd ((x2).natAbs)).length) (c2)]] [] [slF (rI .u32) (p1) (c1) (yd ((x1).natAbs)),slF (rI .u32) (p2) (c2) (yd ((x2).natAbs))] (Y:=(Option Addr)×(Nat)) (fun y=>True) (fun y=> .agg #[.bool (decide ((x1*x2)<0)),.slice (y.1) ((yd ((x1*x2).natAbs)).length) (y.2)]) (fun y=>[]) (fun y=>[slF (rI .u32) (y.1) (y.2) (yd ((x1*x2).natAbs))]):=by
  have h:= @zCg (decide ((x1)<0)) p1 (yd (x1).natAbs).length c1 (yd (x1).natAbs) (decide ((x2)<0)) p2 (yd (x2).natAbs).length c2 (yd (x2).natAbs) rfl rfl (by rw [yq];exact hb1) (by rw [yq];exact hb2)
  rw [yq,yq] at h
  exact h
theorem zlb {w1:Wd} {w2:Wd} {x1:Int} {x2:Int} (hb1:yt x1≤1099511627776) (hb2:yt x2≤1099511627776):Con yj 86 [.agg #[w1.b,w1.l],.agg #[w2.b,w2.l]] [] [zF w1 (x1),zF w2 (x2)] (Y:=(Wd)) (fun y=>True) (fun y=> .agg #[y.b,y.l]) (fun y=>[]) (fun y=>[zF y (x1*x2)]):=by
  exact zYb (zIc (fun p1 c1 p2 c2=>zig hb1 hb2))
end Go.Proofs.YtjcpbhlijoigfaaGreat.Sp
namespace Go.Proofs.YtjcpbhlijoigfaaGreat.Sp
open Go
set_option linter.unusedVariables false
set_option maxRecDepth 100000
set_option maxHeartbeats 8000000
theorem zDg {p:Option Addr} {n:Nat} {cap:Nat} {l:List Int} (hn:l.length=n) (hb:n≤2199023255552):Con yj 153 [.slice p n cap] [] [slF (rI .u32) p cap l] (Y:=(Option Addr)×Nat) (fun y=>True) (fun y=> .slice (y.1) (l.length) (y.2)) (fun y=>[]) (fun y=>[slF (rI .u32) (y.1) (y.2) l]):=by
 refine zm Tryz.func153 rfl rfl rfl (fun c=> ?_)
 show RunC _ _ _ _ _ [(0,.slice p n cap)] [] [slF (rI .u32) p cap l]
 refine zba 0 rfl (fun hL0=> ?_)
 refine c_nil 0 rfl (fun hnil=> ?_)
 refine zg<|za<|e_p (zb rfl)<|zh<|zd<|zg<|zg<|za<|e_mv rfl<|e_p (zKd ye rfl rfl)<|zh<|zd<|zob rfl (fun h0=> ?_) (fun h0=> ?_)
 ·
  refine zg<|za<|e_p (zb rfl)<|zh<|zd<|zH<|zi ?_
  obtain rfl:l=[]:=hnil (by simpa using h0)
  refine zJd (rI .u32) ?_
  exact zy Tryz.results153 (none,0) trivial (zl rfl) rfl (ho:=(.n:PickO _ _ _)) ((.c (j:=0) rfl .n):SelR _ _ _)
 ·
  refine zA<|zd<|zg<|za<|zFa rfl rfl (zva (rI .u32) ye inf121) (fun b1 _=> ?_)
  refine e_mv rfl<|zIa 0 rfl rfl rfl (zsa 0 rfl ye inf121 dd rfl rfl cbs rfl cbs (by first|omega|(simp;omega)) (by first|omega|(simp;omega))) (fun _=> .z) ?_
  rintro ⟨p2,c3⟩ -
  dsimp only [aq,nq,cq]
  refine e_p (zb rfl)<|zh<|zd<|zH<|zUb 0 rfl .z ?_
  exact zy Tryz.results153 (p2,c3) trivial (zl rfl) (by simp [hn]) (ho:=(.n:PickO _ _ _)) ((.c (j:=0) rfl .n):SelR _ _ _)
theorem zzd {a:Nat} {p:Option Addr} {cap:Nat} (hb:(yd (a)).length≤2199023255552):Con yj 153 [.slice (p) ((yd (a)).length) (cap)] [] [slF (rI .u32) (p) (cap) (yd (a))] (Y:=(Option Addr)×(Nat)) (fun y=>True) (fun y=> .slice (y.1) ((yd (a)).length) (y.2)) (fun y=>[]) (fun y=>[slF (rI .u32) (y.1) (y.2) (yd (a))]):=by
  exact zDg rfl hb
theorem zMc {a:Nat} {p:Option Addr} {cap:Nat}:Con yj 154 [.slice p ((yd a).length) cap] [] [slF (rI .u32) p cap (yd a)] (Y:=Unit) (fun y=>True) (fun y=> .tuple #[.int .u64 (((if (yd a).length≤2 then a else 0):Nat):Int),.bool (decide ((yd a).length≤2))]) (fun y=>[]) (fun y=>[]):=by
 refine zxc Tryz.func154 rfl rfl rfl (fun c=> ?_)
 show RunC _ _ _ _ _ [(0,.slice p ((yd a).length) cap)] [] [slF (rI .u32) p cap (yd a)]
 refine zba 0 rfl (fun hL0=> ?_)
 refine zg<|za<|e_p (zb rfl)<|e_p (zb rfl)<|zh<|zd<|zg<|zg<|za<|e_mv rfl<|e_p (zN ye rfl)<|e_p (zAa rfl rfl)<|zh<|zd<|zC rfl (fun hgt=> ?_) (fun hgt=> ?_)
 ·
  refine zg<|za<|e_p (zb rfl)<|e_p (zb rfl)<|zh<|zd<|zH<|zi<|zhf ?_
  exact zra Tryz.results154 () trivial (zl rfl) (zl rfl) (by rw [if_neg om,decide_eq_false (show ¬(yd a).length≤2 by omega)];rfl) (ho:=(.n:PickO _ _ _)) (.n:SelR _ _ _)
 ·
  have hle:(yd a).length≤2:=by omega
  have h18:=yO hle
  refine zA<|zd<|zg<|za<|zM rfl rfl (zn zr120 rfl) (fun b1=> ?_)
  refine zk 0 rfl rfl rfl rfl rfl sz120 rfl (.take .nil) .z<|zh<|zd<|zg<|zg<|za<|e_mv rfl<|zE rfl rfl (.c rfl .n) ce149 (zPb (p:=p) (n:=(yd a).length) (cap:=cap)) (.n) ?_
  rintro b2 -
  dsimp only [aq,nq,cq]
  refine zh<|zd<|zB<|zge (fa:=[atF b2 0 [.slice p ((yd a).length) cap],slF (rI .u32) p cap (yd a)]) (N:=((yd a).length)) (encs:=fun k=>[ya yb ((k:Nat):Int),.int .u32 ((yd a).getD k 0)]) rfl ce157 (back_u32 cbs) (fun _=>rfl) rfl (X:=Int) (Y:=Unit) (fun x k=>k≤(yd a).length∧x=yf ((yd a).drop k)∧0≤x∧x*yx k≤(a:Int)) (fun y=>False) (fun x=>[boxA b1 120 [.int .u64 x]]) (fun x=>[]) (fun y=>[]) (fun y=>[]) (fun k=>[(6,.int .u32 ((yd a).getD k 0)),(13,.int .u32 ((yd a).getD k 0)),(12,ya yb ((k:Nat):Int)),(11,.func (.func 157) #[] #[yc (some ⟨b2,0,none⟩)]),(10,.slice p ((yd a).length) cap),(4,yc (some ⟨b1,0,none⟩)),(9,.bool (decide (2<(((yd a).length:Nat):Int)))),(8,ya yb (((yd a).length:Nat):Int)),(7,.slice p ((yd a).length) cap),(3,.bool false),(2,.int .u64 0),(0,.slice p ((yd a).length) cap)]) (0:Int) (show ((yd a).length)≤(yd a).length∧(0:Int)=yf ((yd a).drop ((yd a).length))∧0≤(0:Int)∧(0:Int)*yx ((yd a).length)≤(a:Int) from by exact ⟨Nat.le_refl _,by simp [yf],Int.le_refl _,by simp⟩) (ho:=((.e (i:=0) rfl (by first|rfl|(congr 1;omega)|simp_all) .n):PickO _ _ _)) ((.of [0,1] rfl):SelR _ _ _) ?_ ?_ ?_ ?_
  ·
   intro l k O' R' Q' hP
   refine za<|e_p (zb rfl)<|zh ?_
   exact hP
  ·
   rintro l3 D4 o5 o6 z k hkN hI
   replace hI:(k+1)≤(yd a).length∧z=yf ((yd a).drop (k+1))∧0≤z∧z*yx (k+1)≤(a:Int):=hI
   try dsimp only
   obtain ⟨hk,hz,hz0,hzp⟩:=hI
   have hg:=ym (yo a) k
   have hlim:=Big.word_lim hle (show k+1≤(yd a).length by omega) hz0 hzp
   refine zB<|za<|e_ru (zf 2 ty120 rfl rfl rfl)<|e_p (zya (z:=(z*1000000000)) rfl rfl (wu64 om))<|e_mv rfl<|e_p (zK (z:=((yd a).getD k 0)) rfl (by rw [yg];rfl) yh (wu64 om))<|e_p (zI (z:=((z*1000000000)+((yd a).getD k 0))) rfl rfl (wu64 om))<|zk 2 rfl rfl rfl rfl rfl sz120 rfl (.take .nil) (.s (.s .z))<|zh<|zO ?_
   exact zee (z*1000000000+(yd a).getD k 0) (show k≤(yd a).length∧(z*1000000000+(yd a).getD k 0)=yf ((yd a).drop k)∧0≤(z*1000000000+(yd a).getD k 0)∧(z*1000000000+(yd a).getD k 0)*yx k≤(a:Int) from by exact ⟨by omega,by rw [hz];exact Big.word_step k,by omega,Big.word_keep (show k+1≤(yd a).length by omega) hz⟩) (ho:=((.c (i:=0) rfl (.c (i:=0) rfl (.e (i:=0) rfl (by first|rfl|(congr 1;omega)|simp_all) .n))):PickO _ _ _)) ((.of [0,1] rfl):SelR _ _ _)
  ·
   rintro D7 z hI
   replace hI:0≤(yd a).length∧z=yf ((yd a).drop 0)∧0≤z∧z*yx 0≤(a:Int):=hI
   try dsimp only
   have hz9:z=(a:Int):=by rw [hI.2.1,List.drop_zero,yw]
   refine zO<|zd<|zg<|za<|e_ru (zf 1 ty120 rfl rfl rfl)<|e_p (zb rfl)<|e_p (zb rfl)<|zh<|zd<|zH<|zAe 0 rfl rfl ?_
   exact zra Tryz.results154 () trivial (zl rfl) (zl rfl) (by rw [if_pos hle,decide_eq_true hle,hz9]) (ho:=(.n:PickO _ _ _)) (.n:SelR _ _ _)
  ·
   intro _ _ h;exact h.elim
theorem zSd {a:Nat} {mm:Nat} {p:Option Addr} {cap:Nat} (hb:(yd a).length≤1099511627776) (hm0:0<mm) (hm1:mm<4294967296):Con yj 160 [.slice p ((yd a).length) cap,.int .u32 ((mm:Nat):Int)] [] [slF (rI .u32) p cap (yd a)] (Y:=(Option Addr)×Nat) (fun y=>True) (fun y=> .tuple #[.slice (y.1) ((yd (a / mm)).length) (y.2),.int .u32 (((a%mm):Nat):Int)]) (fun y=>[]) (fun y=>[slF (rI .u32) (y.1) (y.2) (yd (a / mm))]):=by
 refine zxc Tryz.func160 rfl rfl rfl (fun c=> ?_)
 show RunC _ _ _ _ _ [(0,.slice p ((yd a).length) cap),(1,.int .u32 ((mm:Nat):Int))] [] [slF (rI .u32) p cap (yd a)]
 refine zba 0 rfl (fun hL0=> ?_)
 refine zg<|za<|zM rfl rfl (zR rfl rfl) (fun b1=> ?_)
 refine zM rfl rfl (zn zr39 rfl) (fun b2=> ?_)
 refine e_p (zb rfl)<|zh<|zd<|zg<|za<|e_mv rfl<|e_p (zN ye rfl)<|zFa rfl rfl (zqb (r:=rI .u32) (k:=(yd a).length) (x0:=0) (γ0:=()) ye inf121 rfl rfl rfl rfl om om rfl (fun g _=>by exact zG.2 dd) dd) (fun b3 _=> ?_)
 refine zk 1 rfl rfl rfl rfl rfl sz39 rfl (.take .nil) (.s .z)<|zh<|zd<|zg<|za<|zM rfl rfl (zn zr120 rfl) (fun b4=> ?_)
 refine zk 0 rfl rfl rfl rfl rfl sz120 rfl (.take .nil) .z<|zh<|zd<|zg<|zg<|za<|e_mv rfl<|zE rfl rfl (.c rfl .n) ce149 (zPb (p:=p) (n:=(yd a).length) (cap:=cap)) (.n) ?_
 rintro b5 -
 dsimp only [aq,nq,cq]
 refine zh<|zd<|zB<|zge (fa:=[atF b5 0 [.slice p ((yd a).length) cap],slF (rI .u32) p cap (yd a)]) (N:=((yd a).length)) (encs:=fun k=>[ya yb ((k:Nat):Int),.int .u32 ((yd a).getD k 0)]) rfl ce157 (back_u32 (by first|rfl|assumption|(simp;done)|omega)) (fun _=>rfl) rfl (X:=(List Int)×(List Int)×Int) (Y:=Unit) (fun x k=>x.1=List.replicate k 0++x.2.1∧Big.ShI (yd a) (mm:Int) k x.2.1 x.2.2) (fun y=>False) (fun x=>[boxA b4 120 [.int .u64 (x.2.2)],rowA 121 (rI .u32) (some ⟨b3,0,none⟩) ((yd a).length) (x.1),boxA b2 39 [.slice (some ⟨b3,0,none⟩) ((yd a).length) ((yd a).length)],boxA b1 121 [.int .u32 ((mm:Nat):Int)]]) (fun x=>[]) (fun y=>[]) (fun y=>[]) (fun k=>[(8,.int .u32 ((yd a).getD k 0)),(7,ya yb ((k:Nat):Int)),(16,.int .u32 ((yd a).getD k 0)),(15,ya yb ((k:Nat):Int)),(14,.func (.func 157) #[] #[yc (some ⟨b5,0,none⟩)]),(13,.slice p ((yd a).length) cap),(6,yc (some ⟨b4,0,none⟩)),(12,.slice (some ⟨b3,0,none⟩) ((yd a).length) ((yd a).length)),(11,ya yb (((yd a).length:Nat):Int)),(10,.slice p ((yd a).length) cap),(5,.int .u32 0),(4,yc (some ⟨b2,0,none⟩)),(3,yc (some ⟨b1,0,none⟩)),(0,.slice p ((yd a).length) cap),(1,.int .u32 ((mm:Nat):Int))]) ((List.replicate (yd a).length 0),([]:List Int),(0:Int)) (show (List.replicate (yd a).length 0)=List.replicate ((yd a).length) 0++([]:List Int)∧Big.ShI (yd a) (mm:Int) ((yd a).length) ([]:List Int) (0:Int) from by exact ⟨by simp,Big.ShI.start om⟩) (ho:=((.e (i:=0) rfl (by first|rfl|(congr 1;omega)|simp_all) (.e (i:=0) rfl (by first|rfl|(congr 1;omega)|simp_all) (.of [0,0] rfl))):PickO _ _ _)) ((.of [0,1] rfl):SelR _ _ _) ?_ ?_ ?_ ?_
 ·
  intro l k O' R' Q' hP
  refine zg<|za<|e_p (zb rfl)<|zh<|zd<|za<|e_p (zb rfl)<|zh ?_
  exact hP
 ·
  rintro l6 D7 o8 o9 ⟨os,qs,z⟩ k hkN hI
  replace hI:os=List.replicate (k+1) 0++qs∧Big.ShI (yd a) (mm:Int) (k+1) qs z:=hI
  try dsimp only
  obtain ⟨hos,hS⟩:=hI
  have hz0:=hS.r0
  have hz1:=hS.r1
  have hkle:=hS.le
  have hosl:os.length=(yd a).length:=by rw [hos,List.length_append,List.length_replicate,hS.len];omega
  have hg:=ym (yo a) k
  have hdg:=Big.sh_digit hz0 hz1 hg
  have hrm:=Int.emod_lt_of_pos (z*1000000000+(yd a).getD k 0) (show 0<(mm:Int) by omega)
  have hrm0:=Int.emod_nonneg (z*1000000000+(yd a).getD k 0) (show (mm:Int)≠0 by omega)
  refine zB<|zg<|za<|e_ru (zf 2 ty120 rfl rfl rfl)<|e_p (zya (z:=(z*1000000000)) rfl rfl (wu64 om))<|e_mv rfl<|e_p (zK (z:=((yd a).getD k 0)) rfl (by rw [yg];rfl) yh (wu64 om))<|e_p (zI (z:=((z*1000000000)+((yd a).getD k 0))) rfl rfl (wu64 om))<|e_p (zb rfl)<|zh<|zd<|zqa (.c (i:=3) rfl (.c (i:=2) rfl (.c (i:=0) rfl (.c (i:=0) rfl (.c (i:=0) rfl (.c (i:=0) rfl .n))))))<|znf (OW:=[rowA 121 (rI .u32) (some ⟨b3,0,none⟩) ((yd a).length) os,boxA b4 120 [.int .u64 z]]) (O:=[objA l6 o8,objA D7 o9,boxA b2 39 [.slice (some ⟨b3,0,none⟩) ((yd a).length) ((yd a).length)],boxA b1 121 [.int .u32 ((mm:Nat):Int)]]) 12 mixed kr kr<|e_uw 0 rfl rfl (zf 4 ty39 rfl rfl rfl)<|e_dm 1 rfl rfl rfl<|e_dm 2 rfl rfl rfl<|e_uw 3 rfl rfl (zf 5 ty121 rfl rfl rfl)<|e_pv 4 rfl rfl (zK (z:=((mm:Nat):Int)) rfl (by rw [yg];rfl) yh (wu64 om))<|e_pv 5 rfl rfl (zhb (z:=(((z*1000000000)+((yd a).getD k 0)) / ((mm:Nat):Int))) rfl rfl om (by rw [quoN (z:=(((z*1000000000)+((yd a).getD k 0)) / ((mm:Nat):Int))) om om];exact wu64 om))<|e_pv 6 rfl rfl (zK (z:=(((z*1000000000)+((yd a).getD k 0)) / ((mm:Nat):Int))) rfl (by rw [yh];rfl) yg (wu32 om))<|e_dm 7 rfl rfl rfl<|e_u 8 rfl rfl (zf 3 ty121 rfl rfl rfl)<|e_pv 9 rfl rfl (zK (z:=((mm:Nat):Int)) rfl (by rw [yg];rfl) yh (wu64 om))<|e_pv 10 rfl rfl (zwa (z:=(((z*1000000000)+((yd a).getD k 0))%((mm:Nat):Int))) rfl rfl om (remN om om))<|e_pv 11 rfl rfl (zia (j:=k) ye sz121 rfl rfl rfl om)<|e_one 12 (zId (A':=fun _=>rowA 121 (rI .u32) (some ⟨b3,0,none⟩) ((yd a).length) (os.set k (((z*1000000000)+((yd a).getD k 0)) / ((mm:Nat):Int)))) kr rfl rfl rfl (zea (j:=k) (x0:=(((z*1000000000)+((yd a).getD k 0)) / ((mm:Nat):Int))) (γ0:=()) rfl rfl (by first|omega|(rw [List.length_map];omega)|(simp only [List.length_set];omega)|(simp;done)|(simp;omega)) rfl rfl sz121 (fun _ _=>by exact zG.2 om)) (fun _ _=> ?_))
  refine zQa (zca (i:=1) rfl)<|e_one 13 (zv kr rfl rfl rfl rfl rfl sz120 rfl (.take .nil) ?_)
  refine zof kr<|zO ?_
  exact zee ((os.set k (((z*1000000000)+((yd a).getD k 0)) / ((mm:Nat):Int))),((z*1000000000+(yd a).getD k 0) / (mm:Int) :: qs),((z*1000000000+(yd a).getD k 0)%(mm:Int))) (show (os.set k (((z*1000000000)+((yd a).getD k 0)) / ((mm:Nat):Int)))=List.replicate k 0++((z*1000000000+(yd a).getD k 0) / (mm:Int) :: qs)∧Big.ShI (yd a) (mm:Int) k ((z*1000000000+(yd a).getD k 0) / (mm:Int) :: qs) ((z*1000000000+(yd a).getD k 0)%(mm:Int)) from by exact ⟨by rw [hos];exact Big.pad_set _,hS.step (yo a)⟩) (ho:=((.c (i:=2) rfl (.c (i:=2) rfl (.e (i:=0) rfl (by first|rfl|(congr 1;omega)|simp_all) (.of [0,0,0] rfl)))):PickO _ _ _)) ((.of [0,1] rfl):SelR _ _ _)
 ·
  rintro D10 ⟨os,qs,z⟩ hI
  replace hI:os=List.replicate 0 0++qs∧Big.ShI (yd a) (mm:Int) 0 qs z:=hI
  try dsimp only
  obtain ⟨hos,hS⟩:=hI
  obtain ⟨hf1,hf2⟩:=hS.fin
  have hoq:os=qs:=by simpa using hos
  have htr:yn os=yd (a / mm):=by rw [hoq];exact hf1
  have hosl:os.length=(yd a).length:=by rw [hoq,hS.len];omega
  have hzr:=hS.r1
  have hzr0:=hS.r0
  refine zO<|zd<|zg<|zqa (.c (i:=3) rfl (.c (i:=0) rfl (.c (i:=0) rfl (.c (i:=0) rfl (.c (i:=0) rfl .n)))))<|znf (OW:=[boxA b2 39 [.slice (some ⟨b3,0,none⟩) ((yd a).length) ((yd a).length)]]) (O:=[objA D10 (.deferred (some [])),boxA b4 120 [.int .u64 z],rowA 121 (rI .u32) (some ⟨b3,0,none⟩) ((yd a).length) os,boxA b1 121 [.int .u32 ((mm:Nat):Int)]]) 4 mixed kr kr<|e_uw 0 rfl rfl (zf 0 ty39 rfl rfl rfl)<|e_u 2 rfl rfl (zf 1 ty120 rfl rfl rfl)<|e_pv 3 rfl rfl (zK (z:=z) rfl (by rw [yh];rfl) yg (wu32 om))<|zbb 2 rfl (.s (.s .z))<|e_one 1 (zw rfl rfl rfl rfl (.c rfl .n) ce134 (zEb (p:=some ⟨b3,0,none⟩) (n:=(yd a).length) (cap:=(yd a).length) (l:=os) (hn:=cbb)) (.c (j:=0) rfl .n) ?_)
  rintro ⟨⟩ -
  dsimp only [aq,nq,cq]
  refine e_one 4 (zv kr rfl rfl rfl rfl rfl sz39 rfl (.take .nil) ?_)
  refine e_pv 5 rfl rfl (zb rfl)<|zof kr<|zd<|zH<|zAe 1 rfl rfl ?_
  exact zra Tryz.results160 ((some ⟨b3,0,none⟩),((yd a).length)) trivial (zBb 0 ty39 rfl rfl rfl) (zl rfl) (by rw [htr,hf2]) (ho:=(.n:PickO _ _ _)) ((.e (j:=0) rfl (by rw [htr]) .n):SelR _ _ _)
 ·
  intro _ _ h;exact h.elim
theorem zGf {p:Option Addr} {n:Nat} {cap:Nat} {l:List Int} (hn:l.length=n):Con yj 134 [.slice p n cap] [rowA 121 (rI .u32) p cap l] [] (Y:=Unit) (fun y=>True) (fun y=> .slice p ((yn l).length) cap) (fun y=>[rowA 121 (rI .u32) p cap (yn l)]) (fun y=>[]):=by
 refine zm Tryz.func134 rfl rfl rfl (fun c=> ?_)
 show RunC _ _ _ _ _ [(0,.slice p n cap)] [rowA 121 (rI .u32) p cap l] []
 refine zYf 0 rfl (fun hcl=> ?_)
 refine zg<|za<|e_p (zb rfl)<|zh<|zd<|zg<|zB<|zka (X:=Nat) (fun x:Nat=>x≤l.length∧yn (l.take x)=yn l) (fun x=>[(0,.slice p x cap),(2,.slice none 0 0)]) (fun x=>[rowA 121 (rI .u32) p cap l]) (fun x=>[]) (fun x:Nat=>x) n (show n≤l.length∧yn (l.take n)=yn l from by exact ⟨by omega,by rw [List.take_of_length_le om]⟩) ((.c rfl (.c rfl .n)):SubM _ _) (ho:=((.c (i:=0) rfl .n):PickO _ _ _)) (.n:SelR _ _ _) ?_
 rintro k hI
 replace hI:k≤l.length∧yn (l.take k)=yn l:=hI
 try dsimp only
 obtain ⟨hk,hT⟩:=hI
 refine zg<|zEa (X:=Unit) (fun x=>True) (fun x=>[(14,.bool (decide (0<k∧l.getD (k - 1) 0=0))),(0,.slice p k cap),(2,.slice none 0 0)]) (fun x=>[rowA 121 (rI .u32) p cap l]) (fun x=>[]) ?_ ?_
 ·
  refine za<|e_mv rfl<|e_p (zN ye rfl)<|e_p (zAa rfl rfl)<|zaa rfl rfl (zX rfl) (fun h1=> ?_) (fun h1=> ?_)
  ·
   refine e_mv rfl<|e_mv rfl<|e_p (zN ye rfl)<|e_p (zla (z:=(((k - 1):Nat):Int)) rfl rfl (w64 om))<|e_ru (zxd 0 (k - 1) rfl ye sz121 rfl cbo rfl rfl om)<|r_vl rfl rfl (zha 0 (k - 1) rfl ty121 rfl rfl (gD (d:=0) om) rfl) (fun _ hok2=> ?_)
   replace hok2:=zG.1 hok2
   refine e_p (zua rfl rfl)<|e_p (zo rfl rfl)<|zh ?_
   exact zga () (show True from by first|trivial|omega|simp_all) ((.e rfl (congrArg Value.bool (by have h1:0<k:=om;have h2:((k:Int) - 1).toNat=k - 1:=om;simp [h1,h2])) (.c rfl (.c rfl .n))):SubM _ _) (ho:=((.c (i:=0) rfl .n):PickO _ _ _)) (.n:SelR _ _ _)
  ·
   refine e_no<|e_no<|e_no<|e_no<|e_no<|e_no<|e_no<|e_p (zo rfl rfl)<|zh ?_
   exact zga () (show True from by first|trivial|omega|simp_all) ((.e rfl (congrArg Value.bool (by have h1:¬0<k:=om;simp [h1])) (.c rfl (.c rfl .n))):SubM _ _) (ho:=((.c (i:=0) rfl .n):PickO _ _ _)) (.n:SelR _ _ _)
 ·
  rintro ⟨⟩ -
  try dsimp only
  refine zC rfl (fun hc=> ?_) (fun hc=> ?_)
  ·
   refine zA<|zd<|zB<|za<|e_mv rfl<|e_mv rfl<|e_p (zN ye rfl)<|e_p (zla (z:=(((k - 1):Nat):Int)) rfl rfl (w64 om))<|e_p (zwb (hi:=(k - 1)) ye sz121 rfl (.s rfl) (.inr ⟨_,rfl⟩) om)<|e_p (zb rfl)<|zh<|zO<|zda (k - 1) (show (k - 1)≤l.length∧yn (l.take (k - 1))=yn l from by exact ⟨by omega,by rw [← hT,Big.trim_go l hc.1 hk hc.2]⟩) (by show k - 1<k;omega) ((.e rfl (by first|rfl|(congr 1;omega)|simp_all) (.c rfl .n)):SubM _ _) (ho:=((.c (i:=0) rfl .n):PickO _ _ _)) (.n:SelR _ _ _)
  ·
   refine zja<|zj<|zj<|zt<|zd<|zg<|za<|e_mv rfl<|e_p (zb rfl)<|zh<|zd<|zH ?_
   have hfin:l.take k=yn l:=by rw [← hT];exact (Big.trim_stop l hk hc).symm
   have hlk:(l.take k).length=k:=by rw [List.length_take];omega
   refine p_mem (fun w mm=>mm.rowTake 0 rfl k) ?_
   dsimp only [List.set]
   have e3:l.take k=yn l:=by exact hfin
   rw [e3]
   exact zy Tryz.results134 () trivial (zl rfl) (by rw [← hfin,hlk]) (ho:=((.c (i:=0) rfl .n):PickO _ _ _)) (.n:SelR _ _ _)
theorem zVe {a:Nat} {b:Nat} {p1:Option Addr} {c1:Nat} {p2:Option Addr} {c2:Nat} (hb1:(yd a).length≤1099511627776) (hb2:(yd b).length≤1099511627776):Con yj 118 [.slice p1 ((yd a).length) c1,.slice p2 ((yd b).length) c2] [] [slF (rI .u32) p1 c1 (yd a),slF (rI .u32) p2 c2 (yd b)] (Y:=(Option Addr)×Nat) (fun y=>True) (fun y=> .slice (y.1) ((yd (a*b)).length) (y.2)) (fun y=>[rowA 121 (rI .u32) (y.1) (y.2) (yd (a*b))]) (fun y=>[]):=by
 refine zm Tryz.func118 rfl rfl rfl (fun c=> ?_)
 show RunC _ _ _ _ _ [(0,.slice p1 ((yd a).length) c1),(1,.slice p2 ((yd b).length) c2)] [] [slF (rI .u32) p1 c1 (yd a),slF (rI .u32) p2 c2 (yd b)]
 refine zba 0 rfl (fun hL0=> ?_)
 refine zba 1 rfl (fun hL1=> ?_)
 have hoa:=yo a
 have hob:=yo b
 refine zg<|za<|e_p (zb rfl)<|zh<|zd<|zg<|za<|e_mv rfl<|e_p (zN ye rfl)<|e_mv rfl<|e_p (zN ye rfl)<|e_p (zI (z:=(((((yd a).length)+((yd b).length)):Nat):Int)) rfl rfl (w64 om))<|zFa rfl rfl (zqb (r:=rI .u32) (k:=(((yd a).length)+((yd b).length))) (x0:=0) (γ0:=()) ye inf121 rfl rfl rfl rfl om om rfl (fun g _=>by exact zG.2 dd) dd) (fun b1 _=> ?_)
 refine e_p (zb rfl)<|zh<|zd<|zg<|zg<|za<|e_mv rfl<|e_p (zN ye rfl)<|e_mv rfl<|zh<|zd<|zB<|zka (X:=Nat×(List Int)) (fun x:Nat×(List Int)=>x.1≤(yd a).length∧x.2.length=(yd a).length+(yd b).length∧yr x.2∧(∀k,x.1+(yd b).length≤k→x.2.getD k 0=0)∧yf x.2=yf ((yd a).take x.1)*yf (yd b)) (fun x=>[(20,ya yb ((x.1:Nat):Int)),(19,ya yb (((yd a).length:Nat):Int)),(18,.slice p1 ((yd a).length) c1),(5,.slice (some ⟨b1,0,none⟩) (((yd a).length)+((yd b).length)) (((yd a).length)+((yd b).length))),(4,.slice none 0 0),(1,.slice p2 ((yd b).length) c2)]) (fun x=>[rowA 121 (rI .u32) (some ⟨b1,0,none⟩) (((yd a).length)+((yd b).length)) (x.2)]) (fun x=>[slF (rI .u32) p1 c1 (yd a),slF (rI .u32) p2 c2 (yd b)]) (fun x:Nat×(List Int)=>(yd a).length - x.1) (0,List.replicate ((yd a).length+(yd b).length) 0) (show 0≤(yd a).length∧(List.replicate ((yd a).length+(yd b).length) 0).length=(yd a).length+(yd b).length∧yr (List.replicate ((yd a).length+(yd b).length) 0)∧(∀k,0+(yd b).length≤k→(List.replicate ((yd a).length+(yd b).length) 0).getD k 0=0)∧yf (List.replicate ((yd a).length+(yd b).length) 0)=yf ((yd a).take 0)*yf (yd b) from by exact ⟨by omega,by simp,Big.okL_zeros _,fun k _=>Big.getD_zeros _ k,by simp [Big.valL_zeros,yf]⟩) ((.e rfl (by first|rfl|(congr 1;omega)|simp_all) (.of rfl)):SubM _ _) (ho:=((.e (i:=0) rfl (by first|rfl|(congr 1;omega)|simp_all) .n):PickO _ _ _)) ((.of [0,1] rfl):SelR _ _ _) ?_
 rintro ⟨i,os⟩ hI
 replace hI:i≤(yd a).length∧os.length=(yd a).length+(yd b).length∧yr os∧(∀k,i+(yd b).length≤k→os.getD k 0=0)∧yf os=yf ((yd a).take i)*yf (yd b):=hI
 try dsimp only
 obtain ⟨hi,hol,hok,hz,hv⟩:=hI
 have hg1:=ym hoa i
 refine zg<|za<|e_p (zY rfl rfl)<|zh<|zd<|zg<|zC rfl (fun h2=> ?_) (fun h2=> ?_)
 ·
  refine zA<|zd<|zg<|zB<|zg<|za<|e_mv rfl<|zP (x0:=((yd a).getD i 0)) 0 i rfl ye sz121 rfl rfl rfl (by first|rfl|assumption|(simp;omega)|omega) rfl rfl (gD (d:=0) om) (fun b3 o4 hok5=> ?_)
  replace hok5:=zG.1 hok5
  refine e_ru (zx (j:=0) 0 ty121 rfl rfl rfl rfl)<|e_p (zb rfl)<|e_p (zb rfl)<|zh<|zd<|zg<|za<|e_p (zb rfl)<|zh<|zd<|zg<|zg<|za<|e_mv rfl<|e_p (zN ye rfl)<|e_mv rfl<|zh<|zd<|zB<|zka (X:=Nat×(List Int)×Int) (fun x:Nat×(List Int)×Int=>x.1≤(yd b).length∧x.2.1.length=(yd a).length+(yd b).length∧yr x.2.1∧0≤x.2.2∧x.2.2<1000000000∧(∀k,i+(yd b).length≤k→x.2.1.getD k 0=0)∧yf x.2.1+yx (i+x.1)*x.2.2=yf ((yd a).take i)*yf (yd b)+yx i*(yd a).getD i 0*yf ((yd b).take x.1)) (fun x=>[(8,.int .u64 (x.2.2)),(27,ya yb ((x.1:Nat):Int)),(26,ya yb (((yd b).length:Nat):Int)),(25,.slice p2 ((yd b).length) c2),(7,.int .u32 ((yd a).getD i 0)),(6,ya yb ((i:Nat):Int)),(20,ya yb ((i:Nat):Int)),(19,ya yb (((yd a).length:Nat):Int)),(18,.slice p1 ((yd a).length) c1),(5,.slice (some ⟨b1,0,none⟩) (((yd a).length)+((yd b).length)) (((yd a).length)+((yd b).length))),(4,.slice none 0 0),(1,.slice p2 ((yd b).length) c2)]) (fun x=>[rowA 121 (rI .u32) (some ⟨b1,0,none⟩) (((yd a).length)+((yd b).length)) (x.2.1)]) (fun x=>[atF b3 o4 [.int .u32 ((yd a).getD i 0)],slF (rI .u32) p1 c1 (yd a),slF (rI .u32) p2 c2 (yd b)]) (fun x:Nat×(List Int)×Int=>(yd b).length - x.1) (0,os,0) (show 0≤(yd b).length∧os.length=(yd a).length+(yd b).length∧yr os∧0≤0∧0<1000000000∧(∀k,i+(yd b).length≤k→os.getD k 0=0)∧yf os+yx (i+0)*0=yf ((yd a).take i)*yf (yd b)+yx i*(yd a).getD i 0*yf ((yd b).take 0) from by exact ⟨by omega,hol,hok,by decide,by decide,hz,by rw [hv];simp [yf]⟩) ((.c rfl (.e rfl (by first|rfl|(congr 1;omega)|simp_all) (.of rfl))):SubM _ _) (ho:=((.c (i:=0) rfl .n):PickO _ _ _)) ((.of [0,1,2] rfl):SelR _ _ _) ?_
  rintro ⟨j,os2,cy⟩ hJ
  replace hJ:j≤(yd b).length∧os2.length=(yd a).length+(yd b).length∧yr os2∧0≤cy∧cy<1000000000∧(∀k,i+(yd b).length≤k→os2.getD k 0=0)∧yf os2+yx (i+j)*cy=yf ((yd a).take i)*yf (yd b)+yx i*(yd a).getD i 0*yf ((yd b).take j):=hJ
  try dsimp only
  obtain ⟨hj,hol2,hok2,hcy0,hcy1,hz2,hv2⟩:=hJ
  have hg2:=ym hob j
  have hg3:=ym hok2 (i+j)
  have hpq:=Big.mul_lim hg1 hg2
  refine zg<|za<|e_p (zY rfl rfl)<|zh<|zd<|zg<|zC rfl (fun h6=> ?_) (fun h6=> ?_)
  ·
   refine zA<|zd<|zg<|zB<|zg<|za<|e_mv rfl<|zP (x0:=((yd b).getD j 0)) 2 j rfl ye sz121 rfl rfl rfl (by first|rfl|assumption|(simp;omega)|omega) rfl rfl (gD (d:=0) om) (fun b7 o8 hok9=> ?_)
   replace hok9:=zG.1 hok9
   refine e_ru (zx (j:=0) 0 ty121 rfl rfl rfl rfl)<|e_p (zb rfl)<|e_p (zb rfl)<|zh<|zd<|zg<|za<|e_mv rfl<|e_mv rfl<|e_mv rfl<|e_p (zI (z:=(((i+j):Nat):Int)) rfl rfl (w64 om))<|e_p (zia (j:=(i+j)) ye sz121 rfl rfl rfl om)<|r_vl rfl rfl (zha 0 (i+j) rfl ty121 rfl rfl (gD (d:=0) om) rfl) (fun _ hok10=> ?_)
   replace hok10:=zG.1 hok10
   refine e_p (zK (z:=(os2.getD (i+j) 0)) rfl (by rw [yg];rfl) yh (wu64 om))<|e_mv rfl<|e_p (zK (z:=((yd a).getD i 0)) rfl (by rw [yg];rfl) yh (wu64 om))<|e_mv rfl<|e_p (zK (z:=((yd b).getD j 0)) rfl (by rw [yg];rfl) yh (wu64 om))<|e_p (zya (z:=(((yd a).getD i 0)*((yd b).getD j 0))) rfl rfl (wu64 om))<|e_p (zI (z:=((os2.getD (i+j) 0)+(((yd a).getD i 0)*((yd b).getD j 0)))) rfl rfl (wu64 om))<|e_mv rfl<|e_p (zI (z:=(((os2.getD (i+j) 0)+(((yd a).getD i 0)*((yd b).getD j 0)))+cy)) rfl rfl (wu64 om))<|e_p (zb rfl)<|zh<|zd<|za<|e_mv rfl<|e_mv rfl<|e_mv rfl<|e_p (zI (z:=(((i+j):Nat):Int)) rfl rfl (w64 om))<|e_mv rfl<|e_p (zwa (z:=((((os2.getD (i+j) 0)+(((yd a).getD i 0)*((yd b).getD j 0)))+cy)%1000000000)) rfl rfl om (remN om om))<|e_p (zK (z:=((((os2.getD (i+j) 0)+(((yd a).getD i 0)*((yd b).getD j 0)))+cy)%1000000000)) rfl (by rw [yh];rfl) yg (wu32 om))<|e_mv rfl<|e_p (zhb (z:=((((os2.getD (i+j) 0)+(((yd a).getD i 0)*((yd b).getD j 0)))+cy) / 1000000000)) rfl rfl om (by rw [quoN (z:=((((os2.getD (i+j) 0)+(((yd a).getD i 0)*((yd b).getD j 0)))+cy) / 1000000000)) om om];exact wu64 om))<|e_p (zia (j:=(i+j)) ye sz121 rfl rfl rfl om)<|zIa 0 rfl rfl rfl (zea (j:=(i+j)) (x0:=((((os2.getD (i+j) 0)+(((yd a).getD i 0)*((yd b).getD j 0)))+cy)%1000000000)) (γ0:=()) rfl rfl (by first|omega|(rw [List.length_map];omega)|(simp only [List.length_set];omega)|(simp;done)|(simp;omega)) rfl rfl sz121 (fun _ _=>by exact zG.2 om)) (fun _=> .z) (fun _ _=> ?_)
   refine e_p (zb rfl)<|zh<|zO<|zd<|za<|e_p (zI (z:=(((j+1):Nat):Int)) rfl rfl (w64 om))<|e_mv rfl<|zh<|zda ((j+1),os2.set (i+j) ((os2.getD (i+j) 0+(yd a).getD i 0*(yd b).getD j 0+cy)%1000000000),(os2.getD (i+j) 0+(yd a).getD i 0*(yd b).getD j 0+cy) / 1000000000) (show (j+1)≤(yd b).length∧(os2.set (i+j) ((os2.getD (i+j) 0+(yd a).getD i 0*(yd b).getD j 0+cy)%1000000000)).length=(yd a).length+(yd b).length∧yr (os2.set (i+j) ((os2.getD (i+j) 0+(yd a).getD i 0*(yd b).getD j 0+cy)%1000000000))∧0≤((os2.getD (i+j) 0+(yd a).getD i 0*(yd b).getD j 0+cy) / 1000000000)∧((os2.getD (i+j) 0+(yd a).getD i 0*(yd b).getD j 0+cy) / 1000000000)<1000000000∧(∀k,i+(yd b).length≤k→(os2.set (i+j) ((os2.getD (i+j) 0+(yd a).getD i 0*(yd b).getD j 0+cy)%1000000000)).getD k 0=0)∧yf (os2.set (i+j) ((os2.getD (i+j) 0+(yd a).getD i 0*(yd b).getD j 0+cy)%1000000000))+yx (i+(j+1))*((os2.getD (i+j) 0+(yd a).getD i 0*(yd b).getD j 0+cy) / 1000000000)=yf ((yd a).take i)*yf (yd b)+yx i*(yd a).getD i 0*yf ((yd b).take (j+1)) from by exact ⟨by omega,by simpa using hol2,yJ hok2 om om,by omega,by omega,fun k hk=>by rw [yD om];exact hz2 k om,Big.mul_step hv2 om om⟩) (by show (yd b).length - (j+1)<(yd b).length - j;omega) ((.e rfl (by first|rfl|(congr 1;omega)|simp_all) (.of rfl)):SubM _ _) (ho:=((.e (i:=0) rfl (by first|rfl|(congr 1;omega)|simp_all) .n):PickO _ _ _)) ((.of [1,2,3] rfl):SelR _ _ _)
  ·
   have hjb:j=(yd b).length:=by omega
   subst hjb
   have hv3:=hv2
   refine zja<|zj<|zj<|zt<|zd<|za<|e_mv rfl<|e_mv rfl<|e_mv rfl<|e_p (zN ye rfl)<|e_p (zI (z:=(((i+((yd b).length)):Nat):Int)) rfl rfl (w64 om))<|e_mv rfl<|e_p (zK (z:=cy) rfl (by rw [yh];rfl) yg (wu32 om))<|e_p (zia (j:=(i+((yd b).length))) ye sz121 rfl rfl rfl om)<|zIa 0 rfl rfl rfl (zea (j:=(i+((yd b).length))) (x0:=cy) (γ0:=()) rfl rfl (by first|omega|(rw [List.length_map];omega)|(simp only [List.length_set];omega)|(simp;done)|(simp;omega)) rfl rfl sz121 (fun _ _=>by exact zG.2 om)) (fun _=> .z) (fun _ _=> ?_)
   refine zh<|zO<|zd<|za<|e_p (zI (z:=(((i+1):Nat):Int)) rfl rfl (w64 om))<|e_mv rfl<|zh<|zda ((i+1),os2.set (i+(yd b).length) cy) (show (i+1)≤(yd a).length∧(os2.set (i+(yd b).length) cy).length=(yd a).length+(yd b).length∧yr (os2.set (i+(yd b).length) cy)∧(∀k,(i+1)+(yd b).length≤k→(os2.set (i+(yd b).length) cy).getD k 0=0)∧yf (os2.set (i+(yd b).length) cy)=yf ((yd a).take (i+1))*yf (yd b) from by exact ⟨by omega,by simpa using hol2,yJ hok2 om om,fun k hk=>by rw [yD om];exact hz2 k om,Big.mul_round hv3 om (hz2 _ (Nat.le_refl _))⟩) (by show (yd a).length - (i+1)<(yd a).length - i;omega) ((.of rfl):SubM _ _) (ho:=((.e (i:=0) rfl (by first|rfl|(congr 1;omega)|simp_all) .n):PickO _ _ _)) ((.of [1,2] rfl):SelR _ _ _)
 ·
  have hia:i=(yd a).length:=by omega
  have hfin:yn os=yd (a*b):=Big.trimL_of hok (by rw [hv,hia,List.take_length,yw,yw,Int.natCast_mul])
  refine zja<|zj<|zj<|zt<|zd<|zg<|za<|e_mv rfl<|zrb (A:=[rowA 121 (rI .u32) (some ⟨b1,0,none⟩) (((yd a).length)+((yd b).length)) os]) (F:=[]) (first:=[]) (cap:=[]) rfl rfl rfl (.c rfl .n) ce134 (zGf (p:=some ⟨b1,0,none⟩) (n:=(((yd a).length)+((yd b).length))) (cap:=(((yd a).length)+((yd b).length))) (l:=os) (hn:=cbb)) (.n) ?_
  rintro ⟨⟩ -
  dsimp only [aq,nq,cq]
  refine e_p (zb rfl)<|zh<|zd<|zH ?_
  have e11:yn os=yd (a*b):=by exact hfin
  rw [e11]
  exact zy Tryz.results118 ((some ⟨b1,0,none⟩),(((yd a).length)+((yd b).length))) trivial (zl rfl) rfl (ho:=((.c (i:=0) rfl .n):PickO _ _ _)) (.n:SelR _ _ _)
end Go.Proofs.YtjcpbhlijoigfaaGreat.Sp
namespace Go.Proofs.YtjcpbhlijoigfaaGreat.Sp
open Go
set_option linter.unusedVariables false
set_option maxRecDepth 100000
set_option maxHeartbeats 8000000
theorem zjg {a:Nat} {b:Nat} {p1:Option Addr} {c1:Nat} {p2:Option Addr} {c2:Nat} (hb1:(yd a).length≤1099511627776) (hb2:(yd b).length≤1099511627776) (hb3:2≤(yd b).length) (hab:b≤a):Con yj 161 [.slice p1 ((yd a).length) c1,.slice p2 ((yd b).length) c2] [] [slF (rI .u32) p1 c1 (yd a),slF (rI .u32) p2 c2 (yd b)] (Y:=(Option Addr)×Nat×(Option Addr)×Nat) (fun y=>True) (fun y=> .tuple #[.slice (y.1) ((yd (a / b)).length) (y.2.1),.slice (y.2.2.1) ((yd (a%b)).length) (y.2.2.2)]) (fun y=>[]) (fun y=>[slF (rI .u32) (y.1) (y.2.1) (yd (a / b)),slF (rI .u32) (y.2.2.1) (y.2.2.2) (yd (a%b))]):=by
 refine zm Tryz.func161 rfl rfl rfl (fun c=> ?_)
 show RunC _ _ _ _ _ [(0,.slice p1 ((yd a).length) c1),(1,.slice p2 ((yd b).length) c2)] [] [slF (rI .u32) p1 c1 (yd a),slF (rI .u32) p2 c2 (yd b)]
 refine zba 0 rfl (fun hL0=> ?_)
 refine zba 1 rfl (fun hL1=> ?_)
 have hob:=yo b
 have htop:=ym hob ((yd b).length - 1)
 have hdt:=Big.digs_top (b:=b) (n:=(yd b).length - 1) om
 have hab2:=yH hab
 have hq1:0≤1000000000 / ((yd b).getD ((yd b).length - 1) 0+1):=Int.ediv_nonneg om om
 have hq2:1000000000 / ((yd b).getD ((yd b).length - 1) 0+1)≤500000000:=Int.ediv_le_of_le_mul om om
 refine zg<|za<|e_p (zb rfl)<|e_p (zb rfl)<|zh<|zd<|zg<|za<|e_mv rfl<|e_mv rfl<|e_p (zN ye rfl)<|e_p (zla (z:=((((yd b).length - 1):Nat):Int)) rfl rfl (w64 om))<|zP (x0:=((yd b).getD ((yd b).length - 1) 0)) 1 ((yd b).length - 1) rfl ye sz121 rfl rfl rfl (by first|rfl|assumption|(simp;done)|omega) rfl rfl (gD (d:=0) om) (fun b1 o2 hok3=> ?_)
 replace hok3:=zG.1 hok3
 refine e_ru (zx (j:=0) 0 ty121 rfl rfl rfl rfl)<|e_p (zK (z:=((yd b).getD ((yd b).length - 1) 0)) rfl (by rw [yg];rfl) yh (wu64 om))<|e_p (zI (z:=(((yd b).getD ((yd b).length - 1) 0)+1)) rfl rfl (wu64 om))<|e_p (zhb (z:=(1000000000 / (((yd b).getD ((yd b).length - 1) 0)+1))) rfl rfl om (by rw [quoN (z:=(1000000000 / (((yd b).getD ((yd b).length - 1) 0)+1))) om om];exact wu64 om))<|e_p (zK (z:=(1000000000 / (((yd b).getD ((yd b).length - 1) 0)+1))) rfl (by rw [yh];rfl) yg (wu32 om))<|e_p (zb rfl)<|zh<|zd<|zg ?_
 obtain ⟨s,hs⟩:∃s:Nat,s=(1000000000 / ((yd b).getD ((yd b).length - 1) 0+1)).toNat:=⟨_,rfl⟩
 obtain ⟨hs1,hs2,hs3⟩:=Big.scale_len (n:=(yd b).length - 1) om hs
 have hsd:=Big.digs_one hs1 (by omega:s<1000000000)
 have hsl:(yd s).length=1:=by rw [hsd];rfl
 have e4:((1000000000 / (((yd b).getD ((yd b).length - 1) 0)+1)):Int)=((s:Nat):Int):=by omega
 rw [e4]
 refine za<|e_mv rfl<|e_mv rfl<|zFa rfl rfl (zV (enc:=fun z:Int=>[.int .u32 z]) (ok:=InK .u32) (h1:=fun _=>rfl) (h2:=fun _=>rfl) (k:=1) ye inf121 rfl dd dd dd (.c (x:=((s:Nat):Int)) rfl rfl (fun _ _=>by exact zG.2 om) .n)) (fun b5 _=> ?_)
 refine zma 0 rfl .z ?_
 have e6:[((s:Nat):Int)]=yd s:=by exact hsd.symm
 rw [e6]
 have e7:(.slice (some ⟨b5,0,none⟩) 1 1:Value)= .slice (some ⟨b5,0,none⟩) ((yd s).length) 1:=by rw [hsl]
 rw [e7]
 refine zE rfl rfl (.c rfl (.c rfl .n)) ce118 (zVe (a:=a) (b:=s) (p1:=p1) (c1:=c1) (p2:=some ⟨b5,0,none⟩) (c2:=1) (hb1:=ass) (hb2:=cbb)) (.c (j:=2) rfl (.c (j:=0) rfl .n)) ?_
 rintro ⟨p38,c39⟩ -
 dsimp only [aq,nq,cq]
 refine e_p (zb rfl)<|zh<|zd<|zg<|za<|e_mv rfl<|e_mv rfl<|zFa rfl rfl (zV (enc:=fun z:Int=>[.int .u32 z]) (ok:=InK .u32) (h1:=fun _=>rfl) (h2:=fun _=>rfl) (k:=1) ye inf121 rfl dd dd dd (.c (x:=((s:Nat):Int)) rfl rfl (fun _ _=>by exact zG.2 om) .n)) (fun b10 _=> ?_)
 refine zma 0 rfl .z ?_
 have e11:[((s:Nat):Int)]=yd s:=by exact hsd.symm
 rw [e11]
 have e12:(.slice (some ⟨b10,0,none⟩) 1 1:Value)= .slice (some ⟨b10,0,none⟩) ((yd s).length) 1:=by rw [hsl]
 rw [e12]
 refine zE rfl rfl (.c rfl (.c rfl .n)) ce118 (zRd (a:=b) (b:=s) (p1:=p2) (c1:=c2) (p2:=some ⟨b10,0,none⟩) (c2:=1) (hb1:=ass) (hb2:=cbb)) (.c (j:=4) rfl (.c (j:=0) rfl .n)) ?_
 rintro ⟨p313,c314⟩ -
 dsimp only [aq,nq,cq]
 refine e_p (zb rfl)<|zh<|zd<|zg ?_
 obtain ⟨A,hA⟩:∃z,z=a*s:=⟨_,rfl⟩
 rw [← hA]
 obtain ⟨V,hV⟩:∃z,z=b*s:=⟨_,rfl⟩
 rw [← hV]
 have hAl:(yd a).length≤(yd A).length:=by rw [hA];exact Big.len_mul_ge hs1
 have hAl2:(yd A).length≤(yd a).length+1:=by have h8:=Big.len_mul_le a s;rw [hsl] at h8;rw [hA];exact h8
 obtain ⟨m,hm⟩:∃z,(yd V).length=z+2:=⟨(yd b).length - 2,by rw [hV,hs3];omega⟩
 have hmb:(yd b).length=m+2:=by rw [hV,hs3] at hm;omega
 have e15:(yd V).length=(m+2):=by exact hm
 rw [e15]
 refine za<|e_mv rfl<|e_p (zN ye rfl)<|e_p (zb rfl)<|zh<|zd<|zg<|za<|e_mv rfl<|zFa rfl rfl (zV (enc:=fun z:Int=>[.int .u32 z]) (ok:=InK .u32) (h1:=fun _=>rfl) (h2:=fun _=>rfl) (k:=1) ye inf121 rfl dd dd dd (.c (x:=0) rfl rfl (fun _ _=>by exact zG.2 om) .n)) (fun b16 _=> ?_)
 refine zma 0 rfl .z<|zIa 2 rfl rfl rfl (zsa 0 rfl ye inf121 dd rfl rfl (by first|rfl|assumption|(simp;done)|omega) rfl (by first|rfl|assumption|(simp;done)|omega) om om) (fun _=>(.s (.s .z))) ?_
 rintro ⟨p17,c18⟩ -
 dsimp only [aq,nq,cq]
 refine e_p (zb rfl)<|zh<|zd<|zg<|zg<|za<|e_mv rfl<|e_p (zN ye rfl)<|e_mv rfl<|e_p (zN ye rfl)<|e_p (zVa rfl rfl)<|zh<|zd<|zC rfl (fun h19=> ?_) (fun h19=> ?_)
 ·
  exact absurd ‹_› om
 ·
  refine zA<|zd<|zg ?_
  obtain ⟨M,hM⟩:∃z,z=((yd A).length)+1:=⟨_,rfl⟩
  rw [← hM]
  refine za<|e_mv rfl<|e_p (zN ye rfl)<|e_mv rfl<|e_p (zla (z:=(((M - (m+2)):Nat):Int)) rfl rfl (w64 om))<|zFa rfl rfl (zqb (r:=rI .u32) (k:=(M - (m+2))) (x0:=0) (γ0:=()) ye inf121 rfl rfl rfl rfl om om rfl (fun g _=>by exact zG.2 dd) dd) (fun b20 _=> ?_)
  refine e_p (zb rfl)<|zh<|zd<|zg<|zg ?_
  have hMl:m+3≤M:=by omega
  have hLg:yQ M (m+2) ((A:Nat):Int) ((V:Nat):Int) (M - (m+2)) (yd A++[0]) []:=yQ.start (yF (yo A) dd dd) (by simp [hM]) (by rw [Big.valL_snoc,yw];simp) hm om (by rw [Big.valL_snoc,yw,hM,Nat.add_sub_cancel];simpa using Big.digs_lt A) om
  refine za<|e_mv rfl<|e_p (zN ye rfl)<|e_mv rfl<|e_p (zla (z:=(((M:Nat):Int) - (((m+2):Nat):Int))) rfl rfl (w64 om))<|e_p (zla (z:=((((M:Nat):Int) - (((m+2):Nat):Int)) - 1)) rfl rfl (w64 om))<|e_p (zb rfl)<|zh<|zd<|zB<|zka (X:=Nat×(List Int)×(List Int)) (fun x:Nat×(List Int)×(List Int)=>yQ M (m+2) ((A:Nat):Int) ((V:Nat):Int) x.1 x.2.1 x.2.2) (fun x=>[(10,ya yb (((x.1:Nat):Int) - 1)),(4,.slice (some ⟨b20,0,none⟩) (M - (m+2)) (M - (m+2))),(7,.slice p17 M c18),(9,ya yb (((m+2):Nat):Int)),(8,.slice p313 (m+2) c314),(6,.int .u32 ((s:Nat):Int)),(5,.slice none 0 0)]) (fun x=>[rowA 121 (rI .u32) (some ⟨b20,0,none⟩) (M - (m+2)) (List.replicate x.1 0++x.2.2),rowA 121 (rI .u32) p17 c18 (x.2.1)]) (fun x=>[slF (rI .u32) (some ⟨b16,0,none⟩) 1 ([0]),slF (rI .u32) p313 c314 (yd V),slF (rI .u32) (some ⟨b10,0,none⟩) 1 (yd s),slF (rI .u32) (some ⟨b5,0,none⟩) 1 (yd s),atF b1 o2 [.int .u32 ((yd b).getD ((yd b).length - 1) 0)],slF (rI .u32) p1 c1 (yd a),slF (rI .u32) p2 c2 (yd b)]) (fun x:Nat×(List Int)×(List Int)=>x.1) ((M - (m+2)),(yd A++[0]),([]:List Int)) (show yQ M (m+2) ((A:Nat):Int) ((V:Nat):Int) (M - (m+2)) (yd A++[0]) ([]:List Int) from by exact hLg) ((.e rfl (congrArg (Value.int .i64) om) (.of rfl)):SubM _ _) (ho:=((.e (i:=0) rfl (by simp) (.e (i:=2) rfl (by simp) .n)):PickO _ _ _)) ((.of [0,1,2,3,4,5,6] rfl):SelR _ _ _) ?_
  rintro ⟨jj,u,qs⟩ hI
  replace hI:yQ M (m+2) ((A:Nat):Int) ((V:Nat):Int) jj u qs:=hI
  try dsimp only
  refine zg<|zg<|za<|e_mv rfl<|e_p (zJa rfl rfl)<|zh<|zd<|zC rfl (fun hj=> ?_) (fun hj=> ?_)
  ·
   obtain ⟨j,rfl⟩:∃j,jj=j+1:=⟨jj - 1,by omega⟩
   have e21:(((((j+1):Nat):Int) - 1):Int)=((j:Nat):Int):=by omega
   rw [e21]
   have hjM:=hI.jle
   have hul:=hI.ul
   have hT:=hI.tp hm
   have hu2:=hT.a2
   have hu1:=hT.a1
   have hu0:=hT.a0
   have hvt1:=hT.vt1
   have hvt2:=hT.vt2
   have hvs0:=hT.vs0
   have hvs1:=hT.vs1
   have hgst:=hT.start
   have hgl0:=Big.Gs.le hT hgst
   have hg00:=hgst.g0
   have hg01:=hgst.r0
   have hrlt:=Int.emod_lt_of_pos ((u.getD (j+(m+2)) 0)*1000000000+(u.getD (j+(m+1)) 0)) (show 0<((yd V).getD (m+1) 0) by omega)
   refine zA<|zd<|zg<|zB<|zg<|zW (OW:=[]) (O:=[rowA 121 (rI .u32) (some ⟨b20,0,none⟩) (M - (m+2)) (List.replicate (j+1) 0++qs),rowA 121 (rI .u32) p17 c18 u]) 100000 mixed (.then (.block (.then (.then (.block (.then .ret)))))) kr<|e_dm 0 rfl rfl rfl<|e_dm 1 rfl rfl rfl<|e_dm 2 rfl rfl rfl<|e_pv 3 rfl rfl (zI (z:=(((j+(m+2)):Nat):Int)) rfl rfl (w64 om))<|e_dm 7 rfl rfl rfl<|e_dm 8 rfl rfl rfl<|e_dm 9 rfl rfl rfl<|e_pv 10 rfl rfl (zI (z:=(((j+(m+2)):Nat):Int)) rfl rfl (w64 om))<|e_pv 11 rfl rfl (zla (z:=(((j+(m+1)):Nat):Int)) rfl rfl (w64 om))<|e_u 12 rfl rfl (zoa 1 (j+(m+1)) rfl ye sz121 rfl (by first|rfl|assumption|(simp;done)|omega) rfl rfl om)<|d_vl 13 rfl rfl kr kr rfl rfl (zha 1 (j+(m+1)) rfl ty121 rfl rfl (gD (d:=0) om) rfl) (fun _ hok22=> ?_)
   replace hok22:=zG.1 hok22
   refine e_pv 14 rfl rfl (zK (z:=(u.getD (j+(m+1)) 0)) rfl (by rw [yg];rfl) yh (wu64 om))<|e_one 4 (zZf 1 rfl rfl rfl rfl rfl (.c rfl (.c rfl .n)) ce147 (zCe (p:=p17) (n:=M) (cap:=c18) (l:=u) (i:=(j+(m+2))) (hn:=cbb) (hi:=cbb)) (.c (j:=0) rfl .n) ?_)
   refine e_pv 5 rfl rfl (zK (z:=u.getD (j+(m+2)) 0) rfl (by rw [yg];rfl) yh (wu64 om))<|e_pv 6 rfl rfl (zya (z:=(u.getD (j+(m+2)) 0*1000000000)) rfl rfl (wu64 om))<|e_pv 15 rfl rfl (zI (z:=((u.getD (j+(m+2)) 0*1000000000)+(u.getD (j+(m+1)) 0))) rfl rfl (wu64 om))<|e_pv 16 rfl rfl (zb rfl)<|zT kr<|zd<|zg<|zW (OW:=[]) (O:=[rowA 121 (rI .u32) (some ⟨b20,0,none⟩) (M - (m+2)) (List.replicate (j+1) 0++qs),rowA 121 (rI .u32) p17 c18 u]) 100000 mixed (.then (.block (.then (.then (.block (.then .ret)))))) kr<|e_dm 0 rfl rfl rfl<|e_dm 1 rfl rfl rfl<|e_dm 2 rfl rfl rfl<|e_pv 3 rfl rfl (zla (z:=(((m+1):Nat):Int)) rfl rfl (w64 om))<|zZ (x0:=((yd V).getD (m+1) 0)) 4 rfl rfl kr kr 1 (m+1) rfl ye sz121 rfl rfl rfl (by first|rfl|assumption|(simp;done)|omega) rfl rfl (gD (d:=0) om) (fun b23 o24 hok25=> ?_)
   replace hok25:=zG.1 hok25
   refine e_u 5 rfl rfl (zx (j:=0) 0 ty121 rfl rfl rfl rfl)<|e_pv 6 rfl rfl (zK (z:=((yd V).getD (m+1) 0)) rfl (by rw [yg];rfl) yh (wu64 om))<|e_pv 7 rfl rfl (zhb (z:=(((u.getD (j+(m+2)) 0*1000000000)+(u.getD (j+(m+1)) 0)) / ((yd V).getD (m+1) 0))) rfl rfl om (by rw [quoN (z:=(((u.getD (j+(m+2)) 0*1000000000)+(u.getD (j+(m+1)) 0)) / ((yd V).getD (m+1) 0))) om om];exact wu64 om))<|e_dm 8 rfl rfl rfl<|e_dm 9 rfl rfl rfl<|e_dm 10 rfl rfl rfl<|e_pv 11 rfl rfl (zla (z:=(((m+1):Nat):Int)) rfl rfl (w64 om))<|zZ (x0:=((yd V).getD (m+1) 0)) 12 rfl rfl kr kr 2 (m+1) rfl ye sz121 rfl rfl rfl (by first|rfl|assumption|(simp;done)|omega) rfl rfl (gD (d:=0) om) (fun b26 o27 hok28=> ?_)
   replace hok28:=zG.1 hok28
   refine e_u 13 rfl rfl (zx (j:=0) 0 ty121 rfl rfl rfl rfl)<|e_pv 14 rfl rfl (zK (z:=((yd V).getD (m+1) 0)) rfl (by rw [yg];rfl) yh (wu64 om))<|e_pv 15 rfl rfl (zwa (z:=(((u.getD (j+(m+2)) 0*1000000000)+(u.getD (j+(m+1)) 0))%((yd V).getD (m+1) 0))) rfl rfl om (remN om om))<|e_pv 16 rfl rfl (zb rfl)<|e_pv 17 rfl rfl (zb rfl)<|zT kr<|zd<|zEa (X:=Int) (fun x=>(0≤x∧x<1000000000)∧(yf (u.drop j))<(x+1)*(V:Int)∧x*(V:Int)<(yf (u.drop j))+(V:Int)) (fun x=>[(12,.int .u64 x),(10,ya yb ((j:Nat):Int)),(4,.slice (some ⟨b20,0,none⟩) (M - (m+2)) (M - (m+2))),(7,.slice p17 M c18),(9,ya yb (((m+2):Nat):Int)),(8,.slice p313 (m+2) c314),(6,.int .u32 ((s:Nat):Int)),(5,.slice none 0 0)]) (fun x=>[rowA 121 (rI .u32) (some ⟨b20,0,none⟩) (M - (m+2)) (List.replicate (j+1) 0++qs),rowA 121 (rI .u32) p17 c18 u]) (fun x=>[atF b26 o27 [.int .u32 ((yd V).getD (m+1) 0)],atF b23 o24 [.int .u32 ((yd V).getD (m+1) 0)],slF (rI .u32) (some ⟨b16,0,none⟩) 1 ([0]),slF (rI .u32) p313 c314 (yd V),slF (rI .u32) (some ⟨b10,0,none⟩) 1 (yd s),slF (rI .u32) (some ⟨b5,0,none⟩) 1 (yd s),atF b1 o2 [.int .u32 ((yd b).getD ((yd b).length - 1) 0)],slF (rI .u32) p1 c1 (yd a),slF (rI .u32) p2 c2 (yd b)]) ?_ ?_
   ·
    refine zB<|zka (X:=Int×Int) (fun x:Int×Int=>Big.Gs (yf (u.drop j)) (V:Int) ((yd V).getD (m+1) 0) ((u.getD (j+(m+2)) 0)*1000000000+(u.getD (j+(m+1)) 0)) x.1 x.2∧x.2<1000000000) (fun x=>[(13,.int .u64 (x.2)),(12,.int .u64 (x.1)),(10,ya yb ((j:Nat):Int)),(4,.slice (some ⟨b20,0,none⟩) (M - (m+2)) (M - (m+2))),(7,.slice p17 M c18),(9,ya yb (((m+2):Nat):Int)),(8,.slice p313 (m+2) c314),(6,.int .u32 ((s:Nat):Int)),(5,.slice none 0 0)]) (fun x=>[rowA 121 (rI .u32) (some ⟨b20,0,none⟩) (M - (m+2)) (List.replicate (j+1) 0++qs),rowA 121 (rI .u32) p17 c18 u]) (fun x=>[atF b26 o27 [.int .u32 ((yd V).getD (m+1) 0)],atF b23 o24 [.int .u32 ((yd V).getD (m+1) 0)],slF (rI .u32) (some ⟨b16,0,none⟩) 1 ([0]),slF (rI .u32) p313 c314 (yd V),slF (rI .u32) (some ⟨b10,0,none⟩) 1 (yd s),slF (rI .u32) (some ⟨b5,0,none⟩) 1 (yd s),atF b1 o2 [.int .u32 ((yd b).getD ((yd b).length - 1) 0)],slF (rI .u32) p1 c1 (yd a),slF (rI .u32) p2 c2 (yd b)]) (fun x:Int×Int=>x.1.toNat) ((((u.getD (j+(m+2)) 0*1000000000)+(u.getD (j+(m+1)) 0)) / ((yd V).getD (m+1) 0)),(((u.getD (j+(m+2)) 0*1000000000)+(u.getD (j+(m+1)) 0))%((yd V).getD (m+1) 0))) (show Big.Gs (yf (u.drop j)) (V:Int) ((yd V).getD (m+1) 0) ((u.getD (j+(m+2)) 0)*1000000000+(u.getD (j+(m+1)) 0)) (((u.getD (j+(m+2)) 0*1000000000)+(u.getD (j+(m+1)) 0)) / ((yd V).getD (m+1) 0)) (((u.getD (j+(m+2)) 0*1000000000)+(u.getD (j+(m+1)) 0))%((yd V).getD (m+1) 0))∧(((u.getD (j+(m+2)) 0*1000000000)+(u.getD (j+(m+1)) 0))%((yd V).getD (m+1) 0))<1000000000 from by exact ⟨hgst,by omega⟩) ((.of rfl):SubM _ _) (ho:=((.of [0,0] rfl):PickO _ _ _)) ((.of [0,1,2,3,4,5,6,7,8] rfl):SelR _ _ _) ?_
    rintro ⟨g,r⟩ hG
    replace hG:Big.Gs (yf (u.drop j)) (V:Int) ((yd V).getD (m+1) 0) ((u.getD (j+(m+2)) 0)*1000000000+(u.getD (j+(m+1)) 0)) g r∧r<1000000000:=hG
    try dsimp only
    obtain ⟨hGs,hr9⟩:=hG
    have hgl:=Big.Gs.le hT hGs
    have hg0:=hGs.g0
    have hr0:=hGs.r0
    have hgm:=Big.mul_lim3 hg0 hgl.1 hvs0 hvs1
    refine zg<|zEa (X:=Unit) (fun x=>True) (fun x=>[(123,.bool (decide ((1000000000≤g)∨(((r*1000000000)+(u.getD (j+m) 0))<(g*((yd V).getD m 0)))))),(13,.int .u64 r),(12,.int .u64 g),(10,ya yb ((j:Nat):Int)),(4,.slice (some ⟨b20,0,none⟩) (M - (m+2)) (M - (m+2))),(7,.slice p17 M c18),(9,ya yb (((m+2):Nat):Int)),(8,.slice p313 (m+2) c314),(6,.int .u32 ((s:Nat):Int)),(5,.slice none 0 0)]) (fun x=>[rowA 121 (rI .u32) (some ⟨b20,0,none⟩) (M - (m+2)) (List.replicate (j+1) 0++qs),rowA 121 (rI .u32) p17 c18 u]) (fun x=>[atF b26 o27 [.int .u32 ((yd V).getD (m+1) 0)],atF b23 o24 [.int .u32 ((yd V).getD (m+1) 0)],slF (rI .u32) (some ⟨b16,0,none⟩) 1 ([0]),slF (rI .u32) p313 c314 (yd V),slF (rI .u32) (some ⟨b10,0,none⟩) 1 (yd s),slF (rI .u32) (some ⟨b5,0,none⟩) 1 (yd s),atF b1 o2 [.int .u32 ((yd b).getD ((yd b).length - 1) 0)],slF (rI .u32) p1 c1 (yd a),slF (rI .u32) p2 c2 (yd b)]) ?_ ?_
    ·
     refine zW (OW:=[]) (O:=[rowA 121 (rI .u32) (some ⟨b20,0,none⟩) (M - (m+2)) (List.replicate (j+1) 0++qs),rowA 121 (rI .u32) p17 c18 u]) 100000 mixed (.then (.then (.then (.block (.then (.block (.then (.then (.block (.then .ret)))))))))) kr<|e_dm 0 rfl rfl rfl<|e_pv 1 rfl rfl (zJa rfl rfl)<|zDb 2 rfl rfl kr kr rfl rfl (zX rfl) (fun hge=> ?_) (fun hge=> ?_)
     ·
      refine e_skip 3 rfl rfl<|e_skip 4 rfl rfl<|e_skip 5 rfl rfl<|e_skip 6 rfl rfl<|e_skip 7 rfl rfl<|e_skip 8 rfl rfl<|e_skip 9 rfl rfl<|e_skip 10 rfl rfl<|e_skip 11 rfl rfl<|e_skip 12 rfl rfl<|e_skip 13 rfl rfl<|e_skip 14 rfl rfl<|e_skip 15 rfl rfl<|e_skip 16 rfl rfl<|e_skip 17 rfl rfl<|e_skip 18 rfl rfl<|e_skip 19 rfl rfl<|e_skip 20 rfl rfl<|e_skip 21 rfl rfl<|e_skip 22 rfl rfl<|e_pv 23 rfl rfl (zo rfl rfl)<|zT kr ?_
      exact zga () (show True from by first|trivial|omega|simp_all) ((.e rfl (congrArg Value.bool (by exact (decide_eq_true (.inl hge)).symm)) (.of rfl)):SubM _ _) (ho:=((.of [0,0] rfl):PickO _ _ _)) ((.of [0,1,2,3,4,5,6,7,8] rfl):SelR _ _ _)
     ·
      refine e_dm 3 rfl rfl rfl<|e_dm 4 rfl rfl rfl<|e_dm 5 rfl rfl rfl<|e_pv 6 rfl rfl (zla (z:=((m:Nat):Int)) rfl rfl (w64 om))<|zZ (x0:=((yd V).getD m 0)) 7 rfl rfl kr kr 3 m rfl ye sz121 rfl rfl rfl (by first|rfl|assumption|(simp;done)|omega) rfl rfl (gD (d:=0) om) (fun b29 o30 hok31=> ?_)
      replace hok31:=zG.1 hok31
      refine e_u 8 rfl rfl (zx (j:=0) 0 ty121 rfl rfl rfl rfl)<|e_pv 9 rfl rfl (zK (z:=((yd V).getD m 0)) rfl (by rw [yg];rfl) yh (wu64 om))<|e_pv 10 rfl rfl (zya (z:=(g*((yd V).getD m 0))) rfl rfl (wu64 om))<|e_dm 11 rfl rfl rfl<|e_pv 12 rfl rfl (zya (z:=(r*1000000000)) rfl rfl (wu64 om))<|e_dm 13 rfl rfl rfl<|e_dm 14 rfl rfl rfl<|e_dm 15 rfl rfl rfl<|e_pv 16 rfl rfl (zI (z:=(((j+(m+2)):Nat):Int)) rfl rfl (w64 om))<|e_pv 17 rfl rfl (zla (z:=(((j+m):Nat):Int)) rfl rfl (w64 om))<|e_u 18 rfl rfl (zoa 1 (j+m) rfl ye sz121 rfl (by first|rfl|assumption|(simp;done)|omega) rfl rfl om)<|d_vl 19 rfl rfl kr kr rfl rfl (zha 1 (j+m) rfl ty121 rfl rfl (gD (d:=0) om) rfl) (fun _ hok32=> ?_)
      replace hok32:=zG.1 hok32
      refine e_pv 20 rfl rfl (zK (z:=(u.getD (j+m) 0)) rfl (by rw [yg];rfl) yh (wu64 om))<|e_pv 21 rfl rfl (zI (z:=((r*1000000000)+(u.getD (j+m) 0))) rfl rfl (wu64 om))<|e_pv 22 rfl rfl (zAa rfl rfl)<|e_pv 23 rfl rfl (zo rfl rfl)<|zT kr ?_
      exact zga () (show True from by first|trivial|omega|simp_all) ((.e rfl (congrArg Value.bool (by exact decide_eq_decide.2 ⟨fun h=> .inr h,fun h=>h.resolve_left hge⟩)) (.of rfl)):SubM _ _) (ho:=((.of [0,0] rfl):PickO _ _ _)) ((.of [1,2,3,4,5,6,7,8,9] rfl):SelR _ _ _)
    ·
     rintro ⟨⟩ -
     try dsimp only
     refine zC rfl (fun hgs=> ?_) (fun hgs=> ?_)
     ·
      have hst:=hGs.step hT hgs
      have hst1:=hst.1
      refine zA<|zd<|zB<|zg<|za<|e_mv rfl<|e_p (zla (z:=(g - 1)) rfl rfl (wu64 om))<|e_p (zb rfl)<|zh<|zd<|zg<|za<|e_mv rfl<|e_mv rfl<|e_mv rfl<|e_p (zla (z:=(((m+1):Nat):Int)) rfl rfl (w64 om))<|zP (x0:=((yd V).getD (m+1) 0)) 3 (m+1) rfl ye sz121 rfl rfl rfl (by first|rfl|assumption|(simp;done)|omega) rfl rfl (gD (d:=0) om) (fun b33 o34 hok35=> ?_)
      replace hok35:=zG.1 hok35
      refine e_ru (zx (j:=0) 0 ty121 rfl rfl rfl rfl)<|e_p (zK (z:=((yd V).getD (m+1) 0)) rfl (by rw [yg];rfl) yh (wu64 om))<|e_p (zI (z:=(r+((yd V).getD (m+1) 0))) rfl rfl (wu64 om))<|e_p (zb rfl)<|zh<|zd<|zg<|za<|e_mv rfl<|e_p (zJa rfl rfl)<|zh<|zd<|zC rfl (fun hbr=> ?_) (fun hbr=> ?_)
      ·
       refine zja<|zDc rfl<|zj<|zt ?_
       exact zga (g - 1) (show (0≤(g - 1)∧(g - 1)<1000000000)∧(yf (u.drop j))<((g - 1)+1)*(V:Int)∧(g - 1)*(V:Int)<(yf (u.drop j))+(V:Int) from by have hs9:=(hGs.step hT hgs).2;have hb9:=Big.Gs.broke hT hs9 hbr;exact ⟨⟨hs9.g0,hb9.1⟩,hs9.up,Big.Gs.fin hT hs9 hb9.1 hb9.2⟩) ((.of rfl):SubM _ _) (ho:=((.of [0,0] rfl):PickO _ _ _)) ((.of [1,2,3,4,5,6,7,8,9] rfl):SelR _ _ _)
      ·
       refine zA<|zO<|zda ((g - 1),(r+((yd V).getD (m+1) 0))) (show Big.Gs (yf (u.drop j)) (V:Int) ((yd V).getD (m+1) 0) ((u.getD (j+(m+2)) 0)*1000000000+(u.getD (j+(m+1)) 0)) (g - 1) (r+((yd V).getD (m+1) 0))∧(r+((yd V).getD (m+1) 0))<1000000000 from by exact ⟨(hGs.step hT hgs).2,by omega⟩) (by have:=(hGs.step hT hgs).1;show (g - 1).toNat<g.toNat;omega) ((.of rfl):SubM _ _) (ho:=((.of [0,0] rfl):PickO _ _ _)) ((.of [1,2,3,4,5,6,7,8,9] rfl):SelR _ _ _)
     ·
      refine zja<|zj<|zj<|zt ?_
      exact zga g (show (0≤g∧g<1000000000)∧(yf (u.drop j))<(g+1)*(V:Int)∧g*(V:Int)<(yf (u.drop j))+(V:Int) from by exact ⟨⟨hg0,by omega⟩,hGs.up,Big.Gs.fin hT hGs om om⟩) ((.of rfl):SubM _ _) (ho:=((.of [0,0] rfl):PickO _ _ _)) ((.of [0,1,2,3,4,5,6,7,8] rfl):SelR _ _ _)
   ·
    rintro g hC
    replace hC:(0≤g∧g<1000000000)∧(yf (u.drop j))<(g+1)*(V:Int)∧g*(V:Int)<(yf (u.drop j))+(V:Int):=hC
    try dsimp only
    obtain ⟨⟨hg0,hg1⟩,hup,hdn⟩:=hC
    refine zg<|za<|e_p (zb rfl)<|e_p (zb rfl)<|zh<|zd<|zg<|zg<|za<|e_mv rfl<|e_mv rfl<|zh<|zd<|zB<|zka (X:=Nat×(List Int)×Int×Int) (fun x:Nat×(List Int)×Int×Int=>x.1≤m+2∧Big.MsI u j g (yd V) x.1 x.2.1 x.2.2.1 x.2.2.2) (fun x=>[(15,.int .u64 (x.2.2.2)),(14,ya yb (x.2.2.1)),(137,ya yb ((x.1:Nat):Int)),(136,ya yb (((m+2):Nat):Int)),(12,.int .u64 g),(10,ya yb ((j:Nat):Int)),(4,.slice (some ⟨b20,0,none⟩) (M - (m+2)) (M - (m+2))),(7,.slice p17 M c18),(9,ya yb (((m+2):Nat):Int)),(8,.slice p313 (m+2) c314),(6,.int .u32 ((s:Nat):Int)),(5,.slice none 0 0)]) (fun x=>[rowA 121 (rI .u32) (some ⟨b20,0,none⟩) (M - (m+2)) (List.replicate (j+1) 0++qs),rowA 121 (rI .u32) p17 c18 (x.2.1)]) (fun x=>[atF b26 o27 [.int .u32 ((yd V).getD (m+1) 0)],atF b23 o24 [.int .u32 ((yd V).getD (m+1) 0)],slF (rI .u32) (some ⟨b16,0,none⟩) 1 ([0]),slF (rI .u32) p313 c314 (yd V),slF (rI .u32) (some ⟨b10,0,none⟩) 1 (yd s),slF (rI .u32) (some ⟨b5,0,none⟩) 1 (yd s),atF b1 o2 [.int .u32 ((yd b).getD ((yd b).length - 1) 0)],slF (rI .u32) p1 c1 (yd a),slF (rI .u32) p2 c2 (yd b)]) (fun x:Nat×(List Int)×Int×Int=>(m+2) - x.1) (0,u,0,0) (show 0≤m+2∧Big.MsI u j g (yd V) 0 u 0 0 from by exact ⟨Nat.zero_le _,Big.MsI.start hI.uo j g _⟩) ((.c rfl (.c rfl (.e rfl (by first|rfl|(congr 1;omega)|simp_all) (.of rfl)))):SubM _ _) (ho:=((.of [0,0] rfl):PickO _ _ _)) ((.of [0,1,2,3,4,5,6,7,8] rfl):SelR _ _ _) ?_
    rintro ⟨i,w,bo,ca⟩ hMM
    replace hMM:i≤m+2∧Big.MsI u j g (yd V) i w bo ca:=hMM
    try dsimp only
    obtain ⟨hile,hM2⟩:=hMM
    have hb0:=hM2.b0
    have hb1:=hM2.b1
    have hc0:=hM2.c0
    have hc1:=hM2.c1
    have hwl:=hM2.len
    have hwo:=ym hM2.ok (j+i)
    have hvi:=ym (yo V) i
    have hca:=Big.ms_carry ⟨hg0,hg1⟩ hvi ⟨hc0,hc1⟩
    have hgx:=Int.mul_nonneg hg0 hvi.1
    refine zg<|za<|e_p (zY rfl rfl)<|zh<|zd<|zg<|zC rfl (fun hi=> ?_) (fun hi=> ?_)
    ·
     refine zA<|zd<|zg<|zB<|zg<|za<|e_mv rfl<|e_p (zb rfl)<|zh<|zd<|zg<|za<|e_mv rfl<|e_mv rfl<|e_mv rfl<|zP (x0:=((yd V).getD i 0)) 3 i rfl ye sz121 rfl rfl rfl (by first|rfl|assumption|(simp;done)|omega) rfl rfl (gD (d:=0) om) (fun b36 o37 hok38=> ?_)
     replace hok38:=zG.1 hok38
     refine e_ru (zx (j:=0) 0 ty121 rfl rfl rfl rfl)<|e_p (zK (z:=((yd V).getD i 0)) rfl (by rw [yg];rfl) yh (wu64 om))<|e_p (zya (z:=(g*((yd V).getD i 0))) rfl rfl (wu64 om))<|e_mv rfl<|e_p (zI (z:=((g*((yd V).getD i 0))+ca)) rfl rfl (wu64 om))<|e_p (zb rfl)<|zh<|zd<|zg<|za<|e_mv rfl<|e_p (zhb (z:=(((g*((yd V).getD i 0))+ca) / 1000000000)) rfl rfl om (by rw [quoN (z:=(((g*((yd V).getD i 0))+ca) / 1000000000)) om om];exact wu64 om))<|e_p (zb rfl)<|zh<|zd<|zg<|za<|e_mv rfl<|e_mv rfl<|e_mv rfl<|e_p (zI (z:=(((j+i):Nat):Int)) rfl rfl (w64 om))<|e_ru (zoa 1 (j+i) rfl ye sz121 rfl (by first|rfl|assumption|(simp;done)|omega) rfl rfl om)<|r_vl rfl rfl (zha 1 (j+i) rfl ty121 rfl rfl (gD (d:=0) om) rfl) (fun _ hok39=> ?_)
     replace hok39:=zG.1 hok39
     refine e_p (zK (z:=(w.getD (j+i) 0)) rfl (by rw [yg];rfl) yv (w64 om))<|e_mv rfl<|e_p (zla (z:=((w.getD (j+i) 0) - bo)) rfl rfl (w64 om))<|e_mv rfl<|e_p (zwa (z:=(((g*((yd V).getD i 0))+ca)%1000000000)) rfl rfl om (remN om om))<|e_p (zK (z:=(((g*((yd V).getD i 0))+ca)%1000000000)) rfl (by rw [yh];rfl) yv (w64 om))<|e_p (zla (z:=(((w.getD (j+i) 0) - bo) - (((g*((yd V).getD i 0))+ca)%1000000000))) rfl rfl (w64 om))<|e_p (zb rfl)<|zh<|zd<|zg<|za<|e_p (zb rfl)<|zh<|zd<|zg<|zg<|za<|e_mv rfl<|e_p (zY rfl rfl)<|zh<|zd<|zC rfl (fun hneg=> ?_) (fun hneg=> ?_)
     ·
      refine za<|e_mv rfl<|e_p (zI (z:=((((w.getD (j+i) 0) - bo) - (((g*((yd V).getD i 0))+ca)%1000000000))+1000000000)) rfl rfl (w64 om))<|e_p (zb rfl)<|e_p (zb rfl)<|zh<|zd<|za<|e_mv rfl<|e_mv rfl<|e_mv rfl<|e_p (zI (z:=(((j+i):Nat):Int)) rfl rfl (w64 om))<|e_mv rfl<|e_p (zK (z:=((((w.getD (j+i) 0) - bo) - (((g*((yd V).getD i 0))+ca)%1000000000))+1000000000)) rfl (by rw [yv];rfl) yg (wu32 om))<|e_ru (zoa 1 (j+i) rfl ye sz121 rfl (by first|rfl|assumption|(simp;done)|omega) rfl rfl om)<|zIa 1 rfl rfl rfl (zea (j:=(j+i)) (x0:=((((w.getD (j+i) 0) - bo) - (((g*((yd V).getD i 0))+ca)%1000000000))+1000000000)) (γ0:=()) rfl rfl (by first|omega|(rw [List.length_map];omega)|(simp only [List.length_set];omega)|(simp;done)|(simp;omega)) rfl rfl sz121 (fun _ _=>by exact zG.2 om)) (fun _=>(.s .z)) (fun _ _=> ?_)
      refine zh<|zO<|zd<|za<|e_p (zI (z:=(((i+1):Nat):Int)) rfl rfl (w64 om))<|e_mv rfl<|zh<|zda ((i+1),(w.set (j+i) ((((w.getD (j+i) 0) - bo) - (((g*((yd V).getD i 0))+ca)%1000000000))+1000000000)),1,(((g*((yd V).getD i 0))+ca) / 1000000000)) (show (i+1)≤m+2∧Big.MsI u j g (yd V) (i+1) (w.set (j+i) ((((w.getD (j+i) 0) - bo) - (((g*((yd V).getD i 0))+ca)%1000000000))+1000000000)) 1 (((g*((yd V).getD i 0))+ca) / 1000000000) from by exact ⟨by omega,hM2.step ⟨hg0,hg1⟩ (yo V) om om ⟨by omega,by omega⟩ ⟨by decide,by decide⟩⟩) (by show (m+2) - (i+1)<(m+2) - i;omega) ((.of rfl):SubM _ _) (ho:=((.of [0,0] rfl):PickO _ _ _)) ((.of [1,2,3,4,5,6,7,8,9] rfl):SelR _ _ _)
     ·
      refine zA<|zd<|za<|e_mv rfl<|e_mv rfl<|e_mv rfl<|e_p (zI (z:=(((j+i):Nat):Int)) rfl rfl (w64 om))<|e_mv rfl<|e_p (zK (z:=(((w.getD (j+i) 0) - bo) - (((g*((yd V).getD i 0))+ca)%1000000000))) rfl (by rw [yv];rfl) yg (wu32 om))<|e_ru (zoa 1 (j+i) rfl ye sz121 rfl (by first|rfl|assumption|(simp;done)|omega) rfl rfl om)<|zIa 1 rfl rfl rfl (zea (j:=(j+i)) (x0:=(((w.getD (j+i) 0) - bo) - (((g*((yd V).getD i 0))+ca)%1000000000))) (γ0:=()) rfl rfl (by first|omega|(rw [List.length_map];omega)|(simp only [List.length_set];omega)|(simp;done)|(simp;omega)) rfl rfl sz121 (fun _ _=>by exact zG.2 om)) (fun _=>(.s .z)) (fun _ _=> ?_)
      refine zh<|zO<|zd<|za<|e_p (zI (z:=(((i+1):Nat):Int)) rfl rfl (w64 om))<|e_mv rfl<|zh<|zda ((i+1),(w.set (j+i) (((w.getD (j+i) 0) - bo) - (((g*((yd V).getD i 0))+ca)%1000000000))),0,(((g*((yd V).getD i 0))+ca) / 1000000000)) (show (i+1)≤m+2∧Big.MsI u j g (yd V) (i+1) (w.set (j+i) (((w.getD (j+i) 0) - bo) - (((g*((yd V).getD i 0))+ca)%1000000000))) 0 (((g*((yd V).getD i 0))+ca) / 1000000000) from by exact ⟨by omega,hM2.step ⟨hg0,hg1⟩ (yo V) om om ⟨by omega,by omega⟩ ⟨by decide,by decide⟩⟩) (by show (m+2) - (i+1)<(m+2) - i;omega) ((.of rfl):SubM _ _) (ho:=((.of [0,0] rfl):PickO _ _ _)) ((.of [1,2,3,4,5,6,7,8,9] rfl):SelR _ _ _)
    ·
     have hM3:Big.MsI u j g (yd V) (m+2) w bo ca:=by have h8:i=m+2:=om;exact h8 ▸ hM2
     have hwo2:=ym hM2.ok (j+(m+2))
     refine zja<|zj<|zj<|zt<|zd<|zg<|za<|e_mv rfl<|e_mv rfl<|e_mv rfl<|e_p (zI (z:=(((j+(m+2)):Nat):Int)) rfl rfl (w64 om))<|e_ru (zoa 1 (j+(m+2)) rfl ye sz121 rfl (by first|rfl|assumption|(simp;done)|omega) rfl rfl om)<|r_vl rfl rfl (zha 1 (j+(m+2)) rfl ty121 rfl rfl (gD (d:=0) om) rfl) (fun _ hok40=> ?_)
     replace hok40:=zG.1 hok40
     refine e_p (zK (z:=(w.getD (j+(m+2)) 0)) rfl (by rw [yg];rfl) yv (w64 om))<|e_mv rfl<|e_p (zla (z:=((w.getD (j+(m+2)) 0) - bo)) rfl rfl (w64 om))<|e_mv rfl<|e_p (zK (z:=ca) rfl (by rw [yh];rfl) yv (w64 om))<|e_p (zla (z:=(((w.getD (j+(m+2)) 0) - bo) - ca)) rfl rfl (w64 om))<|e_p (zb rfl)<|zh<|zd<|zg<|zg<|za<|e_mv rfl<|e_p (zY rfl rfl)<|zh<|zd<|zC rfl (fun hd=> ?_) (fun hd=> ?_)
     ·
      have hg9:=hI.neg1 hM3 hm hd
      refine zg<|za<|e_mv rfl<|e_mv rfl<|e_mv rfl<|e_p (zI (z:=(((j+(m+2)):Nat):Int)) rfl rfl (w64 om))<|e_mv rfl<|e_p (zI (z:=((((w.getD (j+(m+2)) 0) - bo) - ca)+1000000000)) rfl rfl (w64 om))<|e_p (zK (z:=((((w.getD (j+(m+2)) 0) - bo) - ca)+1000000000)) rfl (by rw [yv];rfl) yg (wu32 om))<|e_ru (zoa 1 (j+(m+2)) rfl ye sz121 rfl (by first|rfl|assumption|(simp;done)|omega) rfl rfl om)<|zIa 1 rfl rfl rfl (zea (j:=(j+(m+2))) (x0:=((((w.getD (j+(m+2)) 0) - bo) - ca)+1000000000)) (γ0:=()) rfl rfl (by first|omega|(rw [List.length_map];omega)|(simp only [List.length_set];omega)|(simp;done)|(simp;omega)) rfl rfl sz121 (fun _ _=>by exact zG.2 om)) (fun _=>(.s .z)) (fun _ _=> ?_)
      refine zh<|zd<|zg<|za<|e_mv rfl<|e_p (zla (z:=(g - 1)) rfl rfl (wu64 om))<|e_p (zb rfl)<|zh<|zd<|zg<|za<|e_p (zb rfl)<|zh<|zd<|zg<|zg<|za<|e_mv rfl<|e_mv rfl<|zh<|zd<|zB<|zka (X:=Nat×(List Int)×Int) (fun x:Nat×(List Int)×Int=>x.1≤m+2∧Big.AbI (w.set (j+(m+2)) ((((w.getD (j+(m+2)) 0) - bo) - ca)+1000000000)) j (yd V) x.1 x.2.1 x.2.2) (fun x=>[(20,.int .u32 (x.2.2)),(201,ya yb ((x.1:Nat):Int)),(200,ya yb (((m+2):Nat):Int)),(12,.int .u64 (g - 1)),(10,ya yb ((j:Nat):Int)),(4,.slice (some ⟨b20,0,none⟩) (M - (m+2)) (M - (m+2))),(7,.slice p17 M c18),(9,ya yb (((m+2):Nat):Int)),(8,.slice p313 (m+2) c314),(6,.int .u32 ((s:Nat):Int)),(5,.slice none 0 0)]) (fun x=>[rowA 121 (rI .u32) (some ⟨b20,0,none⟩) (M - (m+2)) (List.replicate (j+1) 0++qs),rowA 121 (rI .u32) p17 c18 (x.2.1)]) (fun x=>[atF b26 o27 [.int .u32 ((yd V).getD (m+1) 0)],atF b23 o24 [.int .u32 ((yd V).getD (m+1) 0)],slF (rI .u32) (some ⟨b16,0,none⟩) 1 ([0]),slF (rI .u32) p313 c314 (yd V),slF (rI .u32) (some ⟨b10,0,none⟩) 1 (yd s),slF (rI .u32) (some ⟨b5,0,none⟩) 1 (yd s),atF b1 o2 [.int .u32 ((yd b).getD ((yd b).length - 1) 0)],slF (rI .u32) p1 c1 (yd a),slF (rI .u32) p2 c2 (yd b)]) (fun x:Nat×(List Int)×Int=>(m+2) - x.1) (0,(w.set (j+(m+2)) ((((w.getD (j+(m+2)) 0) - bo) - ca)+1000000000)),0) (show 0≤m+2∧Big.AbI (w.set (j+(m+2)) ((((w.getD (j+(m+2)) 0) - bo) - ca)+1000000000)) j (yd V) 0 (w.set (j+(m+2)) ((((w.getD (j+(m+2)) 0) - bo) - ca)+1000000000)) 0 from by exact ⟨Nat.zero_le _,Big.AbI.start (yJ hM2.ok om om) _ _⟩) ((.c rfl (.e rfl (by first|rfl|(congr 1;omega)|simp_all) (.of rfl))):SubM _ _) (ho:=((.c (i:=0) rfl (.e (i:=0) rfl (by first|rfl|(congr 1;omega)|simp_all) .n)):PickO _ _ _)) ((.of [0,1,2,3,4,5,6,7,8] rfl):SelR _ _ _) ?_
      rintro ⟨i2,xs,cc⟩ hAA
      replace hAA:i2≤m+2∧Big.AbI (w.set (j+(m+2)) ((((w.getD (j+(m+2)) 0) - bo) - ca)+1000000000)) j (yd V) i2 xs cc:=hAA
      try dsimp only
      obtain ⟨hile2,hA2⟩:=hAA
      have hk0:=hA2.c0
      have hk1:=hA2.c1
      have hxl:=hA2.len
      rw [List.length_set] at hxl
      have hxo:=ym hA2.ok (j+i2)
      have hvi2:=ym (yo V) i2
      refine zg<|za<|e_p (zY rfl rfl)<|zh<|zd<|zg<|zC rfl (fun hi=> ?_) (fun hi=> ?_)
      ·
       refine zA<|zd<|zg<|zB<|zg<|za<|e_mv rfl<|e_p (zb rfl)<|zh<|zd<|zg<|zW (OW:=[]) (O:=[rowA 121 (rI .u32) (some ⟨b20,0,none⟩) (M - (m+2)) (List.replicate (j+1) 0++qs),rowA 121 (rI .u32) p17 c18 xs]) 100000 mixed (.then (.block (.then (.then (.block (.then (.then (.block (.then (.then (.block (.then .ret)))))))))))) kr<|e_dm 0 rfl rfl rfl<|e_dm 1 rfl rfl rfl<|e_dm 2 rfl rfl rfl<|e_pv 3 rfl rfl (zI (z:=(((j+i2):Nat):Int)) rfl rfl (w64 om))<|e_u 4 rfl rfl (zoa 1 (j+i2) rfl ye sz121 rfl (by first|rfl|assumption|(simp;done)|omega) rfl rfl om)<|d_vl 5 rfl rfl kr kr rfl rfl (zha 1 (j+i2) rfl ty121 rfl rfl (gD (d:=0) om) rfl) (fun _ hok41=> ?_)
       replace hok41:=zG.1 hok41
       refine e_dm 6 rfl rfl rfl<|e_dm 7 rfl rfl rfl<|zZ (x0:=((yd V).getD i2 0)) 8 rfl rfl kr kr 3 i2 rfl ye sz121 rfl rfl rfl (by first|rfl|assumption|(simp;done)|omega) rfl rfl (gD (d:=0) om) (fun b42 o43 hok44=> ?_)
       replace hok44:=zG.1 hok44
       refine e_u 9 rfl rfl (zx (j:=0) 0 ty121 rfl rfl rfl rfl)<|e_pv 10 rfl rfl (zI (z:=((xs.getD (j+i2) 0)+((yd V).getD i2 0))) rfl rfl (wu32 om))<|e_dm 11 rfl rfl rfl<|e_pv 12 rfl rfl (zI (z:=(((xs.getD (j+i2) 0)+((yd V).getD i2 0))+cc)) rfl rfl (wu32 om))<|e_pv 13 rfl rfl (zb rfl)<|zT kr<|zd<|zg<|za<|e_p (zb rfl)<|zh<|zd<|zg<|zg<|za<|e_mv rfl<|e_p (zJa rfl rfl)<|zh<|zd<|zC rfl (fun hcy=> ?_) (fun hcy=> ?_)
       ·
        refine za<|e_mv rfl<|e_p (zla (z:=((((xs.getD (j+i2) 0)+((yd V).getD i2 0))+cc) - 1000000000)) rfl rfl (wu32 om))<|e_p (zb rfl)<|e_p (zb rfl)<|zh<|zd<|za<|e_mv rfl<|e_mv rfl<|e_mv rfl<|e_p (zI (z:=(((j+i2):Nat):Int)) rfl rfl (w64 om))<|e_mv rfl<|e_ru (zoa 1 (j+i2) rfl ye sz121 rfl (by first|rfl|assumption|(simp;done)|omega) rfl rfl om)<|zIa 1 rfl rfl rfl (zea (j:=(j+i2)) (x0:=((((xs.getD (j+i2) 0)+((yd V).getD i2 0))+cc) - 1000000000)) (γ0:=()) rfl rfl (by first|omega|(rw [List.length_map];omega)|(simp only [List.length_set];omega)|(simp;done)|(simp;omega)) rfl rfl sz121 (fun _ _=>by exact zG.2 om)) (fun _=>(.s .z)) (fun _ _=> ?_)
        refine zh<|zO<|zd<|za<|e_p (zI (z:=(((i2+1):Nat):Int)) rfl rfl (w64 om))<|e_mv rfl<|zh<|zda ((i2+1),(xs.set (j+i2) ((((xs.getD (j+i2) 0)+((yd V).getD i2 0))+cc) - 1000000000)),1) (show (i2+1)≤m+2∧Big.AbI (w.set (j+(m+2)) ((((w.getD (j+(m+2)) 0) - bo) - ca)+1000000000)) j (yd V) (i2+1) (xs.set (j+i2) ((((xs.getD (j+i2) 0)+((yd V).getD i2 0))+cc) - 1000000000)) 1 from by exact ⟨by omega,hA2.step (by rw [List.length_set];omega) om ⟨by omega,by omega⟩ ⟨by decide,by decide⟩⟩) (by show (m+2) - (i2+1)<(m+2) - i2;omega) ((.of rfl):SubM _ _) (ho:=((.of [0,0] rfl):PickO _ _ _)) ((.of [1,2,3,4,5,6,7,8,9] rfl):SelR _ _ _)
       ·
        refine zA<|zd<|za<|e_mv rfl<|e_mv rfl<|e_mv rfl<|e_p (zI (z:=(((j+i2):Nat):Int)) rfl rfl (w64 om))<|e_mv rfl<|e_ru (zoa 1 (j+i2) rfl ye sz121 rfl (by first|rfl|assumption|(simp;done)|omega) rfl rfl om)<|zIa 1 rfl rfl rfl (zea (j:=(j+i2)) (x0:=(((xs.getD (j+i2) 0)+((yd V).getD i2 0))+cc)) (γ0:=()) rfl rfl (by first|omega|(rw [List.length_map];omega)|(simp only [List.length_set];omega)|(simp;done)|(simp;omega)) rfl rfl sz121 (fun _ _=>by exact zG.2 om)) (fun _=>(.s .z)) (fun _ _=> ?_)
        refine zh<|zO<|zd<|za<|e_p (zI (z:=(((i2+1):Nat):Int)) rfl rfl (w64 om))<|e_mv rfl<|zh<|zda ((i2+1),(xs.set (j+i2) (((xs.getD (j+i2) 0)+((yd V).getD i2 0))+cc)),0) (show (i2+1)≤m+2∧Big.AbI (w.set (j+(m+2)) ((((w.getD (j+(m+2)) 0) - bo) - ca)+1000000000)) j (yd V) (i2+1) (xs.set (j+i2) (((xs.getD (j+i2) 0)+((yd V).getD i2 0))+cc)) 0 from by exact ⟨by omega,hA2.step (by rw [List.length_set];omega) om ⟨by omega,by omega⟩ ⟨by decide,by decide⟩⟩) (by show (m+2) - (i2+1)<(m+2) - i2;omega) ((.of rfl):SubM _ _) (ho:=((.of [0,0] rfl):PickO _ _ _)) ((.of [1,2,3,4,5,6,7,8,9] rfl):SelR _ _ _)
      ·
       have hA3:Big.AbI (w.set (j+(m+2)) ((((w.getD (j+(m+2)) 0) - bo) - ca)+1000000000)) j (yd V) (m+2) xs cc:=by have h8:i2=m+2:=om;exact h8 ▸ hA2
       have hxo2:=ym hA2.ok (j+(m+2))
       refine zja<|zj<|zj<|zt<|zd<|za<|e_mv rfl<|e_mv rfl<|e_mv rfl<|e_p (zI (z:=(((j+(m+2)):Nat):Int)) rfl rfl (w64 om))<|e_mv rfl<|e_mv rfl<|e_mv rfl<|e_p (zI (z:=(((j+(m+2)):Nat):Int)) rfl rfl (w64 om))<|e_ru (zoa 1 (j+(m+2)) rfl ye sz121 rfl (by first|rfl|assumption|(simp;done)|omega) rfl rfl om)<|r_vl rfl rfl (zha 1 (j+(m+2)) rfl ty121 rfl rfl (gD (d:=0) om) rfl) (fun _ hok45=> ?_)
       replace hok45:=zG.1 hok45
       refine e_mv rfl<|e_p (zI (z:=((xs.getD (j+(m+2)) 0)+cc)) rfl rfl (wu32 om))<|e_p (zwa (z:=(((xs.getD (j+(m+2)) 0)+cc)%1000000000)) rfl rfl om (remN om om))<|e_ru (zoa 1 (j+(m+2)) rfl ye sz121 rfl (by first|rfl|assumption|(simp;done)|omega) rfl rfl om)<|zIa 1 rfl rfl rfl (zea (j:=(j+(m+2))) (x0:=(((xs.getD (j+(m+2)) 0)+cc)%1000000000)) (γ0:=()) rfl rfl (by first|omega|(rw [List.length_map];omega)|(simp only [List.length_set];omega)|(simp;done)|(simp;omega)) rfl rfl sz121 (fun _ _=>by exact zG.2 om)) (fun _=>(.s .z)) (fun _ _=> ?_)
       refine zh<|zd<|za<|e_mv rfl<|e_mv rfl<|e_mv rfl<|e_p (zK (z:=(g - 1)) rfl (by rw [yh];rfl) yg (wu32 om))<|e_p (zia (j:=j) ye sz121 rfl rfl rfl om)<|zIa 0 rfl rfl rfl (zea (j:=j) (x0:=(g - 1)) (γ0:=()) rfl rfl (by first|omega|(rw [List.length_map];omega)|(simp only [List.length_set];omega)|(simp;done)|(simp;omega)) rfl rfl sz121 (fun _ _=>by exact zG.2 om)) (fun _=> .z) (fun _ _=> ?_)
       refine zh<|zO<|zd<|za<|e_mv rfl<|e_p (zla (z:=(((j:Nat):Int) - 1)) rfl rfl (w64 om))<|e_p (zb rfl)<|zh<|zda (j,(xs.set (j+(m+2)) (((xs.getD (j+(m+2)) 0)+cc)%1000000000)),((g - 1) :: qs)) (show yQ M (m+2) ((A:Nat):Int) ((V:Nat):Int) j (xs.set (j+(m+2)) (((xs.getD (j+(m+2)) 0)+cc)%1000000000)) ((g - 1) :: qs) from by exact (hI.neg ⟨hg0,hg1⟩ hdn hup hM3 hm hd hA3).2) (by show j<j+1;omega) ((.of rfl):SubM _ _) (ho:=((.e (i:=0) rfl (by rw [Big.pad_set]) (.c (i:=0) rfl .n)):PickO _ _ _)) ((.of [2,3,4,5,6,7,8] rfl):SelR _ _ _)
     ·
      refine za<|e_mv rfl<|e_mv rfl<|e_mv rfl<|e_p (zI (z:=(((j+(m+2)):Nat):Int)) rfl rfl (w64 om))<|e_mv rfl<|e_p (zK (z:=(((w.getD (j+(m+2)) 0) - bo) - ca)) rfl (by rw [yv];rfl) yg (wu32 om))<|e_ru (zoa 1 (j+(m+2)) rfl ye sz121 rfl (by first|rfl|assumption|(simp;done)|omega) rfl rfl om)<|zIa 1 rfl rfl rfl (zea (j:=(j+(m+2))) (x0:=(((w.getD (j+(m+2)) 0) - bo) - ca)) (γ0:=()) rfl rfl (by first|omega|(rw [List.length_map];omega)|(simp only [List.length_set];omega)|(simp;done)|(simp;omega)) rfl rfl sz121 (fun _ _=>by exact zG.2 om)) (fun _=>(.s .z)) (fun _ _=> ?_)
      refine zh<|zd<|za<|e_mv rfl<|e_mv rfl<|e_mv rfl<|e_p (zK (z:=g) rfl (by rw [yh];rfl) yg (wu32 om))<|e_p (zia (j:=j) ye sz121 rfl rfl rfl om)<|zIa 0 rfl rfl rfl (zea (j:=j) (x0:=g) (γ0:=()) rfl rfl (by first|omega|(rw [List.length_map];omega)|(simp only [List.length_set];omega)|(simp;done)|(simp;omega)) rfl rfl sz121 (fun _ _=>by exact zG.2 om)) (fun _=> .z) (fun _ _=> ?_)
      refine zh<|zO<|zd<|za<|e_mv rfl<|e_p (zla (z:=(((j:Nat):Int) - 1)) rfl rfl (w64 om))<|e_p (zb rfl)<|zh<|zda (j,(w.set (j+(m+2)) (((w.getD (j+(m+2)) 0) - bo) - ca)),(g :: qs)) (show yQ M (m+2) ((A:Nat):Int) ((V:Nat):Int) j (w.set (j+(m+2)) (((w.getD (j+(m+2)) 0) - bo) - ca)) (g :: qs) from by exact hI.pos ⟨hg0,hg1⟩ hup hM3 hm om) (by show j<j+1;omega) ((.of rfl):SubM _ _) (ho:=((.e (i:=0) rfl (by rw [Big.pad_set]) (.c (i:=0) rfl .n)):PickO _ _ _)) ((.of [2,3,4,5,6,7,8] rfl):SelR _ _ _)
  ·
   have hj0:jj=0:=by omega
   have hI0:yQ M (m+2) ((A:Nat):Int) ((V:Nat):Int) 0 u qs:=hj0 ▸ hI
   obtain ⟨hf1,hf2⟩:=hI0.fin hm
   have hsc:=Big.scale_div (a:=a) (b:=b) hs1
   have hql:qs.length=M - (m+2):=by have h8:=hI0.ql;omega
   have hul0:=hI0.ul
   refine zja<|zj<|zj<|zt<|zd<|zg<|zye 1 rfl (.s .z)<|zba 0 rfl (fun hcu=> ?_)
   have hAV:(yd (A%V)).length≤1099511627776:=Nat.le_trans (yH (Nat.le_of_lt (Nat.mod_lt A (Nat.pos_of_ne_zero (fun e=>by rw [e] at hm;cases hm))))) om
   have e46:List.replicate jj 0++qs=qs:=by rw [hj0];rfl
   rw [e46]
   refine za<|e_mv rfl<|e_mv rfl<|e_p (zwb (hi:=(m+2)) ye sz121 rfl (.s rfl) (.inr ⟨_,rfl⟩) om)<|zEc (zjc 0 rfl (m+2) om) (fun _ _=> ?_)
   refine zE rfl rfl (.c rfl .n) ce134 (zEb (p:=p17) (n:=(m+2)) (cap:=c18) (l:=(u.take (m+2))) (hn:=cbb)) (.c (j:=0) rfl .n) ?_
   rintro ⟨⟩ -
   dsimp only [aq,nq,cq]
   refine e_mv rfl ?_
   have e47:yn (u.take (m+2))=yd (A%V):=by exact hf2
   rw [e47]
   refine zE rfl rfl (.c rfl (.c rfl .n)) ce160 (zSd (a:=A%V) (mm:=s) (p:=p17) (cap:=c18) (hb:=om) (hm0:=om) (hm1:=om)) (.c (j:=0) rfl .n) ?_
   rintro ⟨p248,c249⟩ -
   dsimp only [aq,nq,cq]
   refine e_mv rfl<|e_p (zr rfl rfl)<|e_p (zr rfl rfl)<|e_p (zb rfl)<|zh<|zd<|zg<|za<|e_mv rfl<|zma 0 rfl .z<|zE rfl rfl (.c rfl .n) ce134 (zEb (p:=some ⟨b20,0,none⟩) (n:=(M - (m+2))) (cap:=(M - (m+2))) (l:=qs) (hn:=cbb)) (.c (j:=0) rfl .n) ?_
   rintro ⟨⟩ -
   dsimp only [aq,nq,cq]
   refine e_mv rfl<|e_p (zb rfl)<|e_p (zb rfl)<|zh<|zd<|zH ?_
   have e50:yn qs=yd (A / V):=by exact hf1
   rw [e50]
   exact zra Tryz.results161 ((some ⟨b20,0,none⟩),(M - (m+2)),p248,c249) trivial (zl rfl) (zl rfl) (by rw [hA,hV,hsc.1,hsc.2]) (ho:=(.n:PickO _ _ _)) ((.e (j:=0) rfl (by rw [hA,hV,hsc.1]) (.e (j:=2) rfl (by rw [hA,hV,hsc.2]) .n)):SelR _ _ _)
end Go.Proofs.YtjcpbhlijoigfaaGreat.Sp
namespace Go.Proofs.YtjcpbhlijoigfaaGreat.Sp
open Go
set_option linter.unusedVariables false
set_option maxRecDepth 100000
set_option maxHeartbeats 8000000
theorem zEe {a:Nat} {b:Nat} {p1:Option Addr} {c1:Nat} {p2:Option Addr} {c2:Nat} (hb1:(yd a).length≤1099511627776) (hb2:(yd b).length≤1099511627776) (hb0:0<b):Con yj 155 [.slice p1 ((yd a).length) c1,.slice p2 ((yd b).length) c2] [] [slF (rI .u32) p1 c1 (yd a),slF (rI .u32) p2 c2 (yd b)] (Y:=(Option Addr)×Nat×(Option Addr)×Nat) (fun y=>True) (fun y=> .tuple #[.slice (y.1) ((yd (a / b)).length) (y.2.1),.slice (y.2.2.1) ((yd (a%b)).length) (y.2.2.2)]) (fun y=>[]) (fun y=>[slF (rI .u32) (y.1) (y.2.1) (yd (a / b)),slF (rI .u32) (y.2.2.1) (y.2.2.2) (yd (a%b))]):=by
 refine zm Tryz.func155 rfl rfl rfl (fun c=> ?_)
 show RunC _ _ _ _ _ [(0,.slice p1 ((yd a).length) c1),(1,.slice p2 ((yd b).length) c2)] [] [slF (rI .u32) p1 c1 (yd a),slF (rI .u32) p2 c2 (yd b)]
 refine zba 0 rfl (fun hL0=> ?_)
 refine zba 1 rfl (fun hL1=> ?_)
 have hd1:=Nat.div_le_self a b
 have hd2:=Nat.mod_le a b
 have hob:=ym (yo b) 0
 refine zg<|za<|e_p (zb rfl)<|e_p (zb rfl)<|zh<|zd<|zg<|zg<|za<|e_mv rfl<|e_mv rfl<|zL rfl rfl (.c rfl (.c rfl .n)) ce136 (zec (a:=a) (b:=b) (p1:=p1) (c1:=c1) (p2:=p2) (c2:=c2)) (.c (j:=0) rfl (.c (j:=1) rfl .n))<|e_p (zY rfl rfl)<|zh<|zd<|zC rfl (fun hlt=> ?_) (fun hlt=> ?_)
 ·
  have hab9:¬(b:Int)≤a:=fun h=>by have:=Big.cmp_ge.2 h;omega
  have hab:a<b:=by omega
  refine zg<|za<|e_mv rfl<|e_p (zb rfl)<|e_p (zb rfl)<|zh<|zd<|zH<|zi ?_
  have hz1:a / b=0:=Nat.div_eq_of_lt hab
  have hz2:a%b=a:=Nat.mod_eq_of_lt hab
  refine zJd (rI .u32) ?_
  exact zra yE (none,0,p1,c1) trivial (zl rfl) (zl rfl) (by rw [hz1,hz2];rfl) (ho:=(.n:PickO _ _ _)) ((.e (j:=0) rfl (by rw [hz1];rfl) (.e (j:=1) rfl (by rw [hz2]) .n)):SelR _ _ _)
 ·
  have hab:b≤a:=by have h9:=Big.cmp_ge.1 (by omega:0≤yC (a:Int) (b:Int));omega
  refine zA<|zd<|zg<|za<|e_mv rfl<|zL rfl rfl (.c rfl .n) ce154 (zMc (a:=a) (p:=p1) (cap:=c1)) (.c (j:=0) rfl .n)<|e_mv rfl<|e_p (zr rfl rfl)<|e_p (zr rfl rfl)<|e_p (zb rfl)<|e_p (zb rfl)<|zh<|zd<|zg<|za<|e_mv rfl<|zL rfl rfl (.c rfl .n) ce154 (zMc (a:=b) (p:=p2) (cap:=c2)) (.c (j:=1) rfl .n)<|e_mv rfl<|e_p (zr rfl rfl)<|e_p (zr rfl rfl)<|e_p (zb rfl)<|e_p (zb rfl)<|zh<|zd<|zg<|zEa (X:=Unit) (fun x=>True) (fun x=>[(30,.bool (decide (((yd a).length≤2)∧((yd b).length≤2)))),(8,.int .u64 (((if (yd b).length≤2 then b else 0):Nat):Int)),(6,.int .u64 (((if (yd a).length≤2 then a else 0):Nat):Int)),(5,.slice none 0 0),(4,.slice none 0 0),(0,.slice p1 ((yd a).length) c1),(1,.slice p2 ((yd b).length) c2)]) (fun x=>[]) (fun x=>[slF (rI .u32) p1 c1 (yd a),slF (rI .u32) p2 c2 (yd b)]) ?_ ?_
  ·
   refine za<|e_mv rfl<|zaa rfl rfl (zX rfl) (fun h1=> ?_) (fun h1=> ?_)
   ·
    refine e_mv rfl<|e_p (zo rfl rfl)<|zh ?_
    exact zga () (show True from by first|trivial|omega|simp_all) ((.e rfl (congrArg Value.bool cbu) (.of rfl)):SubM _ _) (ho:=(.n:PickO _ _ _)) ((.of [0,1] rfl):SelR _ _ _)
   ·
    refine e_no<|e_p (zo rfl rfl)<|zh ?_
    exact zga () (show True from by first|trivial|omega|simp_all) ((.e rfl (congrArg Value.bool cbu) (.of rfl)):SubM _ _) (ho:=(.n:PickO _ _ _)) ((.of [0,1] rfl):SelR _ _ _)
  ·
   rintro ⟨⟩ -
   try dsimp only
   refine zC rfl (fun hw=> ?_) (fun hw=> ?_)
   ·
    have ha18:=yO hw.1
    have hb18:=yO hw.2
    have hdn0:(0:Int)≤(a:Int) / (b:Int):=Int.ediv_nonneg om om
    have hdn1:(a:Int) / (b:Int)≤a:=Int.ediv_le_self _ om
    have hdm0:(0:Int)≤(a:Int)%(b:Int):=Int.emod_nonneg _ om
    have hdm1:(a:Int)%(b:Int)<b:=Int.emod_lt_of_pos _ om
    refine zg ?_
    have e2:(if (yd a).length≤2 then a else 0)=a:=by rw [if_pos hw.1]
    rw [e2]
    have e3:(if (yd b).length≤2 then b else 0)=b:=by rw [if_pos hw.2]
    rw [e3]
    refine zW (OW:=[]) (O:=[]) 100000 mixed (.then (.then .ret)) kr<|e_dm 0 rfl rfl rfl<|e_dm 1 rfl rfl rfl<|e_pv 2 rfl rfl (zhb (z:=(((a / b):Nat):Int)) rfl rfl om (by rw [quoN (z:=(((a / b):Nat):Int)) om om];exact wu64 om))<|e_dm 4 rfl rfl rfl<|e_dm 5 rfl rfl rfl<|e_pv 6 rfl rfl (zwa (z:=(((a%b):Nat):Int)) rfl rfl om (remN om om))<|e_one 3 (zw rfl rfl rfl rfl (.c rfl .n) ce115 (zzb (n0:=(a / b)) (hn0:=cbo)) (.n) ?_)
    rintro ⟨p24,c25⟩ -
    dsimp only [aq,nq,cq]
    refine e_one 7 (zw rfl rfl rfl rfl (.c rfl .n) ce115 (zzb (n0:=(a%b)) (hn0:=cbo)) (.n) ?_)
    rintro ⟨p26,c27⟩ -
    dsimp only [aq,nq,cq]
    refine e_pv 8 rfl rfl (zb rfl)<|e_pv 9 rfl rfl (zb rfl)<|zT kr<|zd<|zH<|zi ?_
    exact zra yE (p24,c25,p26,c27) trivial (zl rfl) (zl rfl) rfl (ho:=(.n:PickO _ _ _)) ((.of [1,0] rfl):SelR _ _ _)
   ·
    refine zA<|zd<|zg<|zg<|za<|e_mv rfl<|e_p (zN ye rfl)<|e_p (zua rfl rfl)<|zh<|zd<|zC rfl (fun hl1=> ?_) (fun hl1=> ?_)
    ·
     have hbd:=Big.one_digit (by omega:(yd b).length=1)
     have hln0:=Big.zsf hb0
     have hmlt:=Nat.mod_lt a hb0
     have hdm0:(0:Int)≤(a:Int)%(b:Int):=Int.emod_nonneg _ om
     have hdm1:(a:Int)%(b:Int)<b:=Int.emod_lt_of_pos _ om
     refine zg<|za<|e_mv rfl<|e_mv rfl<|zP (x0:=((yd b).getD 0 0)) 1 0 rfl ye sz121 rfl rfl rfl (by first|rfl|assumption|(simp;done)|omega) rfl rfl (gD (d:=0) om) (fun b8 o9 hok10=> ?_)
     replace hok10:=zG.1 hok10
     refine e_ru (zx (j:=0) 0 ty121 rfl rfl rfl rfl) ?_
     have e11:(((yd b).getD 0 0):Int)=((b:Nat):Int):=by exact hbd
     rw [e11]
     refine zE rfl rfl (.c rfl (.c rfl .n)) ce160 (zSd (a:=a) (mm:=b) (p:=p1) (cap:=c1) (hb:=ass) (hm0:=ass) (hm1:=cbo)) (.c (j:=1) rfl .n) ?_
     rintro ⟨p212,c213⟩ -
     dsimp only [aq,nq,cq]
     refine e_mv rfl<|e_p (zr rfl rfl)<|e_p (zr rfl rfl)<|e_p (zb rfl)<|e_p (zb rfl)<|zh<|zd<|zg<|za<|e_mv rfl<|e_mv rfl<|e_p (zK (z:=(((a%b):Nat):Int)) rfl (by rw [yg];rfl) yh (wu64 om))<|zE rfl rfl (.c rfl .n) ce115 (zzb (n0:=(a%b)) (hn0:=cbo)) (.n) ?_
     rintro ⟨p214,c215⟩ -
     dsimp only [aq,nq,cq]
     refine e_p (zb rfl)<|e_p (zb rfl)<|zh<|zd<|zH<|zi ?_
     exact zra yE (p212,c213,p214,c215) trivial (zl rfl) (zl rfl) rfl (ho:=(.n:PickO _ _ _)) ((.of [1,0] rfl):SelR _ _ _)
    ·
     have hln0:=Big.zsf hb0
     refine zA<|zd<|zg<|za<|e_mv rfl<|e_mv rfl<|zE rfl rfl (.c rfl (.c rfl .n)) ce161 (zjg (a:=a) (b:=b) (p1:=p1) (c1:=c1) (p2:=p2) (c2:=c2) (hb1:=ass) (hb2:=ass) (hb3:=cbo) (hab:=cbo)) (.c (j:=0) rfl (.c (j:=1) rfl .n)) ?_
     rintro ⟨p316,c317,p418,c419⟩ -
     dsimp only [aq,nq,cq]
     refine e_p (zr rfl rfl)<|e_p (zr rfl rfl)<|e_p (zb rfl)<|e_p (zb rfl)<|zh<|zd<|zH ?_
     exact zra yE (p316,c317,p418,c419) trivial (zl rfl) (zl rfl) rfl (ho:=(.n:PickO _ _ _)) ((.of [0,1] rfl):SelR _ _ _)
theorem zHf {s:Bool} {p1:Option Addr} {n1:Nat} {c1:Nat} {l1:List Int} {t:Bool} {p2:Option Addr} {n2:Nat} {c2:Nat} {l2:List Int} (hn1:l1.length=n1) (hn2:l2.length=n2) (hb1:yt (yk s l1)≤1099511627776) (hb2:yt (yk t l2)≤1099511627776):Con yj 140 [.agg #[.bool s,.slice p1 n1 c1],.agg #[.bool t,.slice p2 n2 c2]] [] [slF (rI .u32) p1 c1 l1,slF (rI .u32) p2 c2 l2] (Y:=(Option Addr)×Nat) (fun y=>True) (fun y=> .agg #[.bool (decide (((Nat.gcd (yk s l1).natAbs (yk t l2).natAbs:Nat):Int)<0)),.slice (y.1) ((yd (((Nat.gcd (yk s l1).natAbs (yk t l2).natAbs:Nat):Int).natAbs)).length) (y.2)]) (fun y=>[]) (fun y=>[slF (rI .u32) (y.1) (y.2) (yd (((Nat.gcd (yk s l1).natAbs (yk t l2).natAbs:Nat):Int).natAbs))]):=by
 refine zm Tryz.func140 rfl rfl rfl (fun c=> ?_)
 show RunC _ _ _ _ _ [(0,.agg #[.bool s,.slice p1 n1 c1]),(1,.agg #[.bool t,.slice p2 n2 c2])] [] [slF (rI .u32) p1 c1 l1,slF (rI .u32) p2 c2 l2]
 refine zba 0 rfl (fun hL0=> ?_)
 refine zSa 0 rfl (fun hE0=> ?_)
 refine zba 1 rfl (fun hL1=> ?_)
 refine zSa 1 rfl (fun hE1=> ?_)
 have hnn1:yG l1:=fun g hg=>(zG.1 (hE0 g hg)).1
 have hnn2:yG l2:=fun g hg=>(zG.1 (hE1 g hg)).1
 obtain ⟨x1,hx1⟩:∃z,z=yk s l1:=⟨_,rfl⟩
 obtain ⟨x2,hx2⟩:∃z,z=yk t l2:=⟨_,rfl⟩
 unfold yt at hb1 hb2
 refine zg<|za<|zM rfl rfl (zR rfl rfl) (fun b1=> ?_)
 refine zM rfl rfl (zR rfl rfl) (fun b2=> ?_)
 refine zM rfl rfl (zn zr41 rfl) (fun b3=> ?_)
 refine zh<|zd<|zg<|zW (OW:=[]) (O:=[boxA b3 41 [wz.b,wz.l],boxA b2 41 [.bool t,.slice p2 n2 c2],boxA b1 41 [.bool s,.slice p1 n1 c1]]) 100000 mixed (.then .ret) kr<|e_u 0 rfl rfl (zc 2 ty41 rfl rfl (.t2 .nil))<|e_u 2 rfl rfl (zc 1 ty41 rfl rfl (.t2 .nil))<|e_one 1 (zw rfl rfl rfl rfl (.c rfl .n) ce117 (zOa (s:=s) (p:=p1) (n:=n1) (cap:=c1) (l:=l1) (hn:=ass)) (.c (j:=0) rfl .n) ?_)
 rintro ⟨p24,c25⟩ -
 dsimp only [aq,nq,cq]
 refine e_one 3 (zw rfl rfl rfl rfl (.c rfl .n) ce117 (zOa (s:=t) (p:=p2) (n:=n2) (cap:=c2) (l:=l2) (hn:=ass)) (.c (j:=2) rfl .n) ?_)
 rintro ⟨p26,c27⟩ -
 dsimp only [aq,nq,cq]
 refine e_pv 4 rfl rfl (zb rfl)<|e_pv 5 rfl rfl (zb rfl)<|zT kr<|zd<|zg<|zB<|zka (X:=Nat×Nat×(Option Addr)×Nat×(Option Addr)×Nat) (fun x:Nat×Nat×(Option Addr)×Nat×(Option Addr)×Nat=>Nat.gcd x.1 x.2.1=Nat.gcd (yk s l1).natAbs (yk t l2).natAbs∧(yd x.1).length≤1099511627776∧(yd x.2.1).length≤1099511627776) (fun x=>[(6,.slice (x.2.2.2.2.1) ((yd (x.2.1)).length) (x.2.2.2.2.2)),(5,.slice (x.2.2.1) ((yd (x.1)).length) (x.2.2.2.1)),(4,yc (some ⟨b3,0,none⟩))]) (fun x=>[boxA b3 41 [wz.b,wz.l],boxA b2 41 [.bool t,.slice p2 n2 c2],boxA b1 41 [.bool s,.slice p1 n1 c1]]) (fun x=>[slF (rI .u32) (x.2.2.1) (x.2.2.2.1) (yd (x.1)),slF (rI .u32) (x.2.2.2.2.1) (x.2.2.2.2.2) (yd (x.2.1)),slF (rI .u32) p26 c27 (yd ((yk t l2).natAbs)),slF (rI .u32) p24 c25 (yd ((yk s l1).natAbs)),slF (rI .u32) p1 c1 l1,slF (rI .u32) p2 c2 l2]) (fun x:Nat×Nat×(Option Addr)×Nat×(Option Addr)×Nat=>x.2.1) ((yk s l1).natAbs,(yk t l2).natAbs,p24,c25,p26,c27) (show Nat.gcd ((yk s l1).natAbs) ((yk t l2).natAbs)=Nat.gcd (yk s l1).natAbs (yk t l2).natAbs∧(yd ((yk s l1).natAbs)).length≤1099511627776∧(yd ((yk t l2).natAbs)).length≤1099511627776 from by exact ⟨rfl,hb1,hb2⟩) ((.of rfl):SubM _ _) (ho:=((.of [0,0,0] rfl):PickO _ _ _)) ((.of [1,0,0,1,2,3] rfl):SelR _ _ _) ?_
 rintro ⟨a,b,pa,ca,pb,cb⟩ hI
 replace hI:Nat.gcd a b=Nat.gcd (yk s l1).natAbs (yk t l2).natAbs∧(yd a).length≤1099511627776∧(yd b).length≤1099511627776:=hI
 try dsimp only
 obtain ⟨hgc,hba,hbb⟩:=hI
 refine zg<|zg<|za<|e_mv rfl<|e_p (zN ye rfl)<|e_p (zAa rfl rfl)<|zh<|zd<|zC rfl (fun hne=> ?_) (fun hne=> ?_)
 ·
  have hb0:0<b:=Nat.pos_of_ne_zero (fun e=>by rw [e] at hne;simp [Big.digs_zero] at hne)
  refine zA<|zd<|zB<|zg<|za<|e_mv rfl<|zL rfl rfl (.c rfl .n) ce154 (zMc (a:=a) (p:=pa) (cap:=ca)) (.c (j:=0) rfl .n)<|e_mv rfl<|e_p (zr rfl rfl)<|e_p (zr rfl rfl)<|e_p (zb rfl)<|e_p (zb rfl)<|zh<|zd<|zg<|za<|e_mv rfl<|zL rfl rfl (.c rfl .n) ce154 (zMc (a:=b) (p:=pb) (cap:=cb)) (.c (j:=1) rfl .n)<|e_mv rfl<|e_p (zr rfl rfl)<|e_p (zr rfl rfl)<|e_p (zb rfl)<|e_p (zb rfl)<|zh<|zd<|zg<|zEa (X:=Unit) (fun x=>True) (fun x=>[(33,.bool (decide (((yd a).length≤2)∧((yd b).length≤2)))),(9,.int .u64 (((if (yd b).length≤2 then b else 0):Nat):Int)),(7,.int .u64 (((if (yd a).length≤2 then a else 0):Nat):Int)),(6,.slice pb ((yd b).length) cb),(5,.slice pa ((yd a).length) ca),(4,yc (some ⟨b3,0,none⟩))]) (fun x=>[boxA b3 41 [wz.b,wz.l],boxA b2 41 [.bool t,.slice p2 n2 c2],boxA b1 41 [.bool s,.slice p1 n1 c1]]) (fun x=>[slF (rI .u32) pa ca (yd a),slF (rI .u32) pb cb (yd b),slF (rI .u32) p26 c27 (yd ((yk t l2).natAbs)),slF (rI .u32) p24 c25 (yd ((yk s l1).natAbs)),slF (rI .u32) p1 c1 l1,slF (rI .u32) p2 c2 l2]) ?_ ?_
  ·
   refine za<|e_mv rfl<|zaa rfl rfl (zX rfl) (fun hw1=> ?_) (fun hw1=> ?_)
   ·
    refine e_mv rfl<|e_p (zo rfl rfl)<|zh ?_
    exact zga () (show True from by first|trivial|omega|simp_all) ((.e rfl (congrArg Value.bool cbu) (.of rfl)):SubM _ _) (ho:=((.of [0,0,0] rfl):PickO _ _ _)) ((.of [0,1,2,3,4,5] rfl):SelR _ _ _)
   ·
    refine e_no<|e_p (zo rfl rfl)<|zh ?_
    exact zga () (show True from by first|trivial|omega|simp_all) ((.e rfl (congrArg Value.bool cbu) (.of rfl)):SubM _ _) (ho:=((.of [0,0,0] rfl):PickO _ _ _)) ((.of [0,1,2,3,4,5] rfl):SelR _ _ _)
  ·
   rintro ⟨⟩ -
   try dsimp only
   refine zC rfl (fun hw=> ?_) (fun hw=> ?_)
   ·
    have ha18:=yO hw.1
    have hb18:=yO hw.2
    have e8:(if (yd a).length≤2 then a else 0)=a:=by rw [if_pos hw.1]
    rw [e8]
    have e9:(if (yd b).length≤2 then b else 0)=b:=by rw [if_pos hw.2]
    rw [e9]
    refine zg<|zB<|zka (X:=Nat×Nat) (fun x:Nat×Nat=>Nat.gcd x.1 x.2=Nat.gcd a b∧x.1<1000000000000000000∧x.2<1000000000000000000) (fun x=>[(9,.int .u64 ((x.2:Nat):Int)),(7,.int .u64 ((x.1:Nat):Int)),(6,.slice pb ((yd b).length) cb),(5,.slice pa ((yd a).length) ca),(4,yc (some ⟨b3,0,none⟩))]) (fun x=>[boxA b3 41 [wz.b,wz.l],boxA b2 41 [.bool t,.slice p2 n2 c2],boxA b1 41 [.bool s,.slice p1 n1 c1]]) (fun x=>[slF (rI .u32) pa ca (yd a),slF (rI .u32) pb cb (yd b),slF (rI .u32) p26 c27 (yd ((yk t l2).natAbs)),slF (rI .u32) p24 c25 (yd ((yk s l1).natAbs)),slF (rI .u32) p1 c1 l1,slF (rI .u32) p2 c2 l2]) (fun x:Nat×Nat=>x.2) (a,b) (show Nat.gcd a b=Nat.gcd a b∧a<1000000000000000000∧b<1000000000000000000 from by exact ⟨rfl,ha18,hb18⟩) ((.of rfl):SubM _ _) (ho:=((.of [0,0,0] rfl):PickO _ _ _)) ((.of [0,1,2,3,4,5] rfl):SelR _ _ _) ?_
    rintro ⟨q,r⟩ hJ
    replace hJ:Nat.gcd q r=Nat.gcd a b∧q<1000000000000000000∧r<1000000000000000000:=hJ
    try dsimp only
    obtain ⟨hgq,hq18,hr18⟩:=hJ
    have hmr:=Nat.mod_le q r
    refine zg<|zg<|za<|e_mv rfl<|e_p (zAa rfl rfl)<|zh<|zd<|zC rfl (fun hy=> ?_) (fun hy=> ?_)
    ·
     refine zA<|zd<|zB<|zW (OW:=[]) (O:=[boxA b3 41 [wz.b,wz.l],boxA b2 41 [.bool t,.slice p2 n2 c2],boxA b1 41 [.bool s,.slice p1 n1 c1]]) 100000 mixed (.block (.then (.block (.then (.then (.block (.then (.block (.then .ret))))))))) kr<|e_dm 0 rfl rfl rfl<|e_dm 1 rfl rfl rfl<|e_dm 2 rfl rfl rfl<|e_pv 3 rfl rfl (zwa (z:=(((q%r):Nat):Int)) rfl rfl om (remN om om))<|e_pv 4 rfl rfl (zb rfl)<|e_pv 5 rfl rfl (zb rfl)<|zT kr<|zO<|zda (r,(q%r)) (show Nat.gcd r (q%r)=Nat.gcd a b∧r<1000000000000000000∧(q%r)<1000000000000000000 from by exact ⟨by rw [Big.gcd_rest,hgq],hr18,by omega⟩) (by exact Nat.mod_lt q om) ((.of rfl):SubM _ _) (ho:=((.of [0,0,0] rfl):PickO _ _ _)) ((.of [0,1,2,3,4,5] rfl):SelR _ _ _)
    ·
     have hrz:r=0:=by omega
     have hfin:q=Nat.gcd (yk s l1).natAbs (yk t l2).natAbs:=by rw [← hgc,←hgq,hrz,Nat.gcd_zero_right]
     refine zja<|zj<|zj<|zt<|zd<|zg<|za<|e_mv rfl<|zE rfl rfl (.c rfl .n) ce115 (zzb (n0:=q) (hn0:=cbo)) (.n) ?_
     rintro ⟨p210,c211⟩ -
     dsimp only [aq,nq,cq]
     refine zE rfl rfl (.c rfl (.c rfl .n)) ce114 (zCa (s:=false) (a:=q) (p:=p210) (cap:=c211)) (.c (j:=0) rfl .n) ?_
     rintro ⟨p212,c213⟩ -
     dsimp only [aq,nq,cq]
     refine zk 0 rfl rfl rfl rfl rfl sz41 rfl (.t2 .nil) .z<|zh<|zd<|zH<|zi<|zp<|zi<|zp<|zi ?_
     exact zy Tryz.results140 (p212,c213) trivial (zu 0 ty41 rfl rfl (.t2 .nil)) (by rw [← hfin];rfl) (ho:=(.n:PickO _ _ _)) ((.e (j:=0) rfl (by rw [← hfin];rfl) .n):SelR _ _ _)
   ·
    refine zA<|zd<|zg<|za<|e_mv rfl<|e_mv rfl<|zE rfl rfl (.c rfl (.c rfl .n)) ce155 (zEe (a:=a) (b:=b) (p1:=pa) (c1:=ca) (p2:=pb) (c2:=cb) (hb1:=cbo) (hb2:=cbo) (hb0:=cbo)) (.c (j:=0) rfl (.c (j:=1) rfl .n)) ?_
    rintro ⟨p314,c315,p416,c417⟩ -
    dsimp only [aq,nq,cq]
    refine e_mv rfl<|e_p (zr rfl rfl)<|e_p (zr rfl rfl)<|e_p (zb rfl)<|e_p (zb rfl)<|zh<|zd<|za<|e_mv rfl<|e_mv rfl<|e_p (zb rfl)<|e_p (zb rfl)<|zh<|zO<|zda (b,(a%b),pb,cb,p416,c417) (show Nat.gcd b (a%b)=Nat.gcd (yk s l1).natAbs (yk t l2).natAbs∧(yd b).length≤1099511627776∧(yd (a%b)).length≤1099511627776 from by exact ⟨by rw [Big.gcd_rest,hgc],hbb,Nat.le_trans (yH (Nat.le_of_lt (Nat.mod_lt a hb0))) hbb⟩) (by exact Nat.mod_lt a hb0) ((.e rfl (by first|rfl|(congr 1;omega)|simp_all) (.c rfl (.c rfl .n))):SubM _ _) (ho:=((.of [0,0,0] rfl):PickO _ _ _)) ((.c (j:=3) rfl (.e (j:=1) rfl (by first|rfl|simp_all) (.of [4,5,6,7] rfl))):SelR _ _ _)
 ·
  have hbz:b=0:=yB.1 om
  have hfin:a=Nat.gcd (yk s l1).natAbs (yk t l2).natAbs:=by rw [← hgc,hbz,Nat.gcd_zero_right]
  refine zja<|zj<|zj<|zt<|zd<|zg<|za<|e_mv rfl<|zE rfl rfl (.c rfl .n) ce153 (zzd (a:=a) (p:=pa) (cap:=ca) (hb:=cbo)) (.c (j:=0) rfl .n) ?_
  rintro ⟨p218,c219⟩ -
  dsimp only [aq,nq,cq]
  refine zE rfl rfl (.c rfl (.c rfl .n)) ce114 (zCa (s:=false) (a:=a) (p:=p218) (cap:=c219)) (.c (j:=0) rfl .n) ?_
  rintro ⟨p220,c221⟩ -
  dsimp only [aq,nq,cq]
  refine zk 0 rfl rfl rfl rfl rfl sz41 rfl (.t2 .nil) .z<|zh<|zd<|zH ?_
  exact zy Tryz.results140 (p220,c221) trivial (zu 0 ty41 rfl rfl (.t2 .nil)) (by rw [← hfin];rfl) (ho:=(.n:PickO _ _ _)) ((.e (j:=0) rfl (by rw [← hfin];rfl) .n):SelR _ _ _)
theorem zkg {x1:Int} {x2:Int} {p1:Option Addr} {c1:Nat} {p2:Option Addr} {c2:Nat} (hb1:yt x1≤1099511627776) (hb2:yt x2≤1099511627776):Con yj 140 [.agg #[.bool (decide ((x1)<0)),.slice (p1) ((yd ((x1).natAbs)).length) (c1)],.agg #[.bool (decide ((x2)<0)),.slice (p2) ((yd ((x2).natAbs)).length) (c2)]] [] [slF (rI .u32) (p1) (c1) (yd ((x1).natAbs)),slF (rI .u32) (p2) (c2) (yd ((x2).natAbs))] (Y:=(Option Addr)×(Nat)) (fun y=>True) (fun y=> .agg #[.bool (decide ((((Nat.gcd x1.natAbs x2.natAbs:Nat):Int))<0)),.slice (y.1) ((yd ((((Nat.gcd x1.natAbs x2.natAbs:Nat):Int)).natAbs)).length) (y.2)]) (fun y=>[]) (fun y=>[slF (rI .u32) (y.1) (y.2) (yd ((((Nat.gcd x1.natAbs x2.natAbs:Nat):Int)).natAbs))]):=by
  have h:= @zHf (decide ((x1)<0)) p1 (yd (x1).natAbs).length c1 (yd (x1).natAbs) (decide ((x2)<0)) p2 (yd (x2).natAbs).length c2 (yd (x2).natAbs) rfl rfl (by rw [yq];exact hb1) (by rw [yq];exact hb2)
  rw [yq,yq] at h
  exact h
theorem zFe {w1:Wd} {w2:Wd} {x1:Int} {x2:Int} (hb1:yt x1≤1099511627776) (hb2:yt x2≤1099511627776):Con yj 140 [.agg #[w1.b,w1.l],.agg #[w2.b,w2.l]] [] [zF w1 (x1),zF w2 (x2)] (Y:=(Wd)) (fun y=>True) (fun y=> .agg #[y.b,y.l]) (fun y=>[]) (fun y=>[zF y (((Nat.gcd x1.natAbs x2.natAbs:Nat):Int))]):=by
  exact zYb (zIc (fun p1 c1 p2 c2=>zkg hb1 hb2))
end Go.Proofs.YtjcpbhlijoigfaaGreat.Sp
namespace Go.Proofs.YtjcpbhlijoigfaaGreat.Sp
open Go
set_option linter.unusedVariables false
set_option maxRecDepth 100000
set_option maxHeartbeats 8000000
theorem zne {x1:Int} {x2:Int} {p1:Option Addr} {c1:Nat} {p2:Option Addr} {c2:Nat} (hb1:yt x1≤1099511627776) (hb2:yt x2≤1099511627776) (hy:x2≠0):Con yj 141 [.agg #[.bool (decide (x1<0)),.slice p1 ((yd ((x1).natAbs)).length) c1],.agg #[.bool (decide (x2<0)),.slice p2 ((yd ((x2).natAbs)).length) c2]] [] [slF (rI .u32) p1 c1 (yd ((x1).natAbs)),slF (rI .u32) p2 c2 (yd ((x2).natAbs))] (Y:=(Option Addr)×Nat×(Option Addr)×Nat) (fun y=>True) (fun y=> .tuple #[.agg #[.bool (decide ((Big.fq x1 x2)<0)),.slice (y.1) ((yd ((Big.fq x1 x2).natAbs)).length) (y.2.1)],.agg #[.bool (decide ((Big.fr x1 x2)<0)),.slice (y.2.2.1) ((yd ((Big.fr x1 x2).natAbs)).length) (y.2.2.2)],ya yb 0]) (fun y=>[]) (fun y=>[slF (rI .u32) (y.1) (y.2.1) (yd ((Big.fq x1 x2).natAbs)),slF (rI .u32) (y.2.2.1) (y.2.2.2) (yd ((Big.fr x1 x2).natAbs))]):=by
 refine zm Tryz.func141 rfl rfl rfl (fun c=> ?_)
 show RunC _ _ _ _ _ [(0,.agg #[.bool (decide (x1<0)),.slice p1 ((yd ((x1).natAbs)).length) c1]),(1,.agg #[.bool (decide (x2<0)),.slice p2 ((yd ((x2).natAbs)).length) c2])] [] [slF (rI .u32) p1 c1 (yd ((x1).natAbs)),slF (rI .u32) p2 c2 (yd ((x2).natAbs))]
 refine zba 0 rfl (fun hL0=> ?_)
 refine zba 1 rfl (fun hL1=> ?_)
 unfold yt at hb1 hb2
 have hd1:=Nat.div_le_self x1.natAbs x2.natAbs
 have hd2:=Nat.mod_lt x1.natAbs (show 0<x2.natAbs by omega)
 have hl1:=yH hd1
 have hl2:=yH (Nat.le_of_lt hd2)
 refine zg<|za<|zM rfl rfl (zR rfl rfl) (fun b1=> ?_)
 refine zM rfl rfl (zR rfl rfl) (fun b2=> ?_)
 refine zM rfl rfl (zn zr41 rfl) (fun b3=> ?_)
 refine zM rfl rfl (zn zr41 rfl) (fun b4=> ?_)
 refine e_p (zb rfl)<|zh<|zd<|zg<|zW (OW:=[]) (O:=[boxA b4 41 [wz.b,wz.l],boxA b3 41 [wz.b,wz.l],boxA b2 41 [.bool (decide (x2<0)),.slice p2 ((yd ((x2).natAbs)).length) c2],boxA b1 41 [.bool (decide (x1<0)),.slice p1 ((yd ((x1).natAbs)).length) c1]]) 100000 mixed (.then .ret) kr<|e_u 0 rfl rfl (zc 3 ty41 rfl rfl (.t2 .nil))<|e_u 2 rfl rfl (zc 2 ty41 rfl rfl (.t2 .nil))<|e_one 1 (zw rfl rfl rfl rfl (.c rfl .n) ce117 (zFb (z:=x1) (p:=p1) (cap:=c1)) (.c (j:=0) rfl .n) ?_)
 rintro ⟨p25,c26⟩ -
 dsimp only [aq,nq,cq]
 refine e_one 3 (zw rfl rfl rfl rfl (.c rfl .n) ce117 (zFb (z:=x2) (p:=p2) (cap:=c2)) (.c (j:=2) rfl .n) ?_)
 rintro ⟨p27,c28⟩ -
 dsimp only [aq,nq,cq]
 refine e_pv 4 rfl rfl (zb rfl)<|e_pv 5 rfl rfl (zb rfl)<|zT kr<|zd<|zg<|zg<|za<|e_mv rfl<|e_p (zN ye rfl)<|e_p (zua rfl rfl)<|zh<|zd<|zC rfl (fun h9=> ?_) (fun h9=> ?_)
 ·
  exact absurd (yB.1 (show (yd x2.natAbs).length=0 by omega)) om
 ·
  refine zA<|zd<|zg<|za<|e_mv rfl<|e_mv rfl<|zE rfl rfl (.c rfl (.c rfl .n)) ce155 (zEe (a:=(x1).natAbs) (b:=(x2).natAbs) (p1:=p25) (c1:=c26) (p2:=p27) (c2:=c28) (hb1:=by first|rfl|assumption|omega|(decide +kernel)) (hb2:=by first|rfl|assumption|omega|(decide +kernel)) (hb0:=by first|rfl|assumption|omega|(decide +kernel))) (.c (j:=1) rfl (.c (j:=0) rfl .n)) ?_
  rintro ⟨p310,c311,p412,c413⟩ -
  dsimp only [aq,nq,cq]
  refine e_mv rfl<|e_p (zr rfl rfl)<|e_p (zr rfl rfl)<|e_p (zb rfl)<|e_p (zb rfl)<|zh<|zd<|zg<|za<|e_mv rfl<|zE rfl rfl (.c rfl .n) ce153 (zzd (a:=((x1).natAbs)%((x2).natAbs)) (p:=p412) (cap:=c413) (hb:=by first|rfl|assumption|omega|(decide +kernel))) (.c (j:=1) rfl .n) ?_
  rintro ⟨p214,c215⟩ -
  dsimp only [aq,nq,cq]
  refine e_p (zb rfl)<|zh<|zd<|zg<|zg<|za<|e_mv rfl<|e_p (zN ye rfl)<|e_p (zAa rfl rfl)<|zaa rfl rfl (zX rfl) (fun hpos=> ?_) (fun hpos=> ?_)
  ·
   refine e_p (ze yl rfl sz4 rfl rfl)<|e_ru (zf 3 ty4 rfl rfl rfl)<|e_p (ze yl rfl sz4 rfl rfl)<|e_ru (zf 2 ty4 rfl rfl rfl)<|e_p (zNa yy rfl rfl)<|e_p (zo rfl rfl)<|zh<|zd<|zC rfl (fun hadj=> ?_) (fun hadj=> ?_)
   ·
    have hsg:(decide (decide (x1<0)≠decide (x2<0)))=true:=decide_eq_true hadj
    have hr0:x1.natAbs%x2.natAbs≠0:=fun e=>by have h9:=hpos;rw [e,Big.digs_zero] at h9;exact absurd h9 dd
    refine za<|e_mv rfl<|zFa rfl rfl (zV (enc:=fun z:Int=>[.int .u32 z]) (ok:=InK .u32) (h1:=fun _=>rfl) (h2:=fun _=>rfl) (k:=1) ye inf121 rfl dd dd dd (.c (x:=1) rfl rfl (fun _ _=>by exact zG.2 om) .n)) (fun b16 _=> ?_)
    refine zma 0 rfl .z ?_
    have e17:[1]=yd 1:=by exact (Big.digs_one (s:=1) dd dd).symm
    rw [e17]
    have e18:(.slice (some ⟨b16,0,none⟩) 1 1:Value)= .slice (some ⟨b16,0,none⟩) ((yd 1).length) 1:=by rfl
    rw [e18]
    refine zE rfl rfl (.c rfl (.c rfl .n)) ce135 (zQd (a:=((x1).natAbs) / ((x2).natAbs)) (b:=1) (p1:=p310) (c1:=c311) (p2:=some ⟨b16,0,none⟩) (c2:=1) (hb1:=by first|rfl|assumption|omega|(decide +kernel)) (hb2:=by first|rfl|assumption|omega|(decide +kernel))) (.c (j:=2) rfl (.c (j:=0) rfl .n)) ?_
    rintro ⟨p319,c320⟩ -
    dsimp only [aq,nq,cq]
    refine e_mv rfl<|e_mv rfl<|zE rfl rfl (.c rfl (.c rfl .n)) ce137 (zXc (a:=(x2).natAbs) (b:=(((x1).natAbs)%((x2).natAbs))) (p1:=p27) (c1:=c28) (p2:=p214) (c2:=c215) (hb1:=by first|rfl|assumption|omega|(decide +kernel)) (hb2:=by first|rfl|assumption|omega|(decide +kernel)) (hab:=by first|rfl|assumption|omega|(decide +kernel))) (.c (j:=5) rfl (.c (j:=2) rfl .n)) ?_
    rintro ⟨p321,c322⟩ -
    dsimp only [aq,nq,cq]
    refine e_p (zb rfl)<|e_p (zb rfl)<|zh<|zd<|zg<|zqa (.c (i:=2) rfl (.c (i:=1) rfl (.c (i:=0) rfl (.c (i:=0) rfl (.c (i:=0) rfl .n)))))<|zW (OW:=[boxA b3 41 [wz.b,wz.l],boxA b4 41 [wz.b,wz.l]]) (O:=[emA,boxA b2 41 [.bool (decide (x2<0)),.slice p2 ((yd ((x2).natAbs)).length) c2],boxA b1 41 [.bool (decide (x1<0)),.slice p1 ((yd ((x1).natAbs)).length) c1]]) 11 mixed (.then .ret) kr<|e_pv 0 rfl rfl (ze yl rfl sz4 rfl rfl)<|e_uw 1 rfl rfl (zf 4 ty4 rfl rfl rfl)<|e_pv 2 rfl rfl (ze yl rfl sz4 rfl rfl)<|e_uw 3 rfl rfl (zf 3 ty4 rfl rfl rfl)<|e_pv 4 rfl rfl (zNa yy rfl rfl)<|e_dm 5 rfl rfl rfl<|e_pv 7 rfl rfl (ze yl rfl sz4 rfl rfl)<|e_uw 8 rfl rfl (zf 3 ty4 rfl rfl rfl)<|e_dm 9 rfl rfl rfl<|e_one 6 (zw rfl rfl rfl rfl (.c rfl (.c rfl .n)) ce114 (zCa (s:=decide (decide (x1<0)≠decide (x2<0))) (a:=(((x1).natAbs) / ((x2).natAbs))+1) (p:=p319) (cap:=c320)) (.c (j:=1) rfl .n) ?_)
    rintro ⟨p223,c224⟩ -
    dsimp only [aq,nq,cq]
    refine e_one 10 (zw rfl rfl rfl rfl (.c rfl (.c rfl .n)) ce114 (zCa (s:=decide (x2<0)) (a:=((x2).natAbs) - (((x1).natAbs)%((x2).natAbs))) (p:=p321) (cap:=c322)) (.c (j:=1) rfl .n) ?_)
    rintro ⟨p225,c226⟩ -
    dsimp only [aq,nq,cq]
    refine e_one 11 (zv kr rfl rfl rfl rfl rfl sz41 rfl (.t2 .nil) ?_)
    refine zQa (zca (i:=1) rfl)<|e_one 12 (zv kr rfl rfl rfl rfl rfl sz41 rfl (.t2 .nil) ?_)
    refine e_pv 13 rfl rfl (zb rfl)<|zT kr<|zd<|zH ?_
    have hz1:yu (decide (decide (x1<0)≠decide (x2<0))) ((x1.natAbs / x2.natAbs+1:Nat):Int)=Big.fq x1 x2:=by rw [hsg];exact (Big.fq_odd hy hadj hr0).1
    have hz2:yu (decide (x2<0)) ((x2.natAbs - x1.natAbs%x2.natAbs:Nat):Int)=Big.fr x1 x2:=(Big.fq_odd hy hadj hr0).2
    exact zgd Tryz.results141 (p223,c224,p225,c226) trivial (zu 1 ty41 rfl rfl (.t2 .nil)) (zu 0 ty41 rfl rfl (.t2 .nil)) (zl rfl) (by rw [hz1,hz2]) (ho:=(.n:PickO _ _ _)) ((.e (j:=1) rfl (by rw [hz1]) (.e (j:=0) rfl (by rw [hz2]) .n)):SelR _ _ _)
   ·
    refine zA<|zd<|zg<|zqa (.c (i:=1) rfl (.c (i:=0) rfl (.c (i:=0) rfl (.c (i:=0) rfl .n))))<|zW (OW:=[boxA b3 41 [wz.b,wz.l],boxA b4 41 [wz.b,wz.l]]) (O:=[boxA b2 41 [.bool (decide (x2<0)),.slice p2 ((yd ((x2).natAbs)).length) c2],boxA b1 41 [.bool (decide (x1<0)),.slice p1 ((yd ((x1).natAbs)).length) c1]]) 11 mixed (.then .ret) kr<|e_pv 0 rfl rfl (ze yl rfl sz4 rfl rfl)<|e_uw 1 rfl rfl (zf 3 ty4 rfl rfl rfl)<|e_pv 2 rfl rfl (ze yl rfl sz4 rfl rfl)<|e_uw 3 rfl rfl (zf 2 ty4 rfl rfl rfl)<|e_pv 4 rfl rfl (zNa yy rfl rfl)<|e_dm 5 rfl rfl rfl<|e_pv 7 rfl rfl (ze yl rfl sz4 rfl rfl)<|e_uw 8 rfl rfl (zf 2 ty4 rfl rfl rfl)<|e_dm 9 rfl rfl rfl<|e_one 6 (zw rfl rfl rfl rfl (.c rfl (.c rfl .n)) ce114 (zCa (s:=decide (decide (x1<0)≠decide (x2<0))) (a:=((x1).natAbs) / ((x2).natAbs)) (p:=p310) (cap:=c311)) (.c (j:=1) rfl .n) ?_)
    rintro ⟨p227,c228⟩ -
    dsimp only [aq,nq,cq]
    refine e_one 10 (zw rfl rfl rfl rfl (.c rfl (.c rfl .n)) ce114 (zCa (s:=decide (x2<0)) (a:=(((x1).natAbs)%((x2).natAbs))) (p:=p214) (cap:=c215)) (.c (j:=1) rfl .n) ?_)
    rintro ⟨p229,c230⟩ -
    dsimp only [aq,nq,cq]
    refine e_one 11 (zv kr rfl rfl rfl rfl rfl sz41 rfl (.t2 .nil) ?_)
    refine zQa (zca (i:=1) rfl)<|e_one 12 (zv kr rfl rfl rfl rfl rfl sz41 rfl (.t2 .nil) ?_)
    refine e_pv 13 rfl rfl (zb rfl)<|zT kr<|zd<|zH ?_
    have hsg:(decide (decide (x1<0)≠decide (x2<0)))=false:=decide_eq_false hadj
    have hz1:yu (decide (decide (x1<0)≠decide (x2<0))) ((x1.natAbs / x2.natAbs:Nat):Int)=Big.fq x1 x2:=by rw [hsg];exact (Big.fq_same hy (Decidable.not_not.1 hadj)).1
    have hz2:yu (decide (x2<0)) ((x1.natAbs%x2.natAbs:Nat):Int)=Big.fr x1 x2:=(Big.fq_same hy (Decidable.not_not.1 hadj)).2
    exact zgd Tryz.results141 (p227,c228,p229,c230) trivial (zu 1 ty41 rfl rfl (.t2 .nil)) (zu 0 ty41 rfl rfl (.t2 .nil)) (zl rfl) (by rw [hz1,hz2]) (ho:=(.n:PickO _ _ _)) ((.e (j:=1) rfl (by rw [hz1]) (.e (j:=0) rfl (by rw [hz2]) .n)):SelR _ _ _)
  ·
   refine e_no<|e_no<|e_no<|e_no<|e_no<|e_p (zo rfl rfl)<|zh<|zd<|zgb rfl rfl<|zA<|zd<|zg<|zqa (.c (i:=1) rfl (.c (i:=0) rfl (.c (i:=0) rfl (.c (i:=0) rfl .n))))<|zW (OW:=[boxA b3 41 [wz.b,wz.l],boxA b4 41 [wz.b,wz.l]]) (O:=[boxA b2 41 [.bool (decide (x2<0)),.slice p2 ((yd ((x2).natAbs)).length) c2],boxA b1 41 [.bool (decide (x1<0)),.slice p1 ((yd ((x1).natAbs)).length) c1]]) 11 mixed (.then .ret) kr<|e_pv 0 rfl rfl (ze yl rfl sz4 rfl rfl)<|e_uw 1 rfl rfl (zf 3 ty4 rfl rfl rfl)<|e_pv 2 rfl rfl (ze yl rfl sz4 rfl rfl)<|e_uw 3 rfl rfl (zf 2 ty4 rfl rfl rfl)<|e_pv 4 rfl rfl (zNa yy rfl rfl)<|e_dm 5 rfl rfl rfl<|e_pv 7 rfl rfl (ze yl rfl sz4 rfl rfl)<|e_uw 8 rfl rfl (zf 2 ty4 rfl rfl rfl)<|e_dm 9 rfl rfl rfl<|e_one 6 (zw rfl rfl rfl rfl (.c rfl (.c rfl .n)) ce114 (zCa (s:=decide (decide (x1<0)≠decide (x2<0))) (a:=((x1).natAbs) / ((x2).natAbs)) (p:=p310) (cap:=c311)) (.c (j:=1) rfl .n) ?_)
   rintro ⟨p231,c232⟩ -
   dsimp only [aq,nq,cq]
   refine e_one 10 (zw rfl rfl rfl rfl (.c rfl (.c rfl .n)) ce114 (zCa (s:=decide (x2<0)) (a:=(((x1).natAbs)%((x2).natAbs))) (p:=p214) (cap:=c215)) (.c (j:=1) rfl .n) ?_)
   rintro ⟨p233,c234⟩ -
   dsimp only [aq,nq,cq]
   refine e_one 11 (zv kr rfl rfl rfl rfl rfl sz41 rfl (.t2 .nil) ?_)
   refine zQa (zca (i:=1) rfl)<|e_one 12 (zv kr rfl rfl rfl rfl rfl sz41 rfl (.t2 .nil) ?_)
   refine e_pv 13 rfl rfl (zb rfl)<|zT kr<|zd<|zH ?_
   have hr0:x1.natAbs%x2.natAbs=0:=yB.1 om
   have hz:yu (decide (decide (x1<0)≠decide (x2<0))) ((x1.natAbs / x2.natAbs:Nat):Int)=Big.fq x1 x2∧yu (decide (x2<0)) ((x1.natAbs%x2.natAbs:Nat):Int)=Big.fr x1 x2:=by by_cases h:decide (x1<0)=decide (x2<0);rw [decide_eq_false (not_not_intro h)];exact Big.fq_same hy h;rw [decide_eq_true h];exact Big.fq_even hy h hr0
   exact zgd Tryz.results141 (p231,c232,p233,c234) trivial (zu 1 ty41 rfl rfl (.t2 .nil)) (zu 0 ty41 rfl rfl (.t2 .nil)) (zl rfl) (by rw [hz.1,hz.2]) (ho:=(.n:PickO _ _ _)) ((.e (j:=1) rfl (by rw [hz.1]) (.e (j:=0) rfl (by rw [hz.2]) .n)):SelR _ _ _)
theorem zGb {w1:Wd} {w2:Wd} {x1:Int} {x2:Int} (hb1:yt x1≤1099511627776) (hb2:yt x2≤1099511627776) (hy:x2≠0):Con yj 141 [.agg #[w1.b,w1.l],.agg #[w2.b,w2.l]] [] [zF w1 (x1),zF w2 (x2)] (Y:=(Wd)×(Wd)) (fun y=>True) (fun y=> .tuple #[.agg #[y.1.b,y.1.l],.agg #[y.2.b,y.2.l],ya yb (0)]) (fun y=>[]) (fun y=>[zF y.1 (Big.fq x1 x2),zF y.2 (Big.fr x1 x2)]):=by
  exact zuf (zIc (fun p1 c1 p2 c2=>zne hb1 hb2 hy))
theorem zTd {x1:Int} {x2:Int} {p1:Option Addr} {c1:Nat} {p2:Option Addr} {c2:Nat}:Con yj 142 [.agg #[.bool (decide (x1<0)),.slice p1 ((yd ((x1).natAbs)).length) c1],.agg #[.bool (decide (x2<0)),.slice p2 ((yd ((x2).natAbs)).length) c2]] [] [slF (rI .u32) p1 c1 (yd ((x1).natAbs)),slF (rI .u32) p2 c2 (yd ((x2).natAbs))] (Y:=Unit) (fun y=>True) (fun y=> ya yb (yC x1 x2)) (fun y=>[]) (fun y=>[]):=by
 refine zm Tryz.func142 rfl rfl rfl (fun c=> ?_)
 show RunC _ _ _ _ _ [(0,.agg #[.bool (decide (x1<0)),.slice p1 ((yd ((x1).natAbs)).length) c1]),(1,.agg #[.bool (decide (x2<0)),.slice p2 ((yd ((x2).natAbs)).length) c2])] [] [slF (rI .u32) p1 c1 (yd ((x1).natAbs)),slF (rI .u32) p2 c2 (yd ((x2).natAbs))]
 refine zba 0 rfl (fun hL0=> ?_)
 refine zba 1 rfl (fun hL1=> ?_)
 have hcb:=Big.cmp_b (x1.natAbs:Int) (x2.natAbs:Int)
 refine zg<|za<|zM rfl rfl (zR rfl rfl) (fun b1=> ?_)
 refine zM rfl rfl (zR rfl rfl) (fun b2=> ?_)
 refine e_p (zb rfl)<|zh<|zd<|zg<|zg<|zW (OW:=[]) (O:=[boxA b2 41 [.bool (decide (x2<0)),.slice p2 ((yd ((x2).natAbs)).length) c2],boxA b1 41 [.bool (decide (x1<0)),.slice p1 ((yd ((x1).natAbs)).length) c1]]) 100000 mixed (.then (.then .ret)) kr<|e_u 0 rfl rfl (zc 1 ty41 rfl rfl (.t2 .nil))<|e_u 2 rfl rfl (zc 0 ty41 rfl rfl (.t2 .nil))<|e_one 1 (zpa rfl rfl rfl rfl (.c rfl .n) ce120 (zYc (z:=x1) (p:=p1) (cap:=c1)) (.c (j:=0) rfl .n) ?_)
 refine e_one 3 (zpa rfl rfl rfl rfl (.c rfl .n) ce120 (zYc (z:=x2) (p:=p2) (cap:=c2)) (.c (j:=1) rfl .n) ?_)
 refine e_pv 4 rfl rfl (zb rfl)<|e_pv 5 rfl rfl (zb rfl)<|zT kr<|zd<|zg<|za<|e_mv rfl<|e_mv rfl<|e_p (zMa rfl rfl)<|zh<|zd<|zC rfl (fun hs=> ?_) (fun hs=> ?_)
 ·
  refine zg<|za<|e_mv rfl<|e_mv rfl<|zL rfl rfl (.c rfl (.c rfl .n)) ce148 (zWc (u:=(x1).sign) (v:=(x2).sign)) (.n)<|e_p (zb rfl)<|zh<|zd<|zH<|zi ?_
  exact zy Tryz.results142 () trivial (zl rfl) (by rw [Big.cmp_signs hs]) (ho:=(.n:PickO _ _ _)) (.n:SelR _ _ _)
 ·
  refine zA<|zd<|zg<|zW (OW:=[]) (O:=[boxA b2 41 [.bool (decide (x2<0)),.slice p2 ((yd ((x2).natAbs)).length) c2],boxA b1 41 [.bool (decide (x1<0)),.slice p1 ((yd ((x1).natAbs)).length) c1]]) 100000 mixed (.then .ret) kr<|e_u 0 rfl rfl (zc 1 ty41 rfl rfl (.t2 .nil))<|e_u 2 rfl rfl (zc 0 ty41 rfl rfl (.t2 .nil))<|e_one 1 (zw rfl rfl rfl rfl (.c rfl .n) ce117 (zFb (z:=x1) (p:=p1) (cap:=c1)) (.c (j:=0) rfl .n) ?_)
  rintro ⟨p23,c24⟩ -
  dsimp only [aq,nq,cq]
  refine e_one 3 (zw rfl rfl rfl rfl (.c rfl .n) ce117 (zFb (z:=x2) (p:=p2) (cap:=c2)) (.c (j:=2) rfl .n) ?_)
  rintro ⟨p25,c26⟩ -
  dsimp only [aq,nq,cq]
  refine e_one 4 (zpa rfl rfl rfl rfl (.c rfl (.c rfl .n)) ce136 (zec (a:=(x1).natAbs) (b:=(x2).natAbs) (p1:=p23) (c1:=c24) (p2:=p25) (c2:=c26)) (.c (j:=1) rfl (.c (j:=0) rfl .n)) ?_)
  refine e_pv 5 rfl rfl (zb rfl)<|zT kr<|zd<|zg<|zg<|za<|e_p (ze yl rfl sz4 rfl rfl)<|e_ru (zf 1 ty4 rfl rfl rfl)<|zh<|zd<|zob rfl (fun hn=> ?_) (fun hn=> ?_)
  ·
   refine zg<|za<|e_mv rfl<|e_p (zFd (z:=(-(yC (((x1).natAbs):Int) (((x2).natAbs):Int)))) rfl (w64 om))<|e_p (zb rfl)<|zh<|zd<|zH<|zi ?_
   exact zy Tryz.results142 () trivial (zl rfl) (by rw [Big.cmp_neg hs (by simpa using hn)]) (ho:=(.n:PickO _ _ _)) (.n:SelR _ _ _)
  ·
   refine zA<|zd<|zg<|za<|e_mv rfl<|e_p (zb rfl)<|zh<|zd<|zH ?_
   exact zy Tryz.results142 () trivial (zl rfl) (by rw [Big.cmp_pos hs (by simpa using hn)]) (ho:=(.n:PickO _ _ _)) (.n:SelR _ _ _)
theorem zoe {s:Bool} {p:Option Addr} {n:Nat} {cap:Nat} {l:List Int} (hn:l.length=n) (hln:yt (yk s l)≤1099511627776):Con yj 139 [.agg #[.bool s,.slice p n cap]] [] [slF (rI .u32) p cap l] (Y:=(Option Addr)×Nat) (fun y=>True) (fun y=> .agg #[.bool (decide ((- yk s l)<0)),.slice (y.1) ((yd ((- yk s l).natAbs)).length) (y.2)]) (fun y=>[]) (fun y=>[slF (rI .u32) (y.1) (y.2) (yd ((- yk s l).natAbs))]):=by
 refine zm Tryz.func139 rfl rfl rfl (fun c=> ?_)
 show RunC _ _ _ _ _ [(0,.agg #[.bool s,.slice p n cap])] [] [slF (rI .u32) p cap l]
 refine zba 0 rfl (fun hL0=> ?_)
 refine zSa 0 rfl (fun hE0=> ?_)
 have hnn:yG l:=fun g hg=>(zG.1 (hE0 g hg)).1
 unfold yt at hln
 refine zg<|za<|zM rfl rfl (zR rfl rfl) (fun b1=> ?_)
 refine zM rfl rfl (zn zr41 rfl) (fun b2=> ?_)
 refine zh<|zd<|zg<|zW (OW:=[boxA b2 41 [wz.b,wz.l]]) (O:=[boxA b1 41 [.bool s,.slice p n cap]]) 7 mixed (.then .ret) kr<|e_pv 0 rfl rfl (ze yl rfl sz4 rfl rfl)<|e_uw 1 rfl rfl (zf 1 ty4 rfl rfl rfl)<|e_pv 2 rfl rfl (ztb rfl)<|e_uw 3 rfl rfl (zc 1 ty41 rfl rfl (.t2 .nil))<|e_one 4 (zw rfl rfl rfl rfl (.c rfl .n) ce117 (zOa (s:=s) (p:=p) (n:=n) (cap:=cap) (l:=l) (hn:=ass)) (.c (j:=0) rfl .n) ?_)
 rintro ⟨p23,c24⟩ -
 dsimp only [aq,nq,cq]
 refine e_one 5 (zw rfl rfl rfl rfl (.c rfl .n) ce153 (zzd (a:=(yk s l).natAbs) (p:=p23) (cap:=c24) (hb:=cbb)) (.c (j:=0) rfl .n) ?_)
 rintro ⟨p25,c26⟩ -
 dsimp only [aq,nq,cq]
 refine e_one 6 (zw rfl rfl rfl rfl (.c rfl (.c rfl .n)) ce114 (zCa (s:= !s) (a:=((yk s l).natAbs)) (p:=p25) (cap:=c26)) (.c (j:=0) rfl .n) ?_)
 rintro ⟨p27,c28⟩ -
 dsimp only [aq,nq,cq]
 refine e_one 7 (zv kr rfl rfl rfl rfl rfl sz41 rfl (.t2 .nil) ?_)
 refine zT kr<|zd<|zH ?_
 have hz:yu (!s) ((yk s l).natAbs:Int)= - yk s l:=by rw [Big.sg_not,yN hnn]
 exact zy Tryz.results139 (p27,c28) trivial (zu 0 ty41 rfl rfl (.t2 .nil)) (by rw [hz]) (ho:=(.n:PickO _ _ _)) ((.e (j:=0) rfl (by rw [hz]) .n):SelR _ _ _)
theorem zAd {z:Int} {p:Option Addr} {cap:Nat} (hln:yt z≤1099511627776):Con yj 139 [.agg #[.bool (decide ((z)<0)),.slice (p) ((yd ((z).natAbs)).length) (cap)]] [] [slF (rI .u32) (p) (cap) (yd ((z).natAbs))] (Y:=(Option Addr)×(Nat)) (fun y=>True) (fun y=> .agg #[.bool (decide ((- z)<0)),.slice (y.1) ((yd ((- z).natAbs)).length) (y.2)]) (fun y=>[]) (fun y=>[slF (rI .u32) (y.1) (y.2) (yd ((- z).natAbs))]):=by
  have h:= @zoe (decide ((z)<0)) p (yd (z).natAbs).length cap (yd (z).natAbs) rfl (by rw [yq];exact hln)
  rw [yq] at h
  exact h
theorem zBd {w1:Wd} {x1:Int} (hln:yt x1≤1099511627776):Con yj 139 [.agg #[w1.b,w1.l]] [] [zF w1 (x1)] (Y:=(Wd)) (fun y=>True) (fun y=> .agg #[y.b,y.l]) (fun y=>[]) (fun y=>[zF y (- x1)]):=by
  exact zYb (zOd (fun p c=>zAd hln))
end Go.Proofs.YtjcpbhlijoigfaaGreat.Sp
namespace Go.Proofs.YtjcpbhlijoigfaaGreat.Sp
open Go
set_option linter.unusedVariables false
set_option maxRecDepth 100000
set_option maxHeartbeats 8000000
theorem zWe {s:Bool} {p1:Option Addr} {n1:Nat} {c1:Nat} {l1:List Int} {t:Bool} {p2:Option Addr} {n2:Nat} {c2:Nat} {l2:List Int} (hn1:l1.length=n1) (hn2:l2.length=n2) (hm1:n1≤1048576) (hm2:n2≤1048576):Con yj 124 [.agg #[.bool s,.slice p1 n1 c1,.bool t,.slice p2 n2 c2]] [] [slF (rI .u32) p1 c1 l1,slF (rI .u32) p2 c2 l2] (Y:=Unit) (fun y=>True) (fun y=> .bool (decide (Big.qok ((s,l1),(t,l2))))) (fun y=>[]) (fun y=>[]):=by
 refine zm Tryz.func124 rfl rfl rfl (fun c=> ?_)
 show RunC _ _ _ _ _ [(0,.agg #[.bool s,.slice p1 n1 c1,.bool t,.slice p2 n2 c2])] [] [slF (rI .u32) p1 c1 l1,slF (rI .u32) p2 c2 l2]
 refine zba 0 rfl (fun hL0=> ?_)
 refine zSa 0 rfl (fun hE0=> ?_)
 refine zba 1 rfl (fun hL1=> ?_)
 refine zSa 1 rfl (fun hE1=> ?_)
 have hnn1:yG l1:=fun g hg=>(zG.1 (hE0 g hg)).1
 have hnn2:yG l2:=fun g hg=>(zG.1 (hE1 g hg)).1
 have hb1:yt (yk s l1)≤n1:=by have:=Big.zTa (s:=s) hnn1;omega
 have hb2:yt (yk t l2)≤n2:=by have:=Big.zTa (s:=t) hnn2;omega
 refine zg<|za<|zM rfl rfl (zR rfl rfl) (fun b1=> ?_)
 refine e_p (zb rfl)<|zh<|zd<|zg<|zEa (X:=Unit) (fun x=>True) (fun x=>[(18,.bool (decide (¬(Big.canon s l1∧Big.canon t l2∧0<yk t l2)))),(2,.bool false),(1,yc (some ⟨b1,0,none⟩))]) (fun x=>[boxA b1 43 [.bool s,.slice p1 n1 c1,.bool t,.slice p2 n2 c2]]) (fun x=>[slF (rI .u32) p1 c1 l1,slF (rI .u32) p2 c2 l2]) ?_ ?_
 ·
  refine za<|e_p (ze yi rfl sz41 rfl rfl)<|e_ru (zc 0 ty41 rfl rfl (.t2 .nil))<|zL rfl rfl (.c rfl .n) ce138 (zqc (s:=s) (p:=p1) (n:=n1) (cap:=c1) (l:=l1) (hn:=ass)) (.c (j:=0) rfl .n)<|e_p (zYa rfl)<|zaa rfl rfl (zX rfl) (fun h2=> ?_) (fun h2=> ?_)
  ·
   refine e_no<|e_no<|e_no<|e_no<|e_p (zo rfl rfl)<|e_mv rfl<|e_no<|e_no<|e_no<|e_no<|e_p (zo rfl rfl)<|zh ?_
   exact zga () (show True from by first|trivial|omega|simp_all) ((.e rfl (congrArg Value.bool (by simp_all)) (.c rfl (.c rfl .n))):SubM _ _) (ho:=((.c (i:=0) rfl .n):PickO _ _ _)) ((.of [0,1] rfl):SelR _ _ _)
  ·
   refine e_p (ze yi rfl sz41 rfl rfl)<|e_ru (zc 0 ty41 rfl rfl (.s2 (.t2 .nil)))<|zL rfl rfl (.c rfl .n) ce138 (zqc (s:=t) (p:=p2) (n:=n2) (cap:=c2) (l:=l2) (hn:=ass)) (.c (j:=1) rfl .n)<|e_p (zYa rfl)<|e_p (zo rfl rfl)<|zaa rfl rfl (zX rfl) (fun h3=> ?_) (fun h3=> ?_)
   ·
    refine e_no<|e_no<|e_no<|e_no<|e_p (zo rfl rfl)<|zh ?_
    exact zga () (show True from by first|trivial|omega|simp_all) ((.e rfl (congrArg Value.bool (by simp_all)) (.c rfl (.c rfl .n))):SubM _ _) (ho:=((.c (i:=0) rfl .n):PickO _ _ _)) ((.of [0,1] rfl):SelR _ _ _)
   ·
    refine e_p (ze yi rfl sz41 rfl rfl)<|e_ru (zc 0 ty41 rfl rfl (.s2 (.t2 .nil)))<|zL rfl rfl (.c rfl .n) ce120 (zDe (s:=t) (p:=p2) (n:=n2) (cap:=c2) (l:=l2) (hn:=ass)) (.c (j:=1) rfl .n)<|e_p (zVa rfl rfl)<|e_p (zo rfl rfl)<|zh ?_
    exact zga () (show True from by first|trivial|omega|simp_all) ((.e rfl (congrArg Value.bool (by exact decide_eq_decide.2 (Big.sgn_le (Decidable.not_not.1 ‹_›) (Decidable.not_not.1 ‹_›)))) (.c rfl (.c rfl .n))):SubM _ _) (ho:=((.c (i:=0) rfl .n):PickO _ _ _)) ((.of [0,1] rfl):SelR _ _ _)
 ·
  rintro ⟨⟩ -
  try dsimp only
  refine zC rfl (fun hc=> ?_) (fun hc=> ?_)
  ·
   refine zg<|za<|e_p (zb rfl)<|zh<|zd<|zH<|zi ?_
   exact zy Tryz.results124 () trivial (zl rfl) (congrArg Value.bool (decide_eq_false (fun h=>hc ⟨h.1,h.2.1,h.2.2.1⟩))) (ho:=(.n:PickO _ _ _)) (.n:SelR _ _ _)
  ·
   refine zA<|zd<|zg<|za<|e_p (ze yi rfl sz41 rfl rfl)<|e_ru (zc 0 ty41 rfl rfl (.t2 .nil))<|e_p (ze yi rfl sz41 rfl rfl)<|e_ru (zc 0 ty41 rfl rfl (.s2 (.t2 .nil)))<|zE rfl rfl (.c rfl (.c rfl .n)) ce140 (zHf (s:=s) (p1:=p1) (n1:=n1) (c1:=c1) (l1:=l1) (t:=t) (p2:=p2) (n2:=n2) (c2:=c2) (l2:=l2) (hn1:=ass) (hn2:=ass) (hb1:=by first|rfl|assumption|omega|(rw [yp];omega)|(decide +kernel)) (hb2:=by first|rfl|assumption|omega|(rw [yp];omega)|(decide +kernel))) (.c (j:=0) rfl (.c (j:=1) rfl .n)) ?_
   rintro ⟨p34,c35⟩ -
   dsimp only [aq,nq,cq]
   refine zE rfl rfl (.c rfl .n) ce84 (zrg (z:=1) (hz:=by first|rfl|assumption|omega|(rw [yp];omega)|(decide +kernel))) (.n) ?_
   rintro ⟨p26,c27⟩ -
   dsimp only [aq,nq,cq]
   refine zL rfl rfl (.c rfl (.c rfl .n)) ce142 (zTd (x1:=((Nat.gcd (yk s l1).natAbs (yk t l2).natAbs:Nat):Int)) (x2:=1) (p1:=p34) (c1:=c35) (p2:=p26) (c2:=c27)) (.c (j:=1) rfl (.c (j:=0) rfl .n))<|e_p (zua rfl rfl)<|e_p (zb rfl)<|zh<|zd<|zH ?_
   exact zy Tryz.results124 () trivial (zl rfl) (congrArg Value.bool (decide_eq_decide.2 (Big.qok_gcd (x:=((s,l1),(t,l2))) (Decidable.not_not.1 hc)).symm)) (ho:=(.n:PickO _ _ _)) (.n:SelR _ _ _)
theorem zHb {w1:Wd} {w2:Wd} {x1:Int} {x2:Int} (hl1:yt x1≤1048576) (hl2:yt x2≤1048576) (hd:x2≠0):Con yj 121 [.agg #[w1.b,w1.l],.agg #[w2.b,w2.l]] [] [zF w1 x1,zF w2 x2] (Y:=Wd×Wd) (fun y=>True) (fun y=> .agg #[y.1.b,y.1.l,y.2.b,y.2.l]) (fun y=>[]) (fun y=>[qF true y.1 y.2 (Rat.divInt x1 x2)]):=by
 refine zm Tryz.func121 rfl rfl rfl (fun c=> ?_)
 show RunC _ _ _ _ _ [(0,.agg #[w1.b,w1.l]),(1,.agg #[w2.b,w2.l])] [] [zF w1 x1,zF w2 x2]
 refine zg<|za<|zM rfl rfl (zR rfl rfl) (fun b1=> ?_)
 refine zM rfl rfl (zR rfl rfl) (fun b2=> ?_)
 refine zM rfl rfl (zn zr43 rfl) (fun b3=> ?_)
 refine zh<|zd<|zg<|zg<|za<|e_ru (zc 1 ty41 rfl rfl (.t2 .nil))<|zL rfl rfl (.c rfl .n) ce120 (zrc (w1:=w2) (x1:=x2)) (.c (j:=1) rfl .n)<|e_p (zY rfl rfl)<|zh<|zd<|zC rfl (fun hneg=> ?_) (fun hneg=> ?_)
 ·
  have hs:x2<0:=by rcases Big.sign_le (x:=x2) with h|h|h <;> omega
  have hgp:=Big.gcd_pos_right (n:= -x1) (d:= -x2) om
  have hgl:=Big.zPd (n:= -x1) (d:= -x2) om
  rw [yp] at hgl
  obtain ⟨hr1,hr2⟩:=Big.red_flip (n:=x1) hs
  refine zqa (.c (i:=2) rfl (.c (i:=1) rfl (.c (i:=0) rfl .n)))<|zW (OW:=[boxA b1 41 [w1.b,w1.l],boxA b2 41 [w2.b,w2.l]]) (O:=[boxA b3 43 (cw [wz,wz])]) 4 mixed (.then .ret) kr<|e_uw 0 rfl rfl (zc 0 ty41 rfl rfl (.t2 .nil))<|e_uw 2 rfl rfl (zc 1 ty41 rfl rfl (.t2 .nil))<|e_one 1 (zw rfl rfl rfl rfl (.c rfl .n) ce139 (zBd (w1:=w1) (x1:=x1) (hln:=by first|rfl|assumption|omega|(rw [yp];omega)|(decide +kernel))) (.c (j:=0) rfl .n) ?_)
  rintro w34 -
  dsimp only [aq,nq,cq]
  refine e_one 3 (zw rfl rfl rfl rfl (.c rfl .n) ce139 (zBd (w1:=w2) (x1:=x2) (hln:=by first|rfl|assumption|omega|(rw [yp];omega)|(decide +kernel))) (.c (j:=2) rfl .n) ?_)
  rintro w35 -
  dsimp only [aq,nq,cq]
  refine e_one 4 (zv kr rfl rfl rfl rfl rfl sz41 rfl (.t2 .nil) ?_)
  refine zQa (zca (i:=1) rfl)<|e_one 5 (zv kr rfl rfl rfl rfl rfl sz41 rfl (.t2 .nil) ?_)
  refine zT kr<|zd<|zg<|za<|e_ru (zc 1 ty41 rfl rfl (.t2 .nil))<|e_ru (zc 0 ty41 rfl rfl (.t2 .nil))<|zE rfl rfl (.c rfl (.c rfl .n)) ce140 (zFe (w1:=w34) (w2:=w35) (x1:= - x1) (x2:= - x2) (hb1:=by first|rfl|assumption|omega|(rw [yp];omega)|(decide +kernel)) (hb2:=by first|rfl|assumption|omega|(rw [yp];omega)|(decide +kernel))) (.c (j:=1) rfl (.c (j:=0) rfl .n)) ?_
  rintro w36 -
  dsimp only [aq,nq,cq]
  refine zM rfl rfl (zn zr41 rfl) (fun b7=> ?_)
  refine zk 0 rfl rfl rfl rfl rfl sz41 rfl (.t2 .nil) .z<|zh<|zd<|zg<|za<|e_ru (zc 2 ty41 rfl rfl (.t2 .nil))<|e_ru (zc 0 ty41 rfl rfl (.t2 .nil))<|zE rfl rfl (.c rfl (.c rfl .n)) ce141 (zGb (w1:=w34) (w2:=w36) (x1:= - x1) (x2:=((Nat.gcd (- x1).natAbs (- x2).natAbs:Nat):Int)) (hb1:=by first|rfl|assumption|omega|(rw [yp];omega)|(decide +kernel)) (hb2:=by first|rfl|assumption|omega|(rw [yp];omega)|(decide +kernel)) (hy:=by first|rfl|assumption|omega|(rw [yp];omega)|(decide +kernel))) (.c (j:=2) rfl (.c (j:=0) rfl .n)) ?_
  rintro ⟨w38,w49⟩ -
  dsimp only [aq,nq,cq]
  refine e_mv rfl<|e_p (zr rfl rfl)<|e_p (zr rfl rfl)<|e_p (zr rfl rfl)<|zk 2 rfl rfl rfl rfl rfl sz41 rfl (.t2 .nil) (.s (.s .z))<|zh<|zd<|zg<|za<|e_ru (zc 1 ty41 rfl rfl (.t2 .nil))<|e_ru (zc 0 ty41 rfl rfl (.t2 .nil))<|zE rfl rfl (.c rfl (.c rfl .n)) ce141 (zGb (w1:=w35) (w2:=w36) (x1:= - x2) (x2:=((Nat.gcd (- x1).natAbs (- x2).natAbs:Nat):Int)) (hb1:=by first|rfl|assumption|omega|(rw [yp];omega)|(decide +kernel)) (hb2:=by first|rfl|assumption|omega|(rw [yp];omega)|(decide +kernel)) (hy:=by first|rfl|assumption|omega|(rw [yp];omega)|(decide +kernel))) (.c (j:=3) rfl (.c (j:=2) rfl .n)) ?_
  rintro ⟨w310,w411⟩ -
  dsimp only [aq,nq,cq]
  refine e_mv rfl<|e_p (zr rfl rfl)<|e_p (zr rfl rfl)<|e_p (zr rfl rfl)<|zk 1 rfl rfl rfl rfl rfl sz41 rfl (.t2 .nil) (.s .z)<|zh<|zd<|zg<|za<|e_ru (zc 2 ty41 rfl rfl (.t2 .nil))<|e_ru (zc 1 ty41 rfl rfl (.t2 .nil))<|e_p (zJ zr43 rfl yi (.c sz41 (.c sz41 .n)) (.c rfl (.c rfl .n)) (.c rfl rfl rfl (.t2 .nil) (.c rfl rfl rfl (.s2 (.t2 .nil)) .n)))<|zk 3 rfl rfl rfl rfl rfl sz43 rfl (.t4 .nil) (.s (.s (.s .z)))<|zh<|zd<|zH<|zub (qF true w38 w310 (Rat.divInt x1 x2)) (qF_close 2 0 rfl rfl (by exact ⟨hr1,hr2,Nat.le_trans (Big.hq_divInt hd) om⟩)) ?_
  exact zy Tryz.results121 (w38,w310) trivial (zu 3 ty43 rfl rfl (.t4 .nil)) rfl (ho:=(.n:PickO _ _ _)) ((.c (j:=0) rfl .n):SelR _ _ _)
 ·
  have hs:0<x2:=by rcases Big.sign_le (x:=x2) with h|h|h <;> omega
  have hgp:=Big.gcd_pos_right (n:=x1) (d:=x2) om
  have hgl:=Big.zPd (n:=x1) (d:=x2) om
  obtain ⟨hr1,hr2⟩:=Big.red_pos (n:=x1) hs
  refine zA<|zd<|zg<|za<|e_ru (zc 2 ty41 rfl rfl (.t2 .nil))<|e_ru (zc 1 ty41 rfl rfl (.t2 .nil))<|zE rfl rfl (.c rfl (.c rfl .n)) ce140 (zFe (w1:=w1) (w2:=w2) (x1:=x1) (x2:=x2) (hb1:=by first|rfl|assumption|omega|(rw [yp];omega)|(decide +kernel)) (hb2:=by first|rfl|assumption|omega|(rw [yp];omega)|(decide +kernel))) (.c (j:=0) rfl (.c (j:=1) rfl .n)) ?_
  rintro w312 -
  dsimp only [aq,nq,cq]
  refine zM rfl rfl (zn zr41 rfl) (fun b13=> ?_)
  refine zk 0 rfl rfl rfl rfl rfl sz41 rfl (.t2 .nil) .z<|zh<|zd<|zg<|za<|e_ru (zc 3 ty41 rfl rfl (.t2 .nil))<|e_ru (zc 0 ty41 rfl rfl (.t2 .nil))<|zE rfl rfl (.c rfl (.c rfl .n)) ce141 (zGb (w1:=w1) (w2:=w312) (x1:=x1) (x2:=((Nat.gcd x1.natAbs x2.natAbs:Nat):Int)) (hb1:=by first|rfl|assumption|omega|(rw [yp];omega)|(decide +kernel)) (hb2:=by first|rfl|assumption|omega|(rw [yp];omega)|(decide +kernel)) (hy:=by first|rfl|assumption|omega|(rw [yp];omega)|(decide +kernel))) (.c (j:=1) rfl (.c (j:=0) rfl .n)) ?_
  rintro ⟨w314,w415⟩ -
  dsimp only [aq,nq,cq]
  refine e_mv rfl<|e_p (zr rfl rfl)<|e_p (zr rfl rfl)<|e_p (zr rfl rfl)<|zk 3 rfl rfl rfl rfl rfl sz41 rfl (.t2 .nil) (.s (.s (.s .z)))<|zh<|zd<|zg<|za<|e_ru (zc 2 ty41 rfl rfl (.t2 .nil))<|e_ru (zc 0 ty41 rfl rfl (.t2 .nil))<|zE rfl rfl (.c rfl (.c rfl .n)) ce141 (zGb (w1:=w2) (w2:=w312) (x1:=x2) (x2:=((Nat.gcd x1.natAbs x2.natAbs:Nat):Int)) (hb1:=by first|rfl|assumption|omega|(rw [yp];omega)|(decide +kernel)) (hb2:=by first|rfl|assumption|omega|(rw [yp];omega)|(decide +kernel)) (hy:=by first|rfl|assumption|omega|(rw [yp];omega)|(decide +kernel))) (.c (j:=4) rfl (.c (j:=2) rfl .n)) ?_
  rintro ⟨w316,w417⟩ -
  dsimp only [aq,nq,cq]
  refine e_mv rfl<|e_p (zr rfl rfl)<|e_p (zr rfl rfl)<|e_p (zr rfl rfl)<|zk 2 rfl rfl rfl rfl rfl sz41 rfl (.t2 .nil) (.s (.s .z))<|zh<|zd<|zg<|za<|e_ru (zc 3 ty41 rfl rfl (.t2 .nil))<|e_ru (zc 2 ty41 rfl rfl (.t2 .nil))<|e_p (zJ zr43 rfl yi (.c sz41 (.c sz41 .n)) (.c rfl (.c rfl .n)) (.c rfl rfl rfl (.t2 .nil) (.c rfl rfl rfl (.s2 (.t2 .nil)) .n)))<|zk 1 rfl rfl rfl rfl rfl sz43 rfl (.t4 .nil) (.s .z)<|zh<|zd<|zH<|zub (qF true w314 w316 (Rat.divInt x1 x2)) (qF_close 2 0 rfl rfl (by exact ⟨hr1,hr2,Nat.le_trans (Big.hq_divInt hd) om⟩)) ?_
  exact zy Tryz.results121 (w314,w316) trivial (zu 1 ty43 rfl rfl (.t4 .nil)) rfl (ho:=(.n:PickO _ _ _)) ((.c (j:=0) rfl .n):SelR _ _ _)
theorem zXe {s:Bool} {p1:Option Addr} {n1:Nat} {c1:Nat} {l1:List Int} {t:Bool} {p2:Option Addr} {n2:Nat} {c2:Nat} {l2:List Int} (hn1:l1.length=n1) (hn2:l2.length=n2) (hm1:n1≤1048576) (hm2:n2≤1048576) (hq:Big.qok ((s,l1),(t,l2))):Con yj 125 [.agg #[.bool s,.slice p1 n1 c1,.bool t,.slice p2 n2 c2]] [] [slF (rI .u32) p1 c1 l1,slF (rI .u32) p2 c2 l2] (Y:=(Option Addr)×Nat×(Option Addr)×Nat) (fun y=>True) (fun y=> .agg #[.bool (decide (((yM ((s,l1),(t,l2))).num)<0)),.slice (y.1) ((yd (((yM ((s,l1),(t,l2))).num).natAbs)).length) (y.2.1),.bool (decide ((((yM ((s,l1),(t,l2))).den:Nat):Int)<0)),.slice (y.2.2.1) ((yd ((((yM ((s,l1),(t,l2))).den:Nat):Int).natAbs)).length) (y.2.2.2)]) (fun y=>[]) (fun y=>[slF (rI .u32) (y.1) (y.2.1) (yd (((yM ((s,l1),(t,l2))).num).natAbs)),slF (rI .u32) (y.2.2.1) (y.2.2.2) (yd ((((yM ((s,l1),(t,l2))).den:Nat):Int).natAbs))]):=by
 refine zm Tryz.func125 rfl rfl rfl (fun c=> ?_)
 show RunC _ _ _ _ _ [(0,.agg #[.bool s,.slice p1 n1 c1,.bool t,.slice p2 n2 c2])] [] [slF (rI .u32) p1 c1 l1,slF (rI .u32) p2 c2 l2]
 refine zba 0 rfl (fun hL0=> ?_)
 refine zSa 0 rfl (fun hE0=> ?_)
 refine zba 1 rfl (fun hL1=> ?_)
 refine zSa 1 rfl (fun hE1=> ?_)
 have hnn1:yG l1:=fun g hg=>(zG.1 (hE0 g hg)).1
 have hnn2:yG l2:=fun g hg=>(zG.1 (hE1 g hg)).1
 have hb1:yt (yk s l1)≤n1:=by have:=Big.zTa (s:=s) hnn1;omega
 have hb2:yt (yk t l2)≤n2:=by have:=Big.zTa (s:=t) hnn2;omega
 refine zg<|za<|zM rfl rfl (zR rfl rfl) (fun b1=> ?_)
 refine zM rfl rfl (zn zr43 rfl) (fun b2=> ?_)
 refine zh<|zd<|zg<|zW (OW:=[boxA b2 43 (cw [wz,wz])]) (O:=[boxA b1 43 [.bool s,.slice p1 n1 c1,.bool t,.slice p2 n2 c2]]) 9 mixed (.then .ret) kr<|e_pv 0 rfl rfl (ze yi rfl sz41 rfl rfl)<|e_uw 1 rfl rfl (zc 1 ty41 rfl rfl (.t2 .nil))<|e_pv 4 rfl rfl (ze yi rfl sz41 rfl rfl)<|e_uw 5 rfl rfl (zc 1 ty41 rfl rfl (.s2 (.t2 .nil)))<|e_one 2 (zw rfl rfl rfl rfl (.c rfl .n) ce139 (zoe (s:=s) (p:=p1) (n:=n1) (cap:=c1) (l:=l1) (hn:=ass) (hln:=by first|rfl|assumption|omega|(rw [yp];omega)|(decide +kernel))) (.c (j:=0) rfl .n) ?_)
 rintro ⟨p23,c24⟩ -
 dsimp only [aq,nq,cq]
 refine e_one 3 (zw rfl rfl rfl rfl (.c rfl .n) ce139 (zAd (z:= - yk s l1) (p:=p23) (cap:=c24) (hln:=by first|rfl|assumption|omega|(rw [yp];omega)|(decide +kernel))) (.c (j:=0) rfl .n) ?_)
 rintro ⟨p25,c26⟩ -
 dsimp only [aq,nq,cq]
 refine e_one 6 (zw rfl rfl rfl rfl (.c rfl .n) ce139 (zoe (s:=t) (p:=p2) (n:=n2) (cap:=c2) (l:=l2) (hn:=ass) (hln:=by first|rfl|assumption|omega|(rw [yp];omega)|(decide +kernel))) (.c (j:=3) rfl .n) ?_)
 rintro ⟨p27,c28⟩ -
 dsimp only [aq,nq,cq]
 refine e_one 7 (zw rfl rfl rfl rfl (.c rfl .n) ce139 (zAd (z:= - yk t l2) (p:=p27) (cap:=c28) (hln:=by first|rfl|assumption|omega|(rw [yp];omega)|(decide +kernel))) (.c (j:=0) rfl .n) ?_)
 rintro ⟨p29,c210⟩ -
 dsimp only [aq,nq,cq]
 refine e_pv 8 rfl rfl (zJ zr43 rfl yi (.c sz41 (.c sz41 .n)) (.c rfl (.c rfl .n)) (.c rfl rfl rfl (.t2 .nil) (.c rfl rfl rfl (.s2 (.t2 .nil)) .n)))<|e_one 9 (zv kr rfl rfl rfl rfl rfl sz43 rfl (.t4 .nil) ?_)
 refine zT kr<|zd<|zH ?_
 have hz1: - - yk s l1=(yM ((s,l1),(t,l2))).num:=by rw [Int.neg_neg];exact (Big.qv_parts hq).1.symm
 have hz2: - - yk t l2=(((yM ((s,l1),(t,l2))).den:Nat):Int):=by rw [Int.neg_neg];exact (Big.qv_parts hq).2.symm
 exact zy Tryz.results125 (p25,c26,p29,c210) trivial (zu 0 ty43 rfl rfl (.t4 .nil)) (by rw [hz1,hz2]) (ho:=(.n:PickO _ _ _)) ((.e (j:=2) rfl (by rw [hz1]) (.e (j:=0) rfl (by rw [hz2]) .n)):SelR _ _ _)
theorem zpe {s:Bool} {p1:Option Addr} {n1:Nat} {c1:Nat} {l1:List Int} {t:Bool} {p2:Option Addr} {n2:Nat} {c2:Nat} {l2:List Int} (hn1:l1.length=n1) (hn2:l2.length=n2) (hm1:n1≤1048576) (hm2:n2≤1048576) (hq:Big.qok ((s,l1),(t,l2))) (hl:yI (yM ((s,l1),(t,l2)))≤1048576):Con yj 125 [.agg #[.bool (s),.slice (p1) (n1) (c1),.bool (t),.slice (p2) (n2) (c2)]] [] [slF (rI .u32) (p1) (c1) (l1),slF (rI .u32) (p2) (c2) (l2)] (Y:=(Wd)×(Wd)) (fun y=>True) (fun y=> .agg #[y.1.b,y.1.l,y.2.b,y.2.l]) (fun y=>[]) (fun y=>[qF true y.1 y.2 (yM ((s,l1),(t,l2)))]):=by
  exact con_qr (zXe hn1 hn2 hm1 hm2 hq) rfl rfl hl
theorem zZc {z:Int} (hz: -9223372036854775808≤z∧z≤9223372036854775807):Con yj 93 [ya yb z] [] [] (Y:=Wd×Wd) (fun y=>True) (fun y=> .agg #[y.1.b,y.1.l,y.2.b,y.2.l]) (fun y=>[]) (fun y=>[qF true y.1 y.2 ((z:Int):Rat)]):=by
 refine zm Tryz.func93 rfl rfl rfl (fun c=> ?_)
 show RunC _ _ _ _ _ [(0,ya yb z)] [] []
 refine zg<|za<|zM rfl rfl (zn zr43 rfl) (fun b1=> ?_)
 refine zh<|zd<|zg<|za<|e_mv rfl<|zE rfl rfl (.c rfl .n) ce84 (zQb (z:=z) (hz:=ass)) (.n) ?_
 rintro w32 -
 dsimp only [aq,nq,cq]
 refine zE rfl rfl (.c rfl .n) ce84 (zQb (z:=1) (hz:=by first|rfl|assumption|omega|(rw [yp];omega)|(decide +kernel))) (.n) ?_
 rintro w33 -
 dsimp only [aq,nq,cq]
 refine e_p (zJ zr43 rfl yi (.c sz41 (.c sz41 .n)) (.c rfl (.c rfl .n)) (.c rfl rfl rfl (.t2 .nil) (.c rfl rfl rfl (.s2 (.t2 .nil)) .n)))<|zk 0 rfl rfl rfl rfl rfl sz43 rfl (.t4 .nil) .z<|zh<|zd<|zH<|zub (qF true w32 w33 ((z:Int):Rat)) (qF_close 1 0 rfl rfl (by exact ⟨(Rat.num_intCast z).symm,by rw [Rat.den_intCast];rfl,Nat.le_trans (Big.hq_64 hz.1 hz.2) dd⟩)) ?_
 exact zy Tryz.results93 (w32,w33) trivial (zu 0 ty43 rfl rfl (.t4 .nil)) rfl (ho:=(.n:PickO _ _ _)) ((.c (j:=0) rfl .n):SelR _ _ _)
theorem zYe {s:Bool} {p1:Option Addr} {n1:Nat} {c1:Nat} {l1:List Int} {t:Bool} {p2:Option Addr} {n2:Nat} {c2:Nat} {l2:List Int} (hn1:l1.length=n1) (hn2:l2.length=n2) (hm1:n1≤1048576) (hm2:n2≤1048576):Con yj 98 [.agg #[.bool s,.slice p1 n1 c1,.bool t,.slice p2 n2 c2]] [] [slF (rI .u32) p1 c1 l1,slF (rI .u32) p2 c2 l2] (Y:=Wd×Wd) (fun y=>True) (fun y=> .agg #[y.1.b,y.1.l,y.2.b,y.2.l]) (fun y=>[]) (fun y=>[qF true y.1 y.2 (yM ((s,l1),(t,l2)))]):=by
 refine zm Tryz.func98 rfl rfl rfl (fun c=> ?_)
 show RunC _ _ _ _ _ [(0,.agg #[.bool s,.slice p1 n1 c1,.bool t,.slice p2 n2 c2])] [] [slF (rI .u32) p1 c1 l1,slF (rI .u32) p2 c2 l2]
 refine zba 0 rfl (fun hL0=> ?_)
 refine zSa 0 rfl (fun hE0=> ?_)
 refine zba 1 rfl (fun hL1=> ?_)
 refine zSa 1 rfl (fun hE1=> ?_)
 have hnn1:yG l1:=fun g hg=>(zG.1 (hE0 g hg)).1
 have hnn2:yG l2:=fun g hg=>(zG.1 (hE1 g hg)).1
 have hb1:yt (yk s l1)≤n1:=by have:=Big.zTa (s:=s) hnn1;omega
 have hb2:yt (yk t l2)≤n2:=by have:=Big.zTa (s:=t) hnn2;omega
 refine zg<|za<|zM rfl rfl (zR rfl rfl) (fun b1=> ?_)
 refine zM rfl rfl (zn zr43 rfl) (fun b2=> ?_)
 refine zh<|zd<|zg<|zg<|za<|e_ru (zc 1 ty43 rfl rfl (.t4 .nil))<|zL rfl rfl (.c rfl .n) ce124 (zWe (s:=s) (p1:=p1) (n1:=n1) (c1:=c1) (l1:=l1) (t:=t) (p2:=p2) (n2:=n2) (c2:=c2) (l2:=l2) (hn1:=ass) (hn2:=ass) (hm1:=ass) (hm2:=ass)) (.c (j:=0) rfl (.c (j:=1) rfl .n))<|zh<|zd<|zC rfl (fun hq=> ?_) (fun hq=> ?_)
 ·
  have hrp:=Big.raw_parts (x:=((s,l1),(t,l2))) hnn1 hnn2 hq
  have hqp:=Big.qv_parts (x:=((s,l1),(t,l2))) hq
  have hl:yI (yM ((s,l1),(t,l2)))≤1048576:=by unfold yI;rw [hqp.1,hqp.2];dsimp only;omega
  refine zg<|za<|e_ru (zc 1 ty43 rfl rfl (.t4 .nil))<|zE rfl rfl (.c rfl .n) ce125 (zpe (s:=s) (p1:=p1) (n1:=n1) (c1:=c1) (l1:=l1) (t:=t) (p2:=p2) (n2:=n2) (c2:=c2) (l2:=l2) (hn1:=ass) (hn2:=ass) (hm1:=ass) (hm2:=ass) (hq:=by first|rfl|assumption|omega|(rw [yp];omega)|(decide +kernel)) (hl:=by first|rfl|assumption|omega|(rw [yp];omega)|(decide +kernel))) (.c (j:=0) rfl (.c (j:=1) rfl .n)) ?_
  rintro ⟨w33,w44⟩ -
  dsimp only [aq,nq,cq]
  refine zk 0 rfl rfl rfl rfl rfl sz43 rfl (.t4 .nil) .z<|zh<|zd<|zH<|zi ?_
  exact zy Tryz.results98 (w33,w44) trivial (zu 0 ty43 rfl rfl (.t4 .nil)) rfl (ho:=(.n:PickO _ _ _)) ((.c (j:=0) rfl .n):SelR _ _ _)
 ·
  have hz:=Big.qv_not (x:=((s,l1),(t,l2))) hq
  refine zA<|zd<|zg<|za<|zE rfl rfl (.c rfl .n) ce93 (zZc (z:=0) (hz:=by first|rfl|assumption|omega|(rw [yp];omega)|(decide +kernel))) (.n) ?_
  rintro ⟨w35,w46⟩ -
  dsimp only [aq,nq,cq]
  refine zk 0 rfl rfl rfl rfl rfl sz43 rfl (.t4 .nil) .z<|zh<|zd<|zH ?_
  exact zy Tryz.results98 (w35,w46) trivial (zu 0 ty43 rfl rfl (.t4 .nil)) rfl (ho:=(.n:PickO _ _ _)) ((.e (j:=0) rfl (by rw [hz];rfl) .n):SelR _ _ _)
theorem zGa {k1:Bool} {u1:Wd} {v1:Wd} {q1:Rat}:Con yj 98 [.agg #[u1.b,u1.l,v1.b,v1.l]] [] [qF k1 u1 v1 (q1)] (Y:=(Wd)×(Wd)) (fun y=>True) (fun y=> .agg #[y.1.b,y.1.l,y.2.b,y.2.l]) (fun y=>[]) (fun y=>[qF true y.1 y.2 (q1)]):=by
  exact ztf (fun x hx hk h1 h2 hl=>by subst hx;exact zYe rfl rfl h1 h2)
theorem zRb {k1:Bool} {u1:Wd} {v1:Wd} {q1:Rat}:Con yj 97 [.agg #[u1.b,u1.l,v1.b,v1.l]] [] [qF k1 u1 v1 q1] (Y:=Unit) (fun y=>True) (fun y=> ya yb (Big.sgq q1)) (fun y=>[]) (fun y=>[]):=by
 refine zm Tryz.func97 rfl rfl rfl (fun c=> ?_)
 show RunC _ _ _ _ _ [(0,.agg #[u1.b,u1.l,v1.b,v1.l])] [] [qF k1 u1 v1 q1]
 refine zg<|za<|zM rfl rfl (zR rfl rfl) (fun b1=> ?_)
 refine e_p (zb rfl)<|zh<|zd<|zg<|za<|e_ru (zc 0 ty43 rfl rfl (.t4 .nil))<|zE rfl rfl (.c rfl .n) ce98 (zGa (k1:=k1) (u1:=u1) (v1:=v1) (q1:=q1)) (.c (j:=0) rfl .n) ?_
 rintro ⟨w32,w43⟩ -
 dsimp only [aq,nq,cq]
 refine e_p (zFc yi rfl ty41 rfl (.t2 .nil))<|zEc (qF_open 0 rfl) (fun _ _=> ?_)
 refine zL rfl rfl (.c rfl .n) ce120 (zrc (w1:=w32) (x1:=(q1).num)) (.c (j:=0) rfl .n)<|e_p (zb rfl)<|zh<|zd<|zH ?_
 exact zy Tryz.results97 () trivial (zl rfl) rfl (ho:=(.n:PickO _ _ _)) (.n:SelR _ _ _)
theorem zlg {k1:Bool} {u1:Wd} {v1:Wd} {q1:Rat} (hl:yI q1≤1048576):Con yj 126 [.agg #[u1.b,u1.l,v1.b,v1.l]] [] [qF k1 u1 v1 q1] (Y:=Wd×Wd) (fun y=>True) (fun y=> .agg #[y.1.b,y.1.l,y.2.b,y.2.l]) (fun y=>[]) (fun y=>[qF true y.1 y.2 (- q1)]):=by
 refine zm Tryz.func126 rfl rfl rfl (fun c=> ?_)
 show RunC _ _ _ _ _ [(0,.agg #[u1.b,u1.l,v1.b,v1.l])] [] [qF k1 u1 v1 q1]
 have a1:=yz q1
 have a2:=yA q1
 refine zg<|za<|zM rfl rfl (zR rfl rfl) (fun b1=> ?_)
 refine zM rfl rfl (zn zr43 rfl) (fun b2=> ?_)
 refine zh<|zd<|zg<|za<|e_ru (zc 1 ty43 rfl rfl (.t4 .nil))<|zE rfl rfl (.c rfl .n) ce98 (zGa (k1:=k1) (u1:=u1) (v1:=v1) (q1:=q1)) (.c (j:=0) rfl .n) ?_
 rintro ⟨w33,w44⟩ -
 dsimp only [aq,nq,cq]
 refine zk 1 rfl rfl rfl rfl rfl sz43 rfl (.t4 .nil) (.s .z)<|zh<|zd<|zg<|zW (OW:=[boxA b2 43 (cw [wz,wz])]) (O:=[boxA b1 43 (cw [w33,w44])]) 6 mixed (.then .ret) kr<|e_pv 0 rfl rfl (ze yi rfl sz41 rfl rfl)<|e_uw 1 rfl rfl (zc 1 ty41 rfl rfl (.t2 .nil))<|e_pv 3 rfl rfl (ze yi rfl sz41 rfl rfl)<|e_uw 4 rfl rfl (zc 1 ty41 rfl rfl (.s2 (.t2 .nil)))<|zKb (qF_open 0 rfl) (fun _ _=> ?_)
 refine e_one 2 (zw rfl rfl rfl rfl (.c rfl .n) ce139 (zBd (w1:=w33) (x1:=(q1).num) (hln:=by first|rfl|assumption|omega|(rw [yp];omega)|(decide +kernel))) (.c (j:=0) rfl .n) ?_)
 rintro w35 -
 dsimp only [aq,nq,cq]
 refine e_pv 5 rfl rfl (zJ zr43 rfl yi (.c sz41 (.c sz41 .n)) (.c rfl (.c rfl .n)) (.c rfl rfl rfl (.t2 .nil) (.c rfl rfl rfl (.s2 (.t2 .nil)) .n)))<|e_one 6 (zv kr rfl rfl rfl rfl rfl sz43 rfl (.t4 .nil) ?_)
 refine zT kr<|zd<|zH<|zub (qF true w35 w44 (- q1)) (qF_close 0 2 rfl rfl (by exact ⟨(Rat.neg_num q1).symm,by rw [Rat.neg_den],by rw [Big.hq_neg];exact hl⟩)) ?_
 exact zy Tryz.results126 (w35,w44) trivial (zu 0 ty43 rfl rfl (.t4 .nil)) rfl (ho:=(.n:PickO _ _ _)) ((.c (j:=0) rfl .n):SelR _ _ _)
theorem zsc {k1:Bool} {u1:Wd} {v1:Wd} {q1:Rat} {k2:Bool} {u2:Wd} {v2:Wd} {q2:Rat} (hl:yI q1+yI q2+1≤1048576):Con yj 101 [.agg #[u1.b,u1.l,v1.b,v1.l],.agg #[u2.b,u2.l,v2.b,v2.l]] [] [qF k1 u1 v1 q1,qF k2 u2 v2 q2] (Y:=Wd×Wd) (fun y=>True) (fun y=> .agg #[y.1.b,y.1.l,y.2.b,y.2.l]) (fun y=>[]) (fun y=>[qF true y.1 y.2 (q1+q2)]):=by
 refine zm Tryz.func101 rfl rfl rfl (fun c=> ?_)
 show RunC _ _ _ _ _ [(0,.agg #[u1.b,u1.l,v1.b,v1.l]),(1,.agg #[u2.b,u2.l,v2.b,v2.l])] [] [qF k1 u1 v1 q1,qF k2 u2 v2 q2]
 have a1:=yz q1
 have a2:=yA q1
 have a3:=yz q2
 have a4:=yA q2
 have b1:=yK q1.num q2.den
 have b2:=yK q2.num q1.den
 have b3:=Big.zVc (q1.num*q2.den) (q2.num*q1.den)
 have b4:=yK (q1.den:Int) q2.den
 have b5:=yK q1.num q2.num
 refine zg<|za<|zM rfl rfl (zR rfl rfl) (fun b1=> ?_)
 refine zM rfl rfl (zR rfl rfl) (fun b2=> ?_)
 refine zM rfl rfl (zn zr43 rfl) (fun b3=> ?_)
 refine zh<|zd<|zg<|zqa (.c (i:=2) rfl (.c (i:=1) rfl (.c (i:=0) rfl .n)))<|zW (OW:=[boxA b1 43 (cw [u1,v1]),boxA b2 43 (cw [u2,v2])]) (O:=[boxA b3 43 (cw [wz,wz])]) 4 mixed (.then .ret) kr<|e_uw 0 rfl rfl (zc 0 ty43 rfl rfl (.t4 .nil))<|e_uw 2 rfl rfl (zc 1 ty43 rfl rfl (.t4 .nil))<|e_one 1 (zw rfl rfl rfl rfl (.c rfl .n) ce98 (zGa (k1:=k1) (u1:=u1) (v1:=v1) (q1:=q1)) (.c (j:=0) rfl .n) ?_)
 rintro ⟨w34,w45⟩ -
 dsimp only [aq,nq,cq]
 refine e_one 3 (zw rfl rfl rfl rfl (.c rfl .n) ce98 (zGa (k1:=k2) (u1:=u2) (v1:=v2) (q1:=q2)) (.c (j:=2) rfl .n) ?_)
 rintro ⟨w36,w47⟩ -
 dsimp only [aq,nq,cq]
 refine e_one 4 (zv kr rfl rfl rfl rfl rfl sz43 rfl (.t4 .nil) ?_)
 refine zQa (zca (i:=1) rfl)<|e_one 5 (zv kr rfl rfl rfl rfl rfl sz43 rfl (.t4 .nil) ?_)
 refine zT kr<|zd<|zg<|zqa (.c (i:=2) rfl (.c (i:=0) rfl (.c (i:=0) rfl .n)))<|zW (OW:=[boxA b3 43 (cw [wz,wz])]) (O:=[boxA b2 43 (cw [w36,w47]),boxA b1 43 (cw [w34,w45])]) 17 mixed (.then .ret) kr<|e_pv 0 rfl rfl (ze yi rfl sz41 rfl rfl)<|e_uw 1 rfl rfl (zc 2 ty41 rfl rfl (.t2 .nil))<|e_pv 2 rfl rfl (ze yi rfl sz41 rfl rfl)<|e_uw 3 rfl rfl (zc 1 ty41 rfl rfl (.s2 (.t2 .nil)))<|e_pv 5 rfl rfl (ze yi rfl sz41 rfl rfl)<|e_uw 6 rfl rfl (zc 1 ty41 rfl rfl (.t2 .nil))<|e_pv 7 rfl rfl (ze yi rfl sz41 rfl rfl)<|e_uw 8 rfl rfl (zc 2 ty41 rfl rfl (.s2 (.t2 .nil)))<|e_pv 11 rfl rfl (ze yi rfl sz41 rfl rfl)<|e_uw 12 rfl rfl (zc 2 ty41 rfl rfl (.s2 (.t2 .nil)))<|e_pv 13 rfl rfl (ze yi rfl sz41 rfl rfl)<|e_uw 14 rfl rfl (zc 1 ty41 rfl rfl (.s2 (.t2 .nil)))<|zKb (qF_open 1 rfl) (fun _ _=> ?_)
 refine zKb (qF_open 2 rfl) (fun _ _=> ?_)
 refine e_one 4 (zw rfl rfl rfl rfl (.c rfl (.c rfl .n)) ce86 (zlb (w1:=w34) (w2:=w47) (x1:=(q1).num) (x2:=(((q2).den:Nat):Int)) (hb1:=by first|rfl|assumption|omega|(rw [yp];omega)|(decide +kernel)) (hb2:=by first|rfl|assumption|omega|(rw [yp];omega)|(decide +kernel))) (.c (j:=2) rfl (.c (j:=1) rfl .n)) ?_)
 rintro w38 -
 dsimp only [aq,nq,cq]
 refine e_one 9 (zw rfl rfl rfl rfl (.c rfl (.c rfl .n)) ce86 (zlb (w1:=w36) (w2:=w45) (x1:=(q2).num) (x2:=(((q1).den:Nat):Int)) (hb1:=by first|rfl|assumption|omega|(rw [yp];omega)|(decide +kernel)) (hb2:=by first|rfl|assumption|omega|(rw [yp];omega)|(decide +kernel))) (.c (j:=1) rfl (.c (j:=4) rfl .n)) ?_)
 rintro w39 -
 dsimp only [aq,nq,cq]
 refine e_one 10 (zw rfl rfl rfl rfl (.c rfl (.c rfl .n)) ce85 (zyd (w1:=w38) (w2:=w39) (x1:=((q1).num)*(((q2).den:Nat):Int)) (x2:=((q2).num)*(((q1).den:Nat):Int)) (hb1:=by first|rfl|assumption|omega|(rw [yp];omega)|(decide +kernel)) (hb2:=by first|rfl|assumption|omega|(rw [yp];omega)|(decide +kernel))) (.c (j:=1) rfl (.c (j:=0) rfl .n)) ?_)
 rintro w310 -
 dsimp only [aq,nq,cq]
 refine e_one 15 (zw rfl rfl rfl rfl (.c rfl (.c rfl .n)) ce86 (zlb (w1:=w45) (w2:=w47) (x1:=(((q1).den:Nat):Int)) (x2:=(((q2).den:Nat):Int)) (hb1:=by first|rfl|assumption|omega|(rw [yp];omega)|(decide +kernel)) (hb2:=by first|rfl|assumption|omega|(rw [yp];omega)|(decide +kernel))) (.c (j:=6) rfl (.c (j:=4) rfl .n)) ?_)
 rintro w311 -
 dsimp only [aq,nq,cq]
 refine e_one 16 (zw rfl rfl rfl rfl (.c rfl (.c rfl .n)) ce121 (zHb (w1:=w310) (w2:=w311) (x1:=(((q1).num)*(((q2).den:Nat):Int))+(((q2).num)*(((q1).den:Nat):Int))) (x2:=(((q1).den:Nat):Int)*(((q2).den:Nat):Int)) (hl1:=by first|rfl|assumption|omega|(rw [yp];omega)|(decide +kernel)) (hl2:=by first|rfl|assumption|omega|(rw [yp];omega)|(decide +kernel)) (hd:=by exact Int.mul_ne_zero (yP q1) (yP q2))) (.c (j:=1) rfl (.c (j:=0) rfl .n)) ?_)
 rintro ⟨w312,w413⟩ -
 dsimp only [aq,nq,cq]
 refine e_one 17 (zv kr rfl rfl rfl rfl rfl sz43 rfl (.t4 .nil) ?_)
 refine zT kr<|zd<|zH ?_
 exact zy Tryz.results101 (w312,w413) trivial (zu 0 ty43 rfl rfl (.t4 .nil)) rfl (ho:=(.n:PickO _ _ _)) ((.e (j:=0) rfl (by rw [Big.add_parts]) .n):SelR _ _ _)
theorem zVb {k1:Bool} {u1:Wd} {v1:Wd} {q1:Rat} {k2:Bool} {u2:Wd} {v2:Wd} {q2:Rat} (hl:yI q1+yI q2+1≤1048576):Con yj 102 [.agg #[u1.b,u1.l,v1.b,v1.l],.agg #[u2.b,u2.l,v2.b,v2.l]] [] [qF k1 u1 v1 q1,qF k2 u2 v2 q2] (Y:=Wd×Wd) (fun y=>True) (fun y=> .agg #[y.1.b,y.1.l,y.2.b,y.2.l]) (fun y=>[]) (fun y=>[qF true y.1 y.2 (q1*q2)]):=by
 refine zm Tryz.func102 rfl rfl rfl (fun c=> ?_)
 show RunC _ _ _ _ _ [(0,.agg #[u1.b,u1.l,v1.b,v1.l]),(1,.agg #[u2.b,u2.l,v2.b,v2.l])] [] [qF k1 u1 v1 q1,qF k2 u2 v2 q2]
 have a1:=yz q1
 have a2:=yA q1
 have a3:=yz q2
 have a4:=yA q2
 have b1:=yK q1.num q2.den
 have b2:=yK q2.num q1.den
 have b3:=Big.zVc (q1.num*q2.den) (q2.num*q1.den)
 have b4:=yK (q1.den:Int) q2.den
 have b5:=yK q1.num q2.num
 refine zg<|za<|zM rfl rfl (zR rfl rfl) (fun b1=> ?_)
 refine zM rfl rfl (zR rfl rfl) (fun b2=> ?_)
 refine zM rfl rfl (zn zr43 rfl) (fun b3=> ?_)
 refine zh<|zd<|zg<|zqa (.c (i:=2) rfl (.c (i:=1) rfl (.c (i:=0) rfl .n)))<|zW (OW:=[boxA b1 43 (cw [u1,v1]),boxA b2 43 (cw [u2,v2])]) (O:=[boxA b3 43 (cw [wz,wz])]) 4 mixed (.then .ret) kr<|e_uw 0 rfl rfl (zc 0 ty43 rfl rfl (.t4 .nil))<|e_uw 2 rfl rfl (zc 1 ty43 rfl rfl (.t4 .nil))<|e_one 1 (zw rfl rfl rfl rfl (.c rfl .n) ce98 (zGa (k1:=k1) (u1:=u1) (v1:=v1) (q1:=q1)) (.c (j:=0) rfl .n) ?_)
 rintro ⟨w34,w45⟩ -
 dsimp only [aq,nq,cq]
 refine e_one 3 (zw rfl rfl rfl rfl (.c rfl .n) ce98 (zGa (k1:=k2) (u1:=u2) (v1:=v2) (q1:=q2)) (.c (j:=2) rfl .n) ?_)
 rintro ⟨w36,w47⟩ -
 dsimp only [aq,nq,cq]
 refine e_one 4 (zv kr rfl rfl rfl rfl rfl sz43 rfl (.t4 .nil) ?_)
 refine zQa (zca (i:=1) rfl)<|e_one 5 (zv kr rfl rfl rfl rfl rfl sz43 rfl (.t4 .nil) ?_)
 refine zT kr<|zd<|zg<|zqa (.c (i:=2) rfl (.c (i:=0) rfl (.c (i:=0) rfl .n)))<|zW (OW:=[boxA b3 43 (cw [wz,wz])]) (O:=[boxA b2 43 (cw [w36,w47]),boxA b1 43 (cw [w34,w45])]) 11 mixed (.then .ret) kr<|e_pv 0 rfl rfl (ze yi rfl sz41 rfl rfl)<|e_uw 1 rfl rfl (zc 2 ty41 rfl rfl (.t2 .nil))<|e_pv 2 rfl rfl (ze yi rfl sz41 rfl rfl)<|e_uw 3 rfl rfl (zc 1 ty41 rfl rfl (.t2 .nil))<|e_pv 5 rfl rfl (ze yi rfl sz41 rfl rfl)<|e_uw 6 rfl rfl (zc 2 ty41 rfl rfl (.s2 (.t2 .nil)))<|e_pv 7 rfl rfl (ze yi rfl sz41 rfl rfl)<|e_uw 8 rfl rfl (zc 1 ty41 rfl rfl (.s2 (.t2 .nil)))<|zKb (qF_open 1 rfl) (fun _ _=> ?_)
 refine zKb (qF_open 2 rfl) (fun _ _=> ?_)
 refine e_one 4 (zw rfl rfl rfl rfl (.c rfl (.c rfl .n)) ce86 (zlb (w1:=w34) (w2:=w36) (x1:=(q1).num) (x2:=(q2).num) (hb1:=by first|rfl|assumption|omega|(rw [yp];omega)|(decide +kernel)) (hb2:=by first|rfl|assumption|omega|(rw [yp];omega)|(decide +kernel))) (.c (j:=2) rfl (.c (j:=0) rfl .n)) ?_)
 rintro w38 -
 dsimp only [aq,nq,cq]
 refine e_one 9 (zw rfl rfl rfl rfl (.c rfl (.c rfl .n)) ce86 (zlb (w1:=w45) (w2:=w47) (x1:=(((q1).den:Nat):Int)) (x2:=(((q2).den:Nat):Int)) (hb1:=by first|rfl|assumption|omega|(rw [yp];omega)|(decide +kernel)) (hb2:=by first|rfl|assumption|omega|(rw [yp];omega)|(decide +kernel))) (.c (j:=4) rfl (.c (j:=2) rfl .n)) ?_)
 rintro w39 -
 dsimp only [aq,nq,cq]
 refine e_one 10 (zw rfl rfl rfl rfl (.c rfl (.c rfl .n)) ce121 (zHb (w1:=w38) (w2:=w39) (x1:=((q1).num)*((q2).num)) (x2:=(((q1).den:Nat):Int)*(((q2).den:Nat):Int)) (hl1:=by first|rfl|assumption|omega|(rw [yp];omega)|(decide +kernel)) (hl2:=by first|rfl|assumption|omega|(rw [yp];omega)|(decide +kernel)) (hd:=by exact Int.mul_ne_zero (yP q1) (yP q2))) (.c (j:=1) rfl (.c (j:=0) rfl .n)) ?_)
 rintro ⟨w310,w411⟩ -
 dsimp only [aq,nq,cq]
 refine e_one 11 (zv kr rfl rfl rfl rfl rfl sz43 rfl (.t4 .nil) ?_)
 refine zT kr<|zd<|zH ?_
 exact zy Tryz.results102 (w310,w411) trivial (zu 0 ty43 rfl rfl (.t4 .nil)) rfl (ho:=(.n:PickO _ _ _)) ((.e (j:=0) rfl (by rw [Big.mul_parts]) .n):SelR _ _ _)
theorem zIb {k1:Bool} {u1:Wd} {v1:Wd} {q1:Rat} {k2:Bool} {u2:Wd} {v2:Wd} {q2:Rat} (hl:yI q1+yI q2+1≤1048576):Con yj 100 [.agg #[u1.b,u1.l,v1.b,v1.l],.agg #[u2.b,u2.l,v2.b,v2.l]] [] [qF k1 u1 v1 q1,qF k2 u2 v2 q2] (Y:=Wd×Wd) (fun y=>True) (fun y=> .agg #[y.1.b,y.1.l,y.2.b,y.2.l]) (fun y=>[]) (fun y=>[qF true y.1 y.2 (q1 - q2)]):=by
 refine zm Tryz.func100 rfl rfl rfl (fun c=> ?_)
 show RunC _ _ _ _ _ [(0,.agg #[u1.b,u1.l,v1.b,v1.l]),(1,.agg #[u2.b,u2.l,v2.b,v2.l])] [] [qF k1 u1 v1 q1,qF k2 u2 v2 q2]
 have a1:=yz q1
 have a2:=yA q1
 have a3:=yz q2
 have a4:=yA q2
 refine zg<|za<|zM rfl rfl (zR rfl rfl) (fun b1=> ?_)
 refine zM rfl rfl (zR rfl rfl) (fun b2=> ?_)
 refine zM rfl rfl (zn zr43 rfl) (fun b3=> ?_)
 refine zh<|zd<|zg<|zW (OW:=[boxA b3 43 (cw [wz,wz])]) (O:=[boxA b2 43 (cw [u2,v2]),boxA b1 43 (cw [u1,v1])]) 4 mixed (.then .ret) kr<|e_uw 0 rfl rfl (zc 2 ty43 rfl rfl (.t4 .nil))<|e_uw 1 rfl rfl (zc 1 ty43 rfl rfl (.t4 .nil))<|e_one 2 (zw rfl rfl rfl rfl (.c rfl .n) ce126 (zlg (k1:=k2) (u1:=u2) (v1:=v2) (q1:=q2) (hl:=by first|rfl|assumption|omega|(rw [yp];omega)|(decide +kernel)|(rw [Big.hq_neg];omega))) (.c (j:=1) rfl .n) ?_)
 rintro ⟨w34,w45⟩ -
 dsimp only [aq,nq,cq]
 refine e_one 3 (zw rfl rfl rfl rfl (.c rfl (.c rfl .n)) ce101 (zsc (k1:=k1) (u1:=u1) (v1:=v1) (q1:=q1) (k2:=true) (u2:=w34) (v2:=w45) (q2:= - q2) (hl:=by first|rfl|assumption|omega|(rw [yp];omega)|(decide +kernel)|(rw [Big.hq_neg];omega))) (.c (j:=1) rfl (.c (j:=0) rfl .n)) ?_)
 rintro ⟨w36,w47⟩ -
 dsimp only [aq,nq,cq]
 refine e_one 4 (zv kr rfl rfl rfl rfl rfl sz43 rfl (.t4 .nil) ?_)
 refine zT kr<|zd<|zH ?_
 exact zy Tryz.results100 (w36,w47) trivial (zu 0 ty43 rfl rfl (.t4 .nil)) rfl (ho:=(.n:PickO _ _ _)) ((.e (j:=0) rfl (by rw [Rat.sub_eq_add_neg]) .n):SelR _ _ _)
theorem zad {w1:Wd} {x1:Int}:Con yj 119 [.agg #[w1.b,w1.l]] [] [zF w1 x1] (Y:=Wd) (fun y=>True) (fun y=> .agg #[y.b,y.l]) (fun y=>[]) (fun y=>[zF y x1]):=by
 refine zm Tryz.func119 rfl rfl rfl (fun c=> ?_)
 show RunC _ _ _ _ _ [(0,.agg #[w1.b,w1.l])] [] [zF w1 x1]
 refine zg<|za<|zM rfl rfl (zR rfl rfl) (fun b1=> ?_)
 refine zM rfl rfl (zn zr41 rfl) (fun b2=> ?_)
 refine zh<|zd<|zg<|zg<|za<|e_ru (zc 1 ty41 rfl rfl (.t2 .nil))<|zL rfl rfl (.c rfl .n) ce138 (zUe (w1:=w1) (x1:=x1)) (.c (j:=0) rfl .n)<|zh<|zd<|zCb rfl rfl<|zg<|za<|e_ru (zc 1 ty41 rfl rfl (.t2 .nil))<|zk 0 rfl rfl rfl rfl rfl sz41 rfl (.t2 .nil) .z<|zh<|zd<|zH<|zi ?_
 exact zy Tryz.results119 w1 trivial (zu 0 ty41 rfl rfl (.t2 .nil)) rfl (ho:=(.n:PickO _ _ _)) ((.c (j:=0) rfl .n):SelR _ _ _)
theorem zIf {w1:Wd} {w2:Wd} {x1:Int} {x2:Int} (hl1:yt x1≤1048576) (hl2:yt x2≤1048576):Con yj 87 [.agg #[w1.b,w1.l],.agg #[w2.b,w2.l]] [] [zF w1 x1,zF w2 x2] (Y:=Wd×Wd) (fun y=>True) (fun y=> .tuple #[.agg #[y.1.b,y.1.l,y.2.b,y.2.l],ya yb (if x2=0 then 14 else 0)]) (fun y=>[]) (fun y=>[qF (decide (x2≠0)) y.1 y.2 (Rat.divInt x1 x2)]):=by
 refine zm Tryz.func87 rfl rfl rfl (fun c=> ?_)
 show RunC _ _ _ _ _ [(0,.agg #[w1.b,w1.l]),(1,.agg #[w2.b,w2.l])] [] [zF w1 x1,zF w2 x2]
 refine zg<|za<|zM rfl rfl (zR rfl rfl) (fun b1=> ?_)
 refine zM rfl rfl (zR rfl rfl) (fun b2=> ?_)
 refine zM rfl rfl (zn zr43 rfl) (fun b3=> ?_)
 refine e_p (zb rfl)<|zh<|zd<|zg<|zqa (.c (i:=2) rfl (.c (i:=1) rfl (.c (i:=0) rfl .n)))<|zW (OW:=[boxA b1 41 [w1.b,w1.l],boxA b2 41 [w2.b,w2.l]]) (O:=[boxA b3 43 (cw [wz,wz])]) 4 mixed (.then .ret) kr<|e_uw 0 rfl rfl (zc 0 ty41 rfl rfl (.t2 .nil))<|e_uw 2 rfl rfl (zc 1 ty41 rfl rfl (.t2 .nil))<|e_one 1 (zw rfl rfl rfl rfl (.c rfl .n) ce119 (zad (w1:=w1) (x1:=x1)) (.c (j:=0) rfl .n) ?_)
 rintro w34 -
 dsimp only [aq,nq,cq]
 refine e_one 3 (zw rfl rfl rfl rfl (.c rfl .n) ce119 (zad (w1:=w2) (x1:=x2)) (.c (j:=2) rfl .n) ?_)
 rintro w35 -
 dsimp only [aq,nq,cq]
 refine e_one 4 (zv kr rfl rfl rfl rfl rfl sz41 rfl (.t2 .nil) ?_)
 refine zQa (zca (i:=1) rfl)<|e_one 5 (zv kr rfl rfl rfl rfl rfl sz41 rfl (.t2 .nil) ?_)
 refine zT kr<|zd<|zg<|zg<|za<|e_ru (zc 0 ty41 rfl rfl (.t2 .nil))<|zL rfl rfl (.c rfl .n) ce120 (zrc (w1:=w35) (x1:=x2)) (.c (j:=0) rfl .n)<|e_p (zua rfl rfl)<|zh<|zd<|zC rfl (fun hz0=> ?_) (fun hz0=> ?_)
 ·
  have hx0:x2=0:=yL.1 hz0
  refine zg<|za<|e_p (zJ zr43 rfl yi (.c sz41 (.c sz41 .n)) .n .n)<|zk 2 rfl rfl rfl rfl rfl sz43 rfl (.t4 .nil) (.s (.s .z))<|e_p (zb rfl)<|zh<|zd<|zH<|zi<|zub (qF false wz wz 0) (fun g _=>qF_none g) ?_
  exact zra Tryz.results87 (wz,wz) trivial (zu 2 ty43 rfl rfl (.t4 .nil)) (zl rfl) (by rw [if_pos hx0];rfl) (ho:=(.n:PickO _ _ _)) ((.e (j:=0) rfl (by rw [Big.divInt_nil hx0,decide_eq_false (not_not_intro hx0)]) .n):SelR _ _ _)
 ·
  have hx0:x2≠0:=fun e=>hz0 (yL.2 e)
  refine zA<|zd<|zg<|za<|e_ru (zc 1 ty41 rfl rfl (.t2 .nil))<|e_ru (zc 0 ty41 rfl rfl (.t2 .nil))<|zE rfl rfl (.c rfl (.c rfl .n)) ce121 (zHb (w1:=w34) (w2:=w35) (x1:=x1) (x2:=x2) (hl1:=ass) (hl2:=ass) (hd:=by first|rfl|assumption|omega|(rw [yp];omega)|(decide +kernel))) (.c (j:=1) rfl (.c (j:=0) rfl .n)) ?_
  rintro ⟨w36,w47⟩ -
  dsimp only [aq,nq,cq]
  refine zk 2 rfl rfl rfl rfl rfl sz43 rfl (.t4 .nil) (.s (.s .z))<|e_p (zb rfl)<|zh<|zd<|zH ?_
  exact zra Tryz.results87 (w36,w47) trivial (zu 2 ty43 rfl rfl (.t4 .nil)) (zl rfl) (by rw [if_neg hx0]) (ho:=(.n:PickO _ _ _)) ((.e (j:=0) rfl (by rw [decide_eq_true hx0]) .n):SelR _ _ _)
theorem zqe {k1:Bool} {u1:Wd} {v1:Wd} {q1:Rat} {k2:Bool} {u2:Wd} {v2:Wd} {q2:Rat} (hl:yI q1+yI q2+1≤1048576):Con yj 99 [.agg #[u1.b,u1.l,v1.b,v1.l],.agg #[u2.b,u2.l,v2.b,v2.l]] [] [qF k1 u1 v1 q1,qF k2 u2 v2 q2] (Y:=Wd×Wd) (fun y=>True) (fun y=> .tuple #[.agg #[y.1.b,y.1.l,y.2.b,y.2.l],ya yb (if q2=0 then 14 else 0)]) (fun y=>[]) (fun y=>[qF (decide (q2≠0)) y.1 y.2 (q1 / q2)]):=by
 refine zm Tryz.func99 rfl rfl rfl (fun c=> ?_)
 show RunC _ _ _ _ _ [(0,.agg #[u1.b,u1.l,v1.b,v1.l]),(1,.agg #[u2.b,u2.l,v2.b,v2.l])] [] [qF k1 u1 v1 q1,qF k2 u2 v2 q2]
 have a1:=yz q1
 have a2:=yA q1
 have a3:=yz q2
 have a4:=yA q2
 have b1:=yK q1.num q2.den
 have b2:=yK (q1.den:Int) q2.num
 refine zg<|za<|zM rfl rfl (zR rfl rfl) (fun b1=> ?_)
 refine zM rfl rfl (zR rfl rfl) (fun b2=> ?_)
 refine zM rfl rfl (zn zr43 rfl) (fun b3=> ?_)
 refine e_p (zb rfl)<|zh<|zd<|zg<|zqa (.c (i:=2) rfl (.c (i:=1) rfl (.c (i:=0) rfl .n)))<|zW (OW:=[boxA b1 43 (cw [u1,v1]),boxA b2 43 (cw [u2,v2])]) (O:=[boxA b3 43 (cw [wz,wz])]) 4 mixed (.then .ret) kr<|e_uw 0 rfl rfl (zc 0 ty43 rfl rfl (.t4 .nil))<|e_uw 2 rfl rfl (zc 1 ty43 rfl rfl (.t4 .nil))<|e_one 1 (zw rfl rfl rfl rfl (.c rfl .n) ce98 (zGa (k1:=k1) (u1:=u1) (v1:=v1) (q1:=q1)) (.c (j:=0) rfl .n) ?_)
 rintro ⟨w34,w45⟩ -
 dsimp only [aq,nq,cq]
 refine e_one 3 (zw rfl rfl rfl rfl (.c rfl .n) ce98 (zGa (k1:=k2) (u1:=u2) (v1:=v2) (q1:=q2)) (.c (j:=2) rfl .n) ?_)
 rintro ⟨w36,w47⟩ -
 dsimp only [aq,nq,cq]
 refine e_one 4 (zv kr rfl rfl rfl rfl rfl sz43 rfl (.t4 .nil) ?_)
 refine zQa (zca (i:=1) rfl)<|e_one 5 (zv kr rfl rfl rfl rfl rfl sz43 rfl (.t4 .nil) ?_)
 refine zT kr<|zd<|zg<|zg<|za<|e_p (ze yi rfl sz41 rfl rfl)<|e_ru (zc 0 ty41 rfl rfl (.t2 .nil))<|zEc (qF_open 0 rfl) (fun _ _=> ?_)
 refine zL rfl rfl (.c rfl .n) ce120 (zrc (w1:=w36) (x1:=(q2).num)) (.c (j:=0) rfl .n)<|e_p (zua rfl rfl)<|zh<|zd<|zC rfl (fun hz0=> ?_) (fun hz0=> ?_)
 ·
  have hx0:q2=0:=Rat.num_eq_zero.1 (yL.1 hz0)
  refine zg<|za<|e_p (zJ zr43 rfl yi (.c sz41 (.c sz41 .n)) .n .n)<|zk 2 rfl rfl rfl rfl rfl sz43 rfl (.t4 .nil) (.s (.s .z))<|e_p (zb rfl)<|zh<|zd<|zH<|zi<|zub (qF false wz wz 0) (fun g _=>qF_none g) ?_
  exact zra Tryz.results99 (wz,wz) trivial (zu 2 ty43 rfl rfl (.t4 .nil)) (zl rfl) (by rw [if_pos hx0];rfl) (ho:=(.n:PickO _ _ _)) ((.e (j:=0) rfl (by rw [Big.div_nil hx0,decide_eq_false (not_not_intro hx0)]) .n):SelR _ _ _)
 ·
  have hx1:q2.num≠0:=fun e=>hz0 (yL.2 e)
  have hx0:q2≠0:=fun e=>hx1 (Rat.num_eq_zero.2 e)
  refine zA<|zd<|zg<|zqa (.c (i:=2) rfl (.c (i:=0) rfl (.c (i:=0) rfl .n)))<|zW (OW:=[boxA b3 43 (cw [wz,wz])]) (O:=[boxA b2 43 (cw [w36,w47]),boxA b1 43 (cw [w34,w45])]) 11 mixed (.then .ret) kr<|e_pv 0 rfl rfl (ze yi rfl sz41 rfl rfl)<|e_uw 1 rfl rfl (zc 2 ty41 rfl rfl (.t2 .nil))<|e_pv 2 rfl rfl (ze yi rfl sz41 rfl rfl)<|e_uw 3 rfl rfl (zc 1 ty41 rfl rfl (.s2 (.t2 .nil)))<|e_pv 5 rfl rfl (ze yi rfl sz41 rfl rfl)<|e_uw 6 rfl rfl (zc 2 ty41 rfl rfl (.s2 (.t2 .nil)))<|e_pv 7 rfl rfl (ze yi rfl sz41 rfl rfl)<|e_uw 8 rfl rfl (zc 1 ty41 rfl rfl (.t2 .nil))<|zKb (qF_open 3 rfl) (fun _ _=> ?_)
  refine e_one 4 (zw rfl rfl rfl rfl (.c rfl (.c rfl .n)) ce86 (zlb (w1:=w34) (w2:=w47) (x1:=(q1).num) (x2:=(((q2).den:Nat):Int)) (hb1:=by first|rfl|assumption|omega|(rw [yp];omega)|(decide +kernel)) (hb2:=by first|rfl|assumption|omega|(rw [yp];omega)|(decide +kernel))) (.c (j:=0) rfl (.c (j:=3) rfl .n)) ?_)
  rintro w38 -
  dsimp only [aq,nq,cq]
  refine e_one 9 (zw rfl rfl rfl rfl (.c rfl (.c rfl .n)) ce86 (zlb (w1:=w45) (w2:=w36) (x1:=(((q1).den:Nat):Int)) (x2:=(q2).num) (hb1:=by first|rfl|assumption|omega|(rw [yp];omega)|(decide +kernel)) (hb2:=by first|rfl|assumption|omega|(rw [yp];omega)|(decide +kernel))) (.c (j:=2) rfl (.c (j:=3) rfl .n)) ?_)
  rintro w39 -
  dsimp only [aq,nq,cq]
  refine e_one 10 (zw rfl rfl rfl rfl (.c rfl (.c rfl .n)) ce121 (zHb (w1:=w38) (w2:=w39) (x1:=((q1).num)*(((q2).den:Nat):Int)) (x2:=(((q1).den:Nat):Int)*((q2).num)) (hl1:=by first|rfl|assumption|omega|(rw [yp];omega)|(decide +kernel)) (hl2:=by first|rfl|assumption|omega|(rw [yp];omega)|(decide +kernel)) (hd:=by exact Int.mul_ne_zero (yP q1) hx1)) (.c (j:=1) rfl (.c (j:=0) rfl .n)) ?_)
  rintro ⟨w310,w411⟩ -
  dsimp only [aq,nq,cq]
  refine e_one 11 (zv kr rfl rfl rfl rfl rfl sz43 rfl (.t4 .nil) ?_)
  refine e_pv 12 rfl rfl (zb rfl)<|zT kr<|zd<|zH ?_
  exact zra Tryz.results99 (w310,w411) trivial (zu 0 ty43 rfl rfl (.t4 .nil)) (zl rfl) (by rw [if_neg hx0]) (ho:=(.n:PickO _ _ _)) ((.e (j:=0) rfl (by rw [decide_eq_true hx0,Big.div_parts hx1]) .n):SelR _ _ _)
theorem zmb {k1:Bool} {u1:Wd} {v1:Wd} {q1:Rat} {k2:Bool} {u2:Wd} {v2:Wd} {q2:Rat} (hl:yI q1+yI q2+1≤1048576) (hy:q2≠0):Con yj 99 [.agg #[u1.b,u1.l,v1.b,v1.l],.agg #[u2.b,u2.l,v2.b,v2.l]] [] [qF k1 u1 v1 (q1),qF k2 u2 v2 (q2)] (Y:=(Wd)×(Wd)) (fun y=>True) (fun y=> .tuple #[.agg #[y.1.b,y.1.l,y.2.b,y.2.l],ya yb (0)]) (fun y=>[]) (fun y=>[qF true y.1 y.2 (q1 / q2)]):=by
  have h:= @zqe k1 u1 v1 q1 k2 u2 v2 q2 hl
  rw [if_neg hy,decide_eq_true hy] at h
  exact h
end Go.Proofs.YtjcpbhlijoigfaaGreat.Sp
