/- Lemmas on the walk and plain lemmas that the claim of this folder uses; each states its own conditions. Lines were printed by a program of ours. -/
import Derived.Test.YtkohlohbogpooaaGreatZ6B
set_option linter.unusedVariables false
set_option linter.unusedSimpArgs false
set_option linter.unusedSectionVars false
open Go.Value renaming int → ya, pointer → yc
open Go.IntKind renaming i64 → yb
open Go.Proofs.YtkohlohbogpooaaGreat.Big renaming digs → yd, valL → yg, raw → yk, zO → ym, okL_getD → yn, trimL → yo, digs_ok → yp, ln → yq, raw_big → yr, hq_num → yt, hq_den → yu, okL → yv, sg → yw, valL_digs → yz, pw → yA, hq → yB, zDa → yD, sign_zero → yE, nn → yF, gcd_pos_right → yG, cmp → yH, len_digs_nil → yI, den_ne → yJ, getD_set_ne → yK, okL_snoc → yM, ln_mono' → yN, qv → yO, hq_neg → yP, okL_set → yQ, zPa → yR, hq_divInt → yS, canon → yT, qv_parts → yU, sg_raw → yV, two_lt → yW, LgI → yX
open Go.Proofs.Tryz renaming underlying24 → ye, underlying28 → yf, prog → yh, underlying115 → yi, underlying128 → yj, underlying26 → yl, underlying2 → yx, underlying4 → yC, results150 → yL
namespace Go.Proofs.YtkohlohbogpooaaGreat.Sp
open Go
set_option linter.unusedVariables false
set_option maxRecDepth 100000
set_option maxHeartbeats 8000000
theorem zub {p:Option Addr} {n:Nat} {cap:Nat} {l:List Int} (hn:l.length=n):Con yh 156 [.slice p n cap] [] [slF (rI .u32) p cap l] (Y:=Unit) (fun y=>True) (fun y=> .slice p ((yo l).length) cap) (fun y=>[]) (fun y=>[slF (rI .u32) p cap (yo l)]):=by
 refine zl Tryz.func156 rfl rfl rfl (fun c=> ?_)
 show RunC _ _ _ _ _ [(0,.slice p n cap)] [] [slF (rI .u32) p cap l]
 refine zY 0 rfl (fun hL0=> ?_)
 refine ze<|za<|e_p (zb rfl)<|zf<|zc<|ze<|zt<|zea (X:=Nat) (fun x:Nat=>x≤l.length∧yo (l.take x)=yo l) (fun x=>[(0,.slice p x cap),(2,.slice none 0 0)]) (fun x=>[]) (fun x=>[slF (rI .u32) p cap (l.take x),slF (rI .u32) p cap l]) (fun x:Nat=>x) n (show n≤l.length∧yo (l.take n)=yo l from by exact ⟨by omega,by rw [List.take_of_length_le om]⟩) ((.c rfl (.c rfl .n)):SubM _ _) (ho:=(.n:PickO _ _ _)) ((.e (j:=0) rfl (by rw [List.take_of_length_le om]) (.c (j:=0) rfl .n)):SelR _ _ _) ?_
 rintro k hI
 replace hI:k≤l.length∧yo (l.take k)=yo l:=hI
 try dsimp only
 obtain ⟨hk,hT⟩:=hI
 have hlt:(l.take k).length=k:=by rw [List.length_take];omega
 refine ze<|zGa (X:=Unit) (fun x=>True) (fun x=>[(14,.bool (decide (0<k∧l.getD (k - 1) 0=0))),(0,.slice p k cap),(2,.slice none 0 0)]) (fun x=>[]) (fun x=>[slF (rI .u32) p cap (l.take k),slF (rI .u32) p cap l]) ?_ ?_
 ·
  refine za<|e_mv rfl<|e_p (zD ye rfl)<|e_p (zna rfl rfl)<|zW rfl rfl (zba rfl) (fun h1=> ?_) (fun h1=> ?_)
  ·
   refine e_mv rfl<|e_mv rfl<|e_p (zD ye rfl)<|e_p (zja (z:=(((k:Nat):Int) - 1)) rfl rfl (w64 om))<|zV (x0:=((l.take k).getD ((((k:Nat):Int) - 1).toNat) 0)) 0 ((((k:Nat):Int) - 1).toNat) rfl ye sz115 rfl rfl rfl cbs rfl om (gD (d:=0) om) (fun b2 o3 hok4=> ?_)
   replace hok4:=zx.1 hok4
   refine e_ru (zj (j:=0) 0 ty115 rfl rfl rfl rfl)<|e_p (zta rfl rfl)<|e_p (zn rfl rfl)<|zf ?_
   exact zia () (show True from by first|trivial|omega|simp_all) ((.e rfl (congrArg Value.bool (by rw [Big.getD_take l om];have h1:0<k:=om;have h2:((k:Int) - 1).toNat=k - 1:=om;simp [h1,h2])) (.c rfl (.c rfl .n))):SubM _ _) (ho:=(.n:PickO _ _ _)) ((.of [1,2] rfl):SelR _ _ _)
  ·
   refine e_no<|e_no<|e_no<|e_no<|e_no<|e_no<|e_no<|e_p (zn rfl rfl)<|zf ?_
   exact zia () (show True from by first|trivial|omega|simp_all) ((.e rfl (congrArg Value.bool (by have h1:¬0<k:=om;simp [h1])) (.c rfl (.c rfl .n))):SubM _ _) (ho:=(.n:PickO _ _ _)) ((.of [0,1] rfl):SelR _ _ _)
 ·
  rintro ⟨⟩ -
  try dsimp only
  refine zB rfl (fun hc=> ?_) (fun hc=> ?_)
  ·
   refine zv<|zc<|zt<|za<|e_mv rfl<|e_mv rfl<|e_p (zD ye rfl)<|e_p (zja (z:=(((k - 1):Nat):Int)) rfl rfl (w64 om))<|e_p (zpb (hi:=(k - 1)) ye sz115 rfl (.s rfl) (.inr ⟨_,rfl⟩) om)<|zCb (zTb 0 rfl (k - 1) om) (fun _ _=> ?_)
   refine e_p (zb rfl)<|zf<|zM<|zaa (k - 1) (show (k - 1)≤l.length∧yo (l.take (k - 1))=yo l from by exact ⟨by omega,by rw [← hT,Big.trim_go l hc.1 hk hc.2]⟩) (by show k - 1<k;omega) ((.e rfl (by first|rfl|(congr 1;omega)|simp_all) (.c rfl .n)):SubM _ _) (ho:=(.n:PickO _ _ _)) ((.e (j:=0) rfl (by rw [List.take_take];congr 2;omega) (.c (j:=2) rfl .n)):SelR _ _ _)
  ·
   refine zda<|zi<|zi<|zr<|zc<|ze<|za<|e_mv rfl<|e_p (zb rfl)<|zf<|zc<|zJ ?_
   have hfin:yo l=l.take k:=by rw [← hT];exact Big.trim_stop l hk hc
   exact zy Tryz.results156 () trivial (zo rfl) (by rw [hfin,hlt]) (ho:=(.n:PickO _ _ _)) ((.e (j:=0) rfl (by rw [hfin]) .n):SelR _ _ _)
theorem zne {p:Option Addr} {n:Nat} {cap:Nat} {l:List Int} {i:Nat} (hn:l.length=n) (hi:i≤4611686018427387904):Con yh 171 [.slice p n cap,ya yb ((i:Nat):Int)] [] [slF (rI .u32) p cap l] (Y:=Unit) (fun y=>True) (fun y=> .int .u32 (l.getD i 0)) (fun y=>[]) (fun y=>[]):=by
 refine zl Tryz.func171 rfl rfl rfl (fun c=> ?_)
 show RunC _ _ _ _ _ [(0,.slice p n cap),(1,ya yb ((i:Nat):Int))] [] [slF (rI .u32) p cap l]
 refine zY 0 rfl (fun hL0=> ?_)
 refine ze<|za<|e_p (zb rfl)<|zf<|zc<|ze<|ze<|za<|e_mv rfl<|e_mv rfl<|e_p (zD ye rfl)<|e_p (zT rfl rfl)<|zf<|zc<|zB rfl (fun h1=> ?_) (fun h1=> ?_)
 ·
  refine ze<|za<|e_mv rfl<|e_mv rfl<|zV (x0:=(l.getD i 0)) 0 i rfl ye sz115 rfl rfl rfl cbs rfl rfl (gD (d:=0) om) (fun b2 o3 hok4=> ?_)
  replace hok4:=zx.1 hok4
  refine e_ru (zj (j:=0) 0 ty115 rfl rfl rfl rfl)<|e_p (zb rfl)<|zf<|zc<|zJ<|zm ?_
  exact zy Tryz.results171 () trivial (zo rfl) rfl (ho:=(.n:PickO _ _ _)) (.n:SelR _ _ _)
 ·
  refine zv<|zc<|ze<|za<|e_p (zb rfl)<|zf<|zc<|zJ ?_
  exact zy Tryz.results171 () trivial (zo rfl) (by rw [show l.getD i 0=0 by simp [List.getD,List.getElem?_eq_none (show l.length≤i by omega)]]) (ho:=(.n:PickO _ _ _)) (.n:SelR _ _ _)
theorem zQf {p1:Option Addr} {n1:Nat} {c1:Nat} {l1:List Int} {p2:Option Addr} {n2:Nat} {c2:Nat} {l2:List Int} (hn1:l1.length=n1) (hn2:l2.length=n2) (hb1:n1≤4398046511104) (hb2:n2≤4398046511104) (ho1:yv l1) (ho2:yv l2):Con yh 158 [.slice p1 n1 c1,.slice p2 n2 c2] [] [slF (rI .u32) p1 c1 l1,slF (rI .u32) p2 c2 l2] (Y:=(Option Addr)×Nat) (fun y=>True) (fun y=> .slice (y.1) ((yd (yg l1+yg l2).toNat).length) (y.2)) (fun y=>[]) (fun y=>[slF (rI .u32) (y.1) (y.2) (yd (yg l1+yg l2).toNat)]):=by
 refine zl Tryz.func158 rfl rfl rfl (fun c=> ?_)
 show RunC _ _ _ _ _ [(0,.slice p1 n1 c1),(1,.slice p2 n2 c2)] [] [slF (rI .u32) p1 c1 l1,slF (rI .u32) p2 c2 l2]
 refine zY 0 rfl (fun hL0=> ?_)
 refine zY 1 rfl (fun hL1=> ?_)
 refine ze<|za<|e_p (zb rfl)<|zf<|zc<|ze<|za<|e_mv rfl<|e_p (zD ye rfl)<|e_mv rfl<|e_p (zD ye rfl)<|e_p (v:= ya yb (((max n1 n2):Nat):Int)) (by rw [show ((((max n1 n2):Nat):Int):Int)=max ((n1:Nat):Int) ((n2:Nat):Int) by omega];exact zeg rfl rfl)<|e_p (zH (z:=((((max n1 n2)+1):Nat):Int)) rfl rfl (w64 om))<|zra rfl rfl (zCa (r:=rI .u32) (k:=((max n1 n2)+1)) (x0:=0) (γ0:=()) ye inf115 rfl rfl rfl rfl om om rfl (fun g _=>by exact zx.2 dd) dd) (fun b1 _=> ?_)
 refine e_p (zb rfl)<|zf<|zc<|ze<|za<|e_p (zb rfl)<|zf<|zc<|ze<|ze<|za<|e_mv rfl<|e_p (zD ye rfl)<|e_mv rfl<|zf<|zc<|zt<|zea (X:=Nat×(List Int)×Int) (fun x:Nat×(List Int)×Int=>x.1≤max n1 n2+1∧x.2.1.length=x.1∧0≤x.2.2∧x.2.2≤1∧yv x.2.1∧yg x.2.1+yA x.1*x.2.2=yg (l1.take x.1)+yg (l2.take x.1)) (fun x=>[(6,.int .u32 (x.2.2)),(18,ya yb ((x.1:Nat):Int)),(17,ya yb ((((max n1 n2)+1):Nat):Int)),(5,.slice (some ⟨b1,0,none⟩) ((max n1 n2)+1) ((max n1 n2)+1)),(4,.slice none 0 0),(0,.slice p1 n1 c1),(1,.slice p2 n2 c2)]) (fun x=>[rowA 115 (rI .u32) (some ⟨b1,0,none⟩) ((max n1 n2)+1) (x.2.1++List.replicate (max n1 n2+1 - x.1) 0)]) (fun x=>[slF (rI .u32) p1 c1 l1,slF (rI .u32) p2 c2 l2]) (fun x:Nat×(List Int)×Int=>max n1 n2+1 - x.1) (0,[],0) (show 0≤max n1 n2+1∧([]).length=0∧0≤0∧0≤1∧yv ([])∧yg ([])+yA 0*0=yg (l1.take 0)+yg (l2.take 0) from by exact ⟨by omega,rfl,by decide,by decide,Big.okL_nil,by simp [yg]⟩) ((.c rfl (.e rfl (by first|rfl|(congr 1;omega)|simp_all) (.of rfl))):SubM _ _) (ho:=((.e (i:=0) rfl (by simp) .n):PickO _ _ _)) ((.of [0,1] rfl):SelR _ _ _) ?_
 rintro ⟨i,os,cy⟩ hI
 replace hI:i≤max n1 n2+1∧os.length=i∧0≤cy∧cy≤1∧yv os∧yg os+yA i*cy=yg (l1.take i)+yg (l2.take i):=hI
 try dsimp only
 obtain ⟨hi,hol,hc0,hc1,hok,hv⟩:=hI
 have hg1:=yn ho1 i
 have hg2:=yn ho2 i
 refine ze<|za<|e_p (zT rfl rfl)<|zf<|zc<|ze<|zB rfl (fun h2=> ?_) (fun h2=> ?_)
 ·
  refine zv<|zc<|ze<|zt<|ze<|za<|e_mv rfl<|e_p (zb rfl)<|zf<|zc<|ze<|za<|e_mv rfl<|e_mv rfl<|zQ rfl rfl (.c rfl (.c rfl .n)) ce171 (zne (p:=p1) (n:=n1) (cap:=c1) (l:=l1) (i:=i) (hn:=ass) (hi:=cbb)) (.c (j:=0) rfl .n)<|e_mv rfl<|e_mv rfl<|zQ rfl rfl (.c rfl (.c rfl .n)) ce171 (zne (p:=p2) (n:=n2) (cap:=c2) (l:=l2) (i:=i) (hn:=ass) (hi:=cbb)) (.c (j:=1) rfl .n)<|e_p (zH (z:=(l1.getD i 0+l2.getD i 0)) rfl rfl (wu32 om))<|e_mv rfl<|e_p (zH (z:=((l1.getD i 0+l2.getD i 0)+cy)) rfl rfl (wu32 om))<|e_p (zb rfl)<|zf<|zc<|ze<|za<|e_p (zb rfl)<|zf<|zc<|ze<|ze<|za<|e_mv rfl<|e_p (zIa rfl rfl)<|zf<|zc<|zB rfl (fun hc=> ?_) (fun hc=> ?_)
  ·
   refine za<|e_mv rfl<|e_p (zja (z:=(((l1.getD i 0+l2.getD i 0)+cy) - 1000000000)) rfl rfl (wu32 om))<|e_p (zb rfl)<|e_p (zb rfl)<|zf<|zc<|za<|e_mv rfl<|e_mv rfl<|e_mv rfl<|e_p (zI (j:=i) ye sz115 rfl rfl rfl om)<|zza 0 rfl rfl rfl (zL (j:=i) (x0:=(((l1.getD i 0+l2.getD i 0)+cy) - 1000000000)) (γ0:=()) rfl rfl (by first|omega|(rw [List.length_map];omega)|(simp only [List.length_set];omega)|(simp;done)|(simp;omega)) rfl rfl sz115 (fun _ _=>by exact zx.2 om)) (fun _=> .z) (fun _ _=> ?_)
   refine zf<|zM<|zc<|za<|e_p (zH (z:=(((i+1):Nat):Int)) rfl rfl (w64 om))<|e_mv rfl<|zf<|zaa ((i+1),os++[l1.getD i 0+l2.getD i 0+cy - 1000000000],1) (show (i+1)≤max n1 n2+1∧(os++[l1.getD i 0+l2.getD i 0+cy - 1000000000]).length=(i+1)∧0≤1∧1≤1∧yv (os++[l1.getD i 0+l2.getD i 0+cy - 1000000000])∧yg (os++[l1.getD i 0+l2.getD i 0+cy - 1000000000])+yA (i+1)*1=yg (l1.take (i+1))+yg (l2.take (i+1)) from by exact ⟨by omega,by simp [hol],by decide,by decide,yM hok om om,Big.plus_step hol hv om⟩) (by show max n1 n2+1 - (i+1)<max n1 n2+1 - i;omega) ((.of rfl):SubM _ _) (ho:=((.e (i:=0) rfl (by rw [Big.set_pad hol om]) .n):PickO _ _ _)) ((.of [0,1] rfl):SelR _ _ _)
  ·
   refine zv<|zc<|za<|e_mv rfl<|e_mv rfl<|e_mv rfl<|e_p (zI (j:=i) ye sz115 rfl rfl rfl om)<|zza 0 rfl rfl rfl (zL (j:=i) (x0:=((l1.getD i 0+l2.getD i 0)+cy)) (γ0:=()) rfl rfl (by first|omega|(rw [List.length_map];omega)|(simp only [List.length_set];omega)|(simp;done)|(simp;omega)) rfl rfl sz115 (fun _ _=>by exact zx.2 om)) (fun _=> .z) (fun _ _=> ?_)
   refine zf<|zM<|zc<|za<|e_p (zH (z:=(((i+1):Nat):Int)) rfl rfl (w64 om))<|e_mv rfl<|zf<|zaa ((i+1),os++[l1.getD i 0+l2.getD i 0+cy],0) (show (i+1)≤max n1 n2+1∧(os++[l1.getD i 0+l2.getD i 0+cy]).length=(i+1)∧0≤0∧0≤1∧yv (os++[l1.getD i 0+l2.getD i 0+cy])∧yg (os++[l1.getD i 0+l2.getD i 0+cy])+yA (i+1)*0=yg (l1.take (i+1))+yg (l2.take (i+1)) from by exact ⟨by omega,by simp [hol],by decide,by decide,yM hok om om,Big.plus_step hol hv om⟩) (by show max n1 n2+1 - (i+1)<max n1 n2+1 - i;omega) ((.of rfl):SubM _ _) (ho:=((.e (i:=0) rfl (by rw [Big.set_pad hol om]) .n):PickO _ _ _)) ((.of [0,1] rfl):SelR _ _ _)
 ·
  have e3:os++List.replicate (max n1 n2+1 - i) 0=os:=by rw [show max n1 n2+1 - i=0 by omega];simp
  rw [e3]
  have hfin:=Big.plus_fin ho1 ho2 hok hc0 hol om hv
  have htr:yo os=yd (yg l1+yg l2).toNat:=by rw [Big.digs_valL hok,hfin]
  refine zda<|zi<|zi<|zr<|zc<|ze<|za<|e_mv rfl<|zga 0 rfl .z<|zu rfl rfl (.c rfl .n) ce156 (zub (p:=some ⟨b1,0,none⟩) (n:=((max n1 n2)+1)) (cap:=((max n1 n2)+1)) (l:=os) (hn:=cbb)) (.c (j:=0) rfl .n) ?_
  rintro ⟨⟩ -
  dsimp only [aq,nq,cq]
  refine e_p (zb rfl)<|zf<|zc<|zJ ?_
  exact zy Tryz.results158 ((some ⟨b1,0,none⟩),((max n1 n2)+1)) trivial (zo rfl) (by rw [htr]) (ho:=(.n:PickO _ _ _)) ((.e (j:=0) rfl (by rw [htr]) .n):SelR _ _ _)
theorem zFd {a:Nat} {b:Nat} {p1:Option Addr} {c1:Nat} {p2:Option Addr} {c2:Nat} (hb1:(yd (a)).length≤4398046511104) (hb2:(yd (b)).length≤4398046511104):Con yh 158 [.slice (p1) ((yd (a)).length) (c1),.slice (p2) ((yd (b)).length) (c2)] [] [slF (rI .u32) (p1) (c1) (yd (a)),slF (rI .u32) (p2) (c2) (yd (b))] (Y:=(Option Addr)×(Nat)) (fun y=>True) (fun y=> .slice (y.1) ((yd (a+b)).length) (y.2)) (fun y=>[]) (fun y=>[slF (rI .u32) (y.1) (y.2) (yd (a+b))]):=by
  have h:= @zQf p1 (yd a).length c1 (yd a) p2 (yd b).length c2 (yd b) rfl rfl hb1 hb2 (yp a) (yp b)
  rw [yz,yz,show ((a:Int)+(b:Int)).toNat=a+b by omega] at h
  exact h
theorem zZb {x:Int}:Con yh 113 [ya yb x] [] [] (Y:=Unit) (fun y=>True) (fun y=> .bool false) (fun y=>[]) (fun y=>[]):=by
 refine zl Tryz.func113 rfl rfl rfl (fun c=> ?_)
 show RunC _ _ _ _ _ [(0,ya yb x)] [] []
 refine ze<|za<|e_p (zb rfl)<|zf<|zc<|ze<|za<|e_mv rfl<|e_mv rfl<|e_p (zAa rfl rfl)<|e_p (zb rfl)<|zf<|zc<|zJ ?_
 exact zy Tryz.results113 () trivial (zo rfl) (by simp) (ho:=(.n:PickO _ _ _)) (.n:SelR _ _ _)
theorem zac {x:Int}:Con yh 170 [.int .u32 x] [] [] (Y:=Unit) (fun y=>True) (fun y=> .bool false) (fun y=>[]) (fun y=>[]):=by
 refine zl Tryz.func170 rfl rfl rfl (fun c=> ?_)
 show RunC _ _ _ _ _ [(0,.int .u32 x)] [] []
 refine ze<|za<|e_p (zb rfl)<|zf<|zc<|ze<|za<|e_mv rfl<|e_mv rfl<|e_p (zAa rfl rfl)<|e_p (zb rfl)<|zf<|zc<|zJ ?_
 exact zy Tryz.results170 () trivial (zo rfl) (by simp) (ho:=(.n:PickO _ _ _)) (.n:SelR _ _ _)
theorem zIc {u:Int} {v:Int}:Con yh 128 [ya yb u,ya yb v] [] [] (Y:=Unit) (fun y=>True) (fun y=> ya yb (yH u v)) (fun y=>[]) (fun y=>[]):=by
 refine zl Tryz.func128 rfl rfl rfl (fun c=> ?_)
 show RunC _ _ _ _ _ [(0,ya yb u),(1,ya yb v)] [] []
 refine ze<|za<|e_p (zb rfl)<|zf<|zc<|ze<|za<|e_mv rfl<|zQ rfl rfl (.c rfl .n) ce113 (zZb (x:=u)) (.n)<|e_p (zb rfl)<|zf<|zc<|ze<|za<|e_mv rfl<|zQ rfl rfl (.c rfl .n) ce113 (zZb (x:=v)) (.n)<|e_p (zb rfl)<|zf<|zc<|ze<|ze<|za<|e_mv rfl<|zf<|zc<|zua rfl rfl<|zv<|zc<|ze<|ze<|za<|e_mv rfl<|zf<|zc<|zua rfl rfl<|zv<|zc<|ze<|ze<|za<|e_mv rfl<|e_mv rfl<|e_p (zT rfl rfl)<|zf<|zc<|zB rfl (fun h1=> ?_) (fun h1=> ?_)
 ·
  refine ze<|za<|e_p (zb rfl)<|zf<|zc<|zJ<|zm ?_
  exact zy Tryz.results128 () trivial (zo rfl) (by rw [Big.cmp_lt om]) (ho:=(.n:PickO _ _ _)) (.n:SelR _ _ _)
 ·
  refine zv<|zc<|ze<|ze<|za<|e_mv rfl<|e_mv rfl<|e_p (zna rfl rfl)<|zf<|zc<|zB rfl (fun h2=> ?_) (fun h2=> ?_)
  ·
   refine ze<|za<|e_p (zb rfl)<|zf<|zc<|zJ<|zm ?_
   exact zy Tryz.results128 () trivial (zo rfl) (by rw [Big.cmp_gt om]) (ho:=(.n:PickO _ _ _)) (.n:SelR _ _ _)
  ·
   refine zv<|zc<|ze<|za<|e_p (zb rfl)<|zf<|zc<|zJ ?_
   exact zy Tryz.results128 () trivial (zo rfl) (by rw [show yH u v=0 by simp [yH];omega]) (ho:=(.n:PickO _ _ _)) (.n:SelR _ _ _)
theorem zRd {u:Int} {v:Int}:Con yh 157 [.int .u32 u,.int .u32 v] [] [] (Y:=Unit) (fun y=>True) (fun y=> ya yb (yH u v)) (fun y=>[]) (fun y=>[]):=by
 refine zl Tryz.func157 rfl rfl rfl (fun c=> ?_)
 show RunC _ _ _ _ _ [(0,.int .u32 u),(1,.int .u32 v)] [] []
 refine ze<|za<|e_p (zb rfl)<|zf<|zc<|ze<|za<|e_mv rfl<|zQ rfl rfl (.c rfl .n) ce170 (zac (x:=u)) (.n)<|e_p (zb rfl)<|zf<|zc<|ze<|za<|e_mv rfl<|zQ rfl rfl (.c rfl .n) ce170 (zac (x:=v)) (.n)<|e_p (zb rfl)<|zf<|zc<|ze<|ze<|za<|e_mv rfl<|zf<|zc<|zua rfl rfl<|zv<|zc<|ze<|ze<|za<|e_mv rfl<|zf<|zc<|zua rfl rfl<|zv<|zc<|ze<|ze<|za<|e_mv rfl<|e_mv rfl<|e_p (zT rfl rfl)<|zf<|zc<|zB rfl (fun h1=> ?_) (fun h1=> ?_)
 ·
  refine ze<|za<|e_p (zb rfl)<|zf<|zc<|zJ<|zm ?_
  exact zy Tryz.results157 () trivial (zo rfl) (by rw [Big.cmp_lt om]) (ho:=(.n:PickO _ _ _)) (.n:SelR _ _ _)
 ·
  refine zv<|zc<|ze<|ze<|za<|e_mv rfl<|e_mv rfl<|e_p (zna rfl rfl)<|zf<|zc<|zB rfl (fun h2=> ?_) (fun h2=> ?_)
  ·
   refine ze<|za<|e_p (zb rfl)<|zf<|zc<|zJ<|zm ?_
   exact zy Tryz.results157 () trivial (zo rfl) (by rw [Big.cmp_gt om]) (ho:=(.n:PickO _ _ _)) (.n:SelR _ _ _)
  ·
   refine zv<|zc<|ze<|za<|e_p (zb rfl)<|zf<|zc<|zJ ?_
   exact zy Tryz.results157 () trivial (zo rfl) (by rw [show yH u v=0 by simp [yH];omega]) (ho:=(.n:PickO _ _ _)) (.n:SelR _ _ _)
theorem back_u32 {b:Nat} {p:Option Addr} {n cap:Nat} {l:List Int} (hn:l.length=n):Back yh 160 [yc (some ⟨b,0,none⟩)] [atF b 0 [.slice p n cap],slF (rI .u32) p cap l] n (fun k=>[ya yb ((k:Nat):Int),.int .u32 (l.getD k 0)]):=by
  refine back_intro Tryz.func160 rfl rfl rfl (fun l0 c X Y φ ψ OO RR OS RS H x0 hx0=> ?_)
  show RunC _ _ _ _ _ [(0,.func (.yield l0) #[] #[]),(1,yc (some ⟨b,0,none⟩))] (OO x0) (atF b 0 [.slice p n cap] :: slF (rI .u32) p cap l :: RR x0)
  refine zY 1 rfl (fun hL=> ?_)
  refine ze<|za<|e_ru (zj (j:=0) 0 ty24 rfl rfl rfl rfl)<|e_p (zD ye rfl)<|e_p (zja (z:=(((n:Nat):Int) - 1)) rfl rfl (w64 om))<|e_p (zb rfl)<|zf<|zc<|zt<|zUe (X:=X×Nat) (fun z=>φ z.1 z.2∧z.2≤n) (fun z=>[(3,ya yb (((z.2:Nat):Int) - 1)),(1,yc (some ⟨b,0,none⟩)),(0,.func (.yield l0) #[] #[])]) (fun z=>OO z.1) (fun z=>atF b 0 [.slice p n cap] :: slF (rI .u32) p cap l :: RR z.1) (fun z=>z.2) (x0,n) ⟨hx0,Nat.le_refl _⟩ (.c rfl (.c rfl (.c rfl .n)):SubM _ _) (fun w m=>m) ?_
  rintro ⟨x,k⟩ ⟨hx,hk⟩
  dsimp only at hx hk
  try dsimp only
  refine ze<|ze<|za<|e_mv rfl<|e_p (zIa rfl rfl)<|zf<|zc<|zB rfl (fun h=> ?_) (fun h=> ?_)
  · refine zv ?_
    refine zc ?_
    obtain ⟨j,rfl⟩:∃j,k=j+1:=⟨k - 1,by omega⟩
    rw [show (((j+1:Nat):Int) - 1)=(j:Int) by omega]
    refine ze<|zt<|ze<|za<|e_mv rfl<|e_mv rfl<|e_ru (zj (j:=0) 0 ty24 rfl rfl rfl rfl)<|e_mv rfl<|zV (x0:=l.getD j 0) 1 j rfl ye sz115 rfl rfl rfl hn rfl rfl (gD (d:=0) om) (fun b2 o3 hok=> ?_)
    refine e_ru (zj (j:=0) 0 ty115 rfl rfl rfl rfl)<|zlg (X:=X) (Y:=Y) (φ:=fun x'=>φ x' j) (ψ:=ψ) (OO:=OO) (RR:=fun x'=>[atF b 0 [.slice p n cap],slF (rI .u32) p cap l]++RR x') (OS:=OS) (RS:=RS) (vs:=[ya yb ((j:Nat):Int),.int .u32 (l.getD j 0)]) rfl rfl rfl (.c rfl (.c rfl .n)) (fun w m=>H x j w om hx (m.weaken fun h g s r a=>⟨h,g,s,r.2,Hp.le_refl _,Hp.le_refl _,a,fun _ _ e=> .inl e⟩)) (fun x' hx'=> ?_) (fun y hy=> ?_)
    · refine e_p (zAb rfl) ?_
      refine zf<|zc<|zua rfl rfl<|zv<|zM<|zc<|za<|e_mv rfl<|e_p (zja (z:=((j:Int) - 1)) rfl rfl (w64 om))<|e_p (zb rfl)<|zf ?_
      exact zkg (x',j) ⟨hx',by show j≤n;omega⟩ (by show j<j+1;omega) (.c rfl (.c rfl (.c rfl .n)):SubM _ _) (fun w m=>m)
    · refine e_p (zAb rfl) ?_
      refine zf<|zc<|zfe rfl rfl<|zJ<|zS<|zm<|zm<|zS ?_
      exact zNd rfl y hy (fun w m=>m)
  · have hk0 : k = 0 := by omega
    subst hk0
    refine zda<|zi<|zi<|zr<|p_endI ?_
    exact zMd rfl x hx (fun w m=>m)
theorem zlb {p:Option Addr} {n:Nat} {cap:Nat}:Con yh 133 [.slice p n cap] [] [] (Y:=Nat) (fun y=>True) (fun y=> .func (.func 160) #[] #[yc (some ⟨y,0,none⟩)]) (fun y=>[]) (fun y=>[atF y 0 [.slice p n cap]]):=by
 refine zl Tryz.func133 rfl rfl rfl (fun c=> ?_)
 show RunC _ _ _ _ _ [(0,.slice p n cap)] [] []
 refine ze<|za<|zK rfl rfl (zU rfl rfl) (fun b1=> ?_)
 refine e_p (zb rfl)<|zf<|zc<|ze<|za<|e_p (zHa .n (.c rfl .n))<|e_p (zb rfl)<|zf<|zc<|zJ<|zaf 0 rfl .z ?_
 exact zy Tryz.results133 b1 trivial (zo rfl) rfl (ho:=(.n:PickO _ _ _)) ((.c (j:=0) rfl .n):SelR _ _ _)
theorem zRb {a:Nat} {b:Nat} {p1:Option Addr} {c1:Nat} {p2:Option Addr} {c2:Nat}:Con yh 129 [.slice p1 ((yd a).length) c1,.slice p2 ((yd b).length) c2] [] [slF (rI .u32) p1 c1 (yd a),slF (rI .u32) p2 c2 (yd b)] (Y:=Unit) (fun y=>True) (fun y=> ya yb (yH (a:Int) (b:Int))) (fun y=>[]) (fun y=>[]):=by
 refine zIb Tryz.func129 rfl rfl rfl (fun c=> ?_)
 show RunC _ _ _ _ _ [(0,.slice p1 ((yd a).length) c1),(1,.slice p2 ((yd b).length) c2)] [] [slF (rI .u32) p1 c1 (yd a),slF (rI .u32) p2 c2 (yd b)]
 refine zY 0 rfl (fun hL0=> ?_)
 refine zY 1 rfl (fun hL1=> ?_)
 refine ze<|za<|zK rfl rfl (zU rfl rfl) (fun b1=> ?_)
 refine zK rfl rfl (zw zr3 rfl) (fun b2=> ?_)
 refine zf<|zc<|ze<|ze<|za<|e_mv rfl<|e_p (zD ye rfl)<|e_ru (zg 1 ty24 rfl rfl rfl)<|e_p (zD ye rfl)<|e_p (zAa rfl rfl)<|zf<|zc<|zB rfl (fun hlen=> ?_) (fun hlen=> ?_)
 ·
  refine ze<|za<|e_mv rfl<|e_p (zD ye rfl)<|e_ru (zg 1 ty24 rfl rfl rfl)<|e_p (zD ye rfl)<|zQ rfl rfl (.c rfl (.c rfl .n)) ce128 (zIc (u:=(((yd a).length:Nat):Int)) (v:=(((yd b).length:Nat):Int))) (.n)<|zk 0 rfl rfl rfl rfl rfl sz3 rfl (.take .nil) .z<|zf<|zc<|zJ<|zm<|zbf ?_
  exact zy Tryz.results129 () trivial (zZa 0 ty3 rfl rfl rfl) (by rw [Big.cmp_len om]) (ho:=(.n:PickO _ _ _)) (.n:SelR _ _ _)
 ·
  replace hlen:(yd a).length=(yd b).length:=by omega
  refine zv<|zc<|ze<|ze<|za<|e_mv rfl<|zu rfl rfl (.c rfl .n) ce133 (zlb (p:=p1) (n:=(yd a).length) (cap:=c1)) (.n) ?_
  rintro b3 -
  dsimp only [aq,nq,cq]
  refine zf<|zc<|zt<|zfd (fa:=[atF b3 0 [.slice p1 ((yd a).length) c1],slF (rI .u32) p1 c1 (yd a)]) (N:=((yd a).length)) (encs:=fun k=>[ya yb ((k:Nat):Int),.int .u32 ((yd a).getD k 0)]) rfl ce160 (back_u32 cbs) (fun _=>rfl) rfl (X:=Unit) (Y:=Unit) (fun x k=>k≤(yd a).length∧(yd a).drop k=(yd b).drop k) (fun y=>True) (fun x=>[boxA b2 3 [ya yb 0],boxA b1 24 [.slice p2 ((yd b).length) c2]]) (fun x=>[slF (rI .u32) p2 c2 (yd b)]) (fun y=>[boxA b2 3 [ya yb (yH (a:Int) (b:Int))],boxA b1 24 [.slice p2 ((yd b).length) c2]]) (fun y=>[atF b3 0 [.slice p1 ((yd a).length) c1],slF (rI .u32) p1 c1 (yd a),slF (rI .u32) p2 c2 (yd b)]) (fun k=>[(6,.int .u32 ((yd a).getD k 0)),(5,ya yb ((k:Nat):Int)),(20,.int .u32 ((yd a).getD k 0)),(19,ya yb ((k:Nat):Int)),(18,.func (.func 160) #[] #[yc (some ⟨b3,0,none⟩)]),(17,.slice p1 ((yd a).length) c1),(11,.bool (decide ((((yd a).length:Nat):Int)≠(((yd b).length:Nat):Int)))),(10,ya yb (((yd b).length:Nat):Int)),(9,.slice p2 ((yd b).length) c2),(8,ya yb (((yd a).length:Nat):Int)),(7,.slice p1 ((yd a).length) c1),(4,yc (some ⟨b2,0,none⟩)),(3,yc (some ⟨b1,0,none⟩)),(0,.slice p1 ((yd a).length) c1),(1,.slice p2 ((yd b).length) c2)]) () (show ((yd a).length)≤(yd a).length∧(yd a).drop ((yd a).length)=(yd b).drop ((yd a).length) from by exact ⟨Nat.le_refl _,by rw [List.drop_length,hlen,List.drop_length]⟩) (ho:=((.of [0,0] rfl):PickO _ _ _)) ((.of [0,1,2] rfl):SelR _ _ _) ?_ ?_ ?_ ?_
  ·
   intro l k O' R' Q' hP
   refine ze<|za<|e_p (zb rfl)<|zf<|zc<|za<|e_p (zb rfl)<|zf ?_
   exact hP
  ·
   rintro l4 D5 o6 o7 ⟨⟩ k hkN hI
   replace hI:(k+1)≤(yd a).length∧(yd a).drop (k+1)=(yd b).drop (k+1):=hI
   try dsimp only
   have hg1:=yn (yp a) k
   have hg2:=yn (yp b) k
   refine zt<|ze<|za<|e_mv rfl<|e_ru (zg 3 ty24 rfl rfl rfl)<|e_mv rfl<|zV (x0:=((yd b).getD k 0)) 2 k rfl ye sz115 rfl rfl rfl cbs rfl rfl (gD (d:=0) om) (fun b8 o9 hok10=> ?_)
   replace hok10:=zx.1 hok10
   refine e_ru (zj (j:=0) 0 ty115 rfl rfl rfl rfl)<|e_p (zAa rfl rfl)<|zf<|zc<|zB rfl (fun hne=> ?_) (fun hne=> ?_)
   ·
    refine ze<|za<|e_mv rfl<|e_ru (zg 3 ty24 rfl rfl rfl)<|e_mv rfl<|zV (x0:=((yd b).getD k 0)) 3 k rfl ye sz115 rfl rfl rfl cbs rfl rfl (gD (d:=0) om) (fun b11 o12 hok13=> ?_)
    replace hok13:=zx.1 hok13
    refine e_ru (zj (j:=0) 0 ty115 rfl rfl rfl rfl)<|zQ rfl rfl (.c rfl (.c rfl .n)) ce157 (zRd (u:=((yd a).getD k 0)) (v:=((yd b).getD k 0))) (.n)<|zk 2 rfl rfl rfl rfl rfl sz3 rfl (.take .nil) (.s (.s .z))<|zf<|zc<|zJ<|zS ?_
    exact zOd () (show True from by first|trivial|omega) (ho:=((.c (i:=0) rfl (.c (i:=0) rfl (.e (i:=0) rfl (by rw [Big.cmp_at hlen om hI.2 hne]) (.c (i:=0) rfl .n)))):PickO _ _ _)) ((.of [2,3,4] rfl):SelR _ _ _)
   ·
    refine zv<|zM ?_
    exact zed () (show k≤(yd a).length∧(yd a).drop k=(yd b).drop k from by exact ⟨by omega,Big.drop_more om om hI.2 (Decidable.not_not.1 hne)⟩) (ho:=((.of [0,0,0,0] rfl):PickO _ _ _)) ((.of [1,2,3] rfl):SelR _ _ _)
  ·
   rintro D14 ⟨⟩ hI
   replace hI:0≤(yd a).length∧(yd a).drop 0=(yd b).drop 0:=hI
   try dsimp only
   have heq:(yd a)=(yd b):=by simpa using hI.2
   have hab:=Big.cmp_eq heq
   refine zM<|zc<|ze<|za<|zk 1 rfl rfl rfl rfl rfl sz3 rfl (.take .nil) (.s .z)<|zf<|zc<|zJ<|zwd 0 rfl rfl ?_
   exact zy Tryz.results129 () trivial (zZa 0 ty3 rfl rfl rfl) (by rw [hab];simp [yH]) (ho:=(.n:PickO _ _ _)) (.n:SelR _ _ _)
  ·
   rintro D15 ⟨⟩ hS
   replace hS:True:=hS
   try dsimp only
   refine zS<|zm<|zwd 0 rfl rfl ?_
   exact zy Tryz.results129 () trivial (zZa 0 ty3 rfl rfl rfl) rfl (ho:=(.n:PickO _ _ _)) (.n:SelR _ _ _)
theorem zxe {g:Int}:Con yh 148 [.int .u32 g] [] [] (Y:=Unit) (fun y=>True) (fun y=> .bool (decide (1000000000≤g))) (fun y=>[]) (fun y=>[]):=by
 refine zl Tryz.func148 rfl rfl rfl (fun c=> ?_)
 show RunC _ _ _ _ _ [(0,.int .u32 g)] [] []
 refine ze<|za<|e_p (zb rfl)<|zf<|zc<|ze<|za<|e_mv rfl<|e_p (zIa rfl rfl)<|e_p (zb rfl)<|zf<|zc<|zJ ?_
 exact zy Tryz.results148 () trivial (zo rfl) rfl (ho:=(.n:PickO _ _ _)) (.n:SelR _ _ _)
theorem zRc {p:Option Addr} {n:Nat} {cap:Nat} {l:List Int} (hn:l.length=n):Con yh 167 [.slice p n cap,.func (.func 148) #[] #[]] [] [slF (rI .u32) p cap l] (Y:=Int) (fun y=>(0≤y↔∃g∈l,1000000000≤g)) (fun y=> ya yb y) (fun y=>[]) (fun y=>[]):=by
 refine zl Tryz.func167 rfl rfl rfl (fun c=> ?_)
 show RunC _ _ _ _ _ [(0,.slice p n cap),(1,.func (.func 148) #[] #[])] [] [slF (rI .u32) p cap l]
 refine zY 0 rfl (fun hL0=> ?_)
 refine ze<|za<|e_p (zb rfl)<|zf<|zc<|ze<|ze<|za<|e_mv rfl<|e_p (zD ye rfl)<|e_mv rfl<|zf<|zc<|zt<|zea (X:=Nat) (fun x:Nat=>x≤n∧∀j,j<x→l.getD j 0<1000000000) (fun x=>[(8,ya yb ((x:Nat):Int)),(7,ya yb ((n:Nat):Int)),(0,.slice p n cap),(1,.func (.func 148) #[] #[])]) (fun x=>[]) (fun x=>[slF (rI .u32) p cap l]) (fun x:Nat=>n - x) 0 (show 0≤n∧∀j,j<0→l.getD j 0<1000000000 from by exact ⟨by omega,fun j h=>by omega⟩) ((.e rfl (by first|rfl|(congr 1;omega)|simp_all) (.of rfl)):SubM _ _) (ho:=(.n:PickO _ _ _)) ((.c (j:=0) rfl .n):SelR _ _ _) ?_
 rintro i hI
 replace hI:i≤n∧∀j,j<i→l.getD j 0<1000000000:=hI
 try dsimp only
 obtain ⟨hi,hall⟩:=hI
 refine ze<|za<|e_p (zT rfl rfl)<|zf<|zc<|ze<|zB rfl (fun h1=> ?_) (fun h1=> ?_)
 ·
  refine zv<|zc<|ze<|zt<|ze<|za<|e_mv rfl<|e_p (zb rfl)<|zf<|zc<|ze<|za<|e_mv rfl<|e_mv rfl<|e_mv rfl<|zV (x0:=(l.getD i 0)) 0 i rfl ye sz115 rfl rfl rfl cbs rfl rfl (gD (d:=0) om) (fun b2 o3 hok4=> ?_)
  replace hok4:=zx.1 hok4
  refine e_ru (zj (j:=0) 0 ty115 rfl rfl rfl rfl)<|zCc (first:=[]) (cap:=[]) rfl rfl rfl (.c rfl .n) ce148 (zxe (g:=(l.getD i 0))) (.n) ?_
  rintro ⟨⟩ -
  dsimp only [aq,nq,cq]
  refine zf<|zc<|zB rfl (fun hb=> ?_) (fun hb=> ?_)
  ·
   refine ze<|za<|e_mv rfl<|e_p (zb rfl)<|zf<|zc<|zJ<|zS<|zm<|zm<|zS<|zm ?_
   exact zy Tryz.results167 ((i:Nat):Int) (⟨fun _=>⟨l.getD i 0,Big.getD_mem om,hb⟩,fun _=>by omega⟩) (zo rfl) rfl (ho:=(.n:PickO _ _ _)) (.n:SelR _ _ _)
  ·
   refine zv<|zM<|zc<|za<|e_p (zH (z:=(((i+1):Nat):Int)) rfl rfl (w64 om))<|e_mv rfl<|zf<|zaa (i+1) (show (i+1)≤n∧∀j,j<(i+1)→l.getD j 0<1000000000 from by refine ⟨by omega,fun j hj=> ?_⟩;by_cases e:j=i;subst e;omega;exact hall j om) (by show n - (i+1)<n - i;omega) ((.of rfl):SubM _ _) (ho:=(.n:PickO _ _ _)) ((.c (j:=1) rfl .n):SelR _ _ _)
 ·
  refine zda<|zi<|zi<|zr<|zc<|ze<|za<|e_p (zb rfl)<|zf<|zc<|zJ ?_
  exact zy Tryz.results167 (-1) (⟨fun h=>by omega,fun ⟨g,hg,hb⟩=>by obtain ⟨j,hj,e⟩:=Big.mem_getD hg;have:=hall j om;omega⟩) (zo rfl) rfl (ho:=(.n:PickO _ _ _)) (.n:SelR _ _ _)
theorem zhc {p:Option Addr} {n:Nat} {cap:Nat} {l:List Int} (hn:l.length=n):Con yh 147 [.slice p n cap,.func (.func 148) #[] #[]] [] [slF (rI .u32) p cap l] (Y:=Unit) (fun y=>True) (fun y=> .bool (decide (∃g∈l,1000000000≤g))) (fun y=>[]) (fun y=>[]):=by
 refine zl Tryz.func147 rfl rfl rfl (fun c=> ?_)
 show RunC _ _ _ _ _ [(0,.slice p n cap),(1,.func (.func 148) #[] #[])] [] [slF (rI .u32) p cap l]
 refine zY 0 rfl (fun hL0=> ?_)
 refine ze<|za<|e_p (zb rfl)<|zf<|zc<|ze<|za<|e_mv rfl<|e_mv rfl<|zu rfl rfl (.c rfl (.c rfl .n)) ce167 (zRc (p:=p) (n:=n) (cap:=cap) (l:=l) (hn:=ass)) (.c (j:=0) rfl .n) ?_
 rintro r1 hr
 dsimp only [aq,nq,cq]
 replace hr:(0≤r1↔∃g∈l,1000000000≤g):=hr
 refine e_p (zIa rfl rfl)<|e_p (zb rfl)<|zf<|zc<|zJ ?_
 exact zy Tryz.results147 () trivial (zo rfl) (congrArg Value.bool (decide_eq_decide.2 hr.symm)) (ho:=(.n:PickO _ _ _)) (.n:SelR _ _ _)
theorem zbc {s:Bool} {p:Option Addr} {n:Nat} {cap:Nat} {l:List Int} (hn:l.length=n):Con yh 116 [.agg #[.bool s,.slice p n cap]] [] [slF (rI .u32) p cap l] (Y:=Unit) (fun y=>True) (fun y=> .bool (decide (yT s l))) (fun y=>[]) (fun y=>[]):=by
 refine zl Tryz.func116 rfl rfl rfl (fun c=> ?_)
 show RunC _ _ _ _ _ [(0,.agg #[.bool s,.slice p n cap])] [] [slF (rI .u32) p cap l]
 refine zY 0 rfl (fun hL0=> ?_)
 refine ze<|za<|zK rfl rfl (zU rfl rfl) (fun b1=> ?_)
 refine e_p (zb rfl)<|zf<|zc<|ze<|za<|e_p (zh yl rfl sz24 rfl rfl)<|e_ru (zg 0 ty24 rfl rfl rfl)<|e_p (zD ye rfl)<|e_p (zb rfl)<|zf<|zc<|ze<|ze<|za<|e_mv rfl<|e_p (zta rfl rfl)<|zf<|zc<|zB rfl (fun h0=> ?_) (fun h0=> ?_)
 ·
  refine ze<|za<|e_p (zh yl rfl sz4 rfl rfl)<|e_ru (zg 0 ty4 rfl rfl rfl)<|e_p (zAb rfl)<|e_p (zb rfl)<|zf<|zc<|zJ<|zm ?_
  exact zy Tryz.results116 () trivial (zo rfl) (congrArg Value.bool (by have:l.length=0:=om;cases s <;> simp [yT,this])) (ho:=(.n:PickO _ _ _)) (.n:SelR _ _ _)
 ·
  refine zv<|zc<|zGa (X:=Unit) (fun x=>True) (fun x=>[(2,.bool (decide (((l.getD ((((n:Nat):Int) - 1).toNat) 0)≠0)∧(¬(∃g∈l,1000000000≤g)))))]) (fun x=>[boxA b1 26 [.bool s,.slice p n cap]]) (fun x=>[slF (rI .u32) p cap l]) ?_ ?_
  ·
   refine za<|e_p (zh yl rfl sz24 rfl rfl)<|e_ru (zg 0 ty24 rfl rfl rfl)<|e_mv rfl<|e_p (zja (z:=(((n:Nat):Int) - 1)) rfl rfl (w64 om))<|zV (x0:=(l.getD ((((n:Nat):Int) - 1).toNat) 0)) 0 ((((n:Nat):Int) - 1).toNat) rfl ye sz115 rfl rfl rfl cbs rfl om (gD (d:=0) om) (fun b2 o3 hok4=> ?_)
   replace hok4:=zx.1 hok4
   refine e_ru (zj (j:=0) 0 ty115 rfl rfl rfl rfl)<|e_p (zAa rfl rfl)<|zW rfl rfl (zba rfl) (fun h5=> ?_) (fun h5=> ?_)
   ·
    refine e_p (zh yl rfl sz24 rfl rfl)<|e_ru (zg 0 ty24 rfl rfl rfl)<|zQ rfl rfl (.c rfl (.c rfl .n)) ce147 (zhc (p:=p) (n:=n) (cap:=cap) (l:=l) (hn:=ass)) (.c (j:=1) rfl .n)<|e_p (znb rfl)<|e_p (zn rfl rfl)<|e_p (zb rfl)<|zf ?_
    exact zia () (show True from by first|trivial|omega|simp_all) ((.e rfl (congrArg Value.bool (by simp_all)) .n):SubM _ _) (ho:=((.c (i:=0) rfl .n):PickO _ _ _)) ((.c (j:=1) rfl .n):SelR _ _ _)
   ·
    refine e_no<|e_no<|e_no<|e_no<|e_p (zn rfl rfl)<|e_p (zb rfl)<|zf ?_
    exact zia () (show True from by first|trivial|omega|simp_all) ((.e rfl (congrArg Value.bool (by simp_all)) .n):SubM _ _) (ho:=((.c (i:=0) rfl .n):PickO _ _ _)) ((.c (j:=1) rfl .n):SelR _ _ _)
  ·
   rintro ⟨⟩ -
   try dsimp only
   refine zJ ?_
   exact zy Tryz.results116 () trivial (zo rfl) (congrArg Value.bool (decide_eq_decide.2 (by rw [Big.canon_more om,hn];have e:((n:Int) - 1).toNat=n - 1:=om;simp [e]))) (ho:=(.n:PickO _ _ _)) (.n:SelR _ _ _)
theorem zye {z:Int} {p:Option Addr} {cap:Nat}:Con yh 116 [.agg #[.bool (decide ((z)<0)),.slice (p) ((yd ((z).natAbs)).length) (cap)]] [] [slF (rI .u32) (p) (cap) (yd ((z).natAbs))] (Y:=Unit) (fun y=>True) (fun y=> .bool true) (fun y=>[]) (fun y=>[]):=by
  have h:= @zbc (decide ((z)<0)) p (yd (z).natAbs).length cap (yd (z).natAbs) rfl
  rw [decide_eq_true (Big.canon_digs z)] at h
  exact h
theorem zze {w1:Wd} {x1:Int}:Con yh 116 [.agg #[w1.b,w1.l]] [] [zF w1 (x1)] (Y:=Unit) (fun y=>True) (fun y=> .bool true) (fun y=>[]) (fun y=>[]):=by
  exact zXc (fun p c=>zye)
theorem zLa {s:Bool} {p:Option Addr} {n:Nat} {cap:Nat} {l:List Int} (hn:l.length=n):Con yh 130 [.agg #[.bool s,.slice p n cap]] [] [slF (rI .u32) p cap l] (Y:=(Option Addr)×Nat) (fun y=>True) (fun y=> .slice (y.1) ((yd ((yk s l).natAbs)).length) (y.2)) (fun y=>[]) (fun y=>[slF (rI .u32) (y.1) (y.2) (yd ((yk s l).natAbs))]):=by
 refine zl Tryz.func130 rfl rfl rfl (fun c=> ?_)
 show RunC _ _ _ _ _ [(0,.agg #[.bool s,.slice p n cap])] [] [slF (rI .u32) p cap l]
 refine zY 0 rfl (fun hL0=> ?_)
 refine zOa 0 rfl (fun hE0=> ?_)
 have hnn:yF l:=fun g hg=>(zx.1 (hE0 g hg)).1
 refine ze<|za<|zK rfl rfl (zU rfl rfl) (fun b1=> ?_)
 refine e_p (zb rfl)<|zf<|zc<|ze<|ze<|za<|e_ru (zd 0 ty26 rfl rfl (.t2 .nil))<|zQ rfl rfl (.c rfl .n) ce116 (zbc (s:=s) (p:=p) (n:=n) (cap:=cap) (l:=l) (hn:=ass)) (.c (j:=0) rfl .n)<|e_p (znb rfl)<|zf<|zc<|zB rfl (fun hc=> ?_) (fun hc=> ?_)
 ·
  refine ze<|za<|e_p (zb rfl)<|zf<|zc<|zJ<|zm ?_
  have hd:yd (yk s l).natAbs=[]:=by rw [Big.raw_digs hnn,if_neg hc]
  refine zqb (rI .u32) ?_
  exact zy Tryz.results130 (none,0) trivial (zo rfl) (by rw [hd];rfl) (ho:=(.n:PickO _ _ _)) ((.e (j:=0) rfl (by rw [hd]) .n):SelR _ _ _)
 ·
  refine zv<|zc<|ze<|za<|e_p (zh yl rfl sz24 rfl rfl)<|e_ru (zg 0 ty24 rfl rfl rfl)<|e_p (zb rfl)<|zf<|zc<|zJ ?_
  have hd:yd (yk s l).natAbs=l:=by rw [Big.raw_digs hnn,if_pos (Decidable.not_not.1 hc)]
  exact zy Tryz.results130 (p,cap) trivial (zo rfl) (by rw [hd,hn]) (ho:=(.n:PickO _ _ _)) ((.e (j:=0) rfl (by rw [hd]) .n):SelR _ _ _)
theorem zhb {z:Int} {p:Option Addr} {cap:Nat}:Con yh 130 [.agg #[.bool (decide ((z)<0)),.slice (p) ((yd ((z).natAbs)).length) (cap)]] [] [slF (rI .u32) (p) (cap) (yd ((z).natAbs))] (Y:=(Option Addr)×(Nat)) (fun y=>True) (fun y=> .slice (y.1) ((yd ((z).natAbs)).length) (y.2)) (fun y=>[]) (fun y=>[slF (rI .u32) (y.1) (y.2) (yd ((z).natAbs))]):=by
  have h:= @zLa (decide ((z)<0)) p (yd (z).natAbs).length cap (yd (z).natAbs) rfl
  rw [yr] at h
  exact h
theorem zRf {s:Bool} {p:Option Addr} {n:Nat} {cap:Nat} {l:List Int} (hn:l.length=n) (ho:yv l):Con yh 125 [.bool s,.slice p n cap] [] [slF (rI .u32) p cap l] (Y:=(Option Addr)×Nat) (fun y=>True) (fun y=> .agg #[.bool (decide ((yw s (yg l))<0)),.slice (y.1) ((yd ((yw s (yg l)).natAbs)).length) (y.2)]) (fun y=>[]) (fun y=>[slF (rI .u32) (y.1) (y.2) (yd ((yw s (yg l)).natAbs))]):=by
 refine zl Tryz.func125 rfl rfl rfl (fun c=> ?_)
 show RunC _ _ _ _ _ [(0,.bool s),(1,.slice p n cap)] [] [slF (rI .u32) p cap l]
 refine zY 0 rfl (fun hL0=> ?_)
 have htr:yo l=yd (yw s (yg l)).natAbs:=by rw [Big.sg_abs (Big.valL_nonneg ho),Big.digs_valL ho]
 refine ze<|za<|zK rfl rfl (zw zr26 rfl) (fun b1=> ?_)
 refine zf<|zc<|ze<|za<|e_mv rfl<|zu rfl rfl (.c rfl .n) ce156 (zub (p:=p) (n:=n) (cap:=cap) (l:=l) (hn:=ass)) (.c (j:=0) rfl .n) ?_
 rintro ⟨⟩ -
 dsimp only [aq,nq,cq]
 refine e_p (zb rfl)<|zf<|zc<|ze<|ze<|za<|e_mv rfl<|e_p (zD ye rfl)<|e_p (zta rfl rfl)<|zf<|zc<|zB rfl (fun h0=> ?_) (fun h0=> ?_)
 ·
  refine ze<|za<|e_p (zN zr26 rfl yl (.c sz4 (.c sz24 .n)) .n .n)<|zk 0 rfl rfl rfl rfl rfl sz26 rfl (.t2 .nil) .z<|zf<|zc<|zJ<|zm ?_
  have hz:yg l=0:=Big.trim_zero ho om
  refine zqb (rI .u32) ?_
  exact zy Tryz.results125 (none,0) trivial (zp 0 ty26 rfl rfl (.t2 .nil)) (by rw [hz,Big.sg_zero];rfl) (ho:=(.n:PickO _ _ _)) ((.e (j:=0) rfl (by rw [hz,Big.sg_zero];rfl) .n):SelR _ _ _)
 ·
  refine zv<|zc<|ze<|za<|e_mv rfl<|e_mv rfl<|e_p (zN zr26 rfl yl (.c sz4 (.c sz24 .n)) (.c rfl (.c rfl .n)) (.c rfl rfl rfl (.take .nil) (.c rfl rfl rfl (.skip (.take .nil)) .n)))<|zk 0 rfl rfl rfl rfl rfl sz26 rfl (.t2 .nil) .z<|zf<|zc<|zJ ?_
  have hp:0<yg l:=Big.valL_pos ho (fun e=>h0 (by rw [e];rfl))
  exact zy Tryz.results125 (p,cap) trivial (zp 0 ty26 rfl rfl (.t2 .nil)) (by rw [Big.sg_pos hp,htr]) (ho:=(.n:PickO _ _ _)) ((.e (j:=0) rfl (by rw [htr]) .n):SelR _ _ _)
theorem zxa {s:Bool} {a:Nat} {p:Option Addr} {cap:Nat}:Con yh 125 [.bool (s),.slice (p) ((yd (a)).length) (cap)] [] [slF (rI .u32) (p) (cap) (yd (a))] (Y:=(Option Addr)×(Nat)) (fun y=>True) (fun y=> .agg #[.bool (decide ((yw s (a:Int))<0)),.slice (y.1) ((yd ((yw s (a:Int)).natAbs)).length) (y.2)]) (fun y=>[]) (fun y=>[slF (rI .u32) (y.1) (y.2) (yd ((yw s (a:Int)).natAbs))]):=by
  have h:= @zRf s p (yd a).length cap (yd a) rfl (yp a)
  rw [yz] at h
  exact h
theorem zrb {n0:Nat} (hn0:n0<18446744073709551616):Con yh 126 [.int .u64 ((n0:Nat):Int)] [] [] (Y:=(Option Addr)×Nat) (fun y=>True) (fun y=> .slice (y.1) ((yd n0).length) (y.2)) (fun y=>[]) (fun y=>[slF (rI .u32) (y.1) (y.2) (yd n0)]):=by
 refine zl Tryz.func126 rfl rfl rfl (fun c=> ?_)
 show RunC _ _ _ _ _ [(0,.int .u64 ((n0:Nat):Int))] [] []
 refine ze<|za<|e_p (zb rfl)<|zf<|zc<|ze<|za<|e_p (zb rfl)<|zf<|zc<|ze<|zt<|zuc 115 (rI .u32)<|zea (X:=Nat×(Option Addr)×Nat×(List Int)) (fun x:Nat×(Option Addr)×Nat×(List Int)=>x.1≤n0∧x.2.2.2++yd x.1=yd n0) (fun x=>[(3,.slice (x.2.1) (x.2.2.2.length) (x.2.2.1)),(0,.int .u64 ((x.1:Nat):Int)),(2,.slice none 0 0)]) (fun x=>[rowA 115 (rI .u32) (x.2.1) (x.2.2.1) (x.2.2.2)]) (fun x=>[]) (fun x:Nat×(Option Addr)×Nat×(List Int)=>x.1) (n0,none,0,[]) (show n0≤n0∧([])++yd n0=yd n0 from by exact ⟨Nat.le_refl _,rfl⟩) ((.e rfl (by first|rfl|(congr 1;omega)|simp_all) (.c rfl (.c rfl .n))):SubM _ _) (ho:=((.c (i:=0) rfl .n):PickO _ _ _)) (.n:SelR _ _ _) ?_
 rintro ⟨n,p,c,os⟩ hI
 replace hI:n≤n0∧os++yd n=yd n0:=hI
 try dsimp only
 obtain ⟨hnn,hos⟩:=hI
 have hlen:os.length+(yd n).length≤3:=by have:=congrArg List.length hos;rw [List.length_append] at this;have:=Big.zjf hn0;omega
 refine ze<|ze<|za<|e_mv rfl<|e_p (zna rfl rfl)<|zf<|zc<|zB rfl (fun hc=> ?_) (fun hc=> ?_)
 ·
  refine zv<|zc<|ze<|zt<|za<|e_mv rfl<|e_mv rfl<|e_p (zTa (z:=(((n%1000000000):Nat):Int)) rfl rfl om (remN om om))<|e_p (zA (z:=(((n%1000000000):Nat):Int)) rfl (by rw [yj];rfl) yi (wu32 om))<|zra rfl rfl (zR (enc:=fun z:Int=>[.int .u32 z]) (ok:=InK .u32) (h1:=fun _=>rfl) (h2:=fun _=>rfl) (k:=1) ye inf115 rfl dd dd dd (.c (x:=(((n%1000000000):Nat):Int)) rfl rfl (fun _ _=>by exact zx.2 om) .n)) (fun b1 _=> ?_)
  refine zga 0 rfl .z<|zza 1 rfl rfl rfl (zsa 0 rfl ye inf115 dd rfl rfl cbs rfl cbs om om) (fun _=>(.s .z)) ?_
  rintro ⟨p2,c3⟩ -
  dsimp only [aq,nq,cq]
  refine e_p (zb rfl)<|zf<|zM<|zc<|za<|e_mv rfl<|e_p (zSa (z:=(((n / 1000000000):Nat):Int)) rfl rfl om (by rw [quoN (z:=(((n / 1000000000):Nat):Int)) om om];exact wu64 om))<|e_p (zb rfl)<|zf<|zaa ((n / 1000000000),p2,c3,os++[((n%1000000000:Nat):Int)]) (show (n / 1000000000)≤n0∧(os++[((n%1000000000:Nat):Int)])++yd (n / 1000000000)=yd n0 from by exact ⟨by omega,Big.split_step om hos⟩) (by show n / 1000000000<n;omega) ((.e rfl (by simp) (.c rfl (.c rfl .n))):SubM _ _) (ho:=((.e (i:=1) rfl (by first|rfl|(congr 1;omega)|simp_all) .n):PickO _ _ _)) (.n:SelR _ _ _)
 ·
  refine zda<|zi<|zi<|zr<|zc<|ze<|za<|e_mv rfl<|e_p (zb rfl)<|zf<|zc<|zJ ?_
  have hz:n=0:=by omega
  subst hz
  have hd:os=yd n0:=by simpa [Big.digs_zero] using hos
  refine zbb 0 rfl .z ?_
  exact zy Tryz.results126 (p,c) trivial (zo rfl) (by rw [hd]) (ho:=(.n:PickO _ _ _)) ((.e (j:=0) rfl (by rw [hd]) .n):SelR _ _ _)
theorem zig {z:Int} (hz: -9223372036854775808≤z∧z≤9223372036854775807):Con yh 86 [ya yb z] [] [] (Y:=(Option Addr)×Nat) (fun y=>True) (fun y=> .agg #[.bool (decide (z<0)),.slice (y.1) ((yd ((z).natAbs)).length) (y.2)]) (fun y=>[]) (fun y=>[slF (rI .u32) (y.1) (y.2) (yd ((z).natAbs))]):=by
 refine zl Tryz.func86 rfl rfl rfl (fun c=> ?_)
 show RunC _ _ _ _ _ [(0,ya yb z)] [] []
 refine ze<|za<|zK rfl rfl (zw zr26 rfl) (fun b1=> ?_)
 refine zf<|zc<|ze<|za<|e_mv rfl<|e_p (zA (z:=(z%18446744073709551616)) rfl (by rw [Tryz.underlying3];rfl) yj (wu64m om))<|e_p (zb rfl)<|zf<|zc<|ze<|ze<|za<|e_mv rfl<|e_p (zT rfl rfl)<|zf<|zc<|zB rfl (fun hs=> ?_) (fun hs=> ?_)
 ·
  refine za<|e_mv rfl<|e_p (zXe (z:=((z.natAbs:Nat):Int)) rfl (wu64m om))<|e_p (zb rfl)<|zf<|zc<|ze<|za<|e_mv rfl<|e_p (zT rfl rfl)<|e_mv rfl<|zu rfl rfl (.c rfl .n) ce126 (zrb (n0:=z.natAbs) (hn0:=om)) (.n) ?_
  rintro ⟨p22,c23⟩ -
  dsimp only [aq,nq,cq]
  refine zu rfl rfl (.c rfl (.c rfl .n)) ce125 (zxa (s:=decide (z<0)) (a:=z.natAbs) (p:=p22) (cap:=c23)) (.c (j:=0) rfl .n) ?_
  rintro ⟨p24,c25⟩ -
  dsimp only [aq,nq,cq]
  refine zk 0 rfl rfl rfl rfl rfl sz26 rfl (.t2 .nil) .z<|zf<|zc<|zJ ?_
  have hsg:yw (decide (z<0)) (z.natAbs:Int)=z:=Big.sg_big z
  exact zy Tryz.results86 (p24,c25) trivial (zp 0 ty26 rfl rfl (.t2 .nil)) (by rw [hsg]) (ho:=(.n:PickO _ _ _)) ((.e (j:=0) rfl (by rw [hsg]) .n):SelR _ _ _)
 ·
  have e6:((z%18446744073709551616):Int)=((z.natAbs:Nat):Int):=by omega
  rw [e6]
  refine zv<|zc<|ze<|za<|e_mv rfl<|e_p (zT rfl rfl)<|e_mv rfl<|zu rfl rfl (.c rfl .n) ce126 (zrb (n0:=z.natAbs) (hn0:=om)) (.n) ?_
  rintro ⟨p27,c28⟩ -
  dsimp only [aq,nq,cq]
  refine zu rfl rfl (.c rfl (.c rfl .n)) ce125 (zxa (s:=decide (z<0)) (a:=z.natAbs) (p:=p27) (cap:=c28)) (.c (j:=0) rfl .n) ?_
  rintro ⟨p29,c210⟩ -
  dsimp only [aq,nq,cq]
  refine zk 0 rfl rfl rfl rfl rfl sz26 rfl (.t2 .nil) .z<|zf<|zc<|zJ ?_
  have hsg:yw (decide (z<0)) (z.natAbs:Int)=z:=Big.sg_big z
  exact zy Tryz.results86 (p29,c210) trivial (zp 0 ty26 rfl rfl (.t2 .nil)) (by rw [hsg]) (ho:=(.n:PickO _ _ _)) ((.e (j:=0) rfl (by rw [hsg]) .n):SelR _ _ _)
theorem zjd {z:Int} (hz: -9223372036854775808≤z∧z≤9223372036854775807):Con yh 86 [ya yb (z)] [] [] (Y:=(Wd)) (fun y=>True) (fun y=> .agg #[y.b,y.l]) (fun y=>[]) (fun y=>[zF y (z)]):=by
  exact zMb (zig hz)
theorem zJc {a:Nat} {b:Nat} {p1:Option Addr} {c1:Nat} {p2:Option Addr} {c2:Nat} (hb1:(yd a).length≤4398046511104) (hb2:(yd b).length≤4398046511104) (hab:b≤a):Con yh 159 [.slice p1 ((yd a).length) c1,.slice p2 ((yd b).length) c2] [] [slF (rI .u32) p1 c1 (yd a),slF (rI .u32) p2 c2 (yd b)] (Y:=(Option Addr)×Nat) (fun y=>True) (fun y=> .slice (y.1) ((yd (a - b)).length) (y.2)) (fun y=>[]) (fun y=>[slF (rI .u32) (y.1) (y.2) (yd (a - b))]):=by
 refine zl Tryz.func159 rfl rfl rfl (fun c=> ?_)
 show RunC _ _ _ _ _ [(0,.slice p1 ((yd a).length) c1),(1,.slice p2 ((yd b).length) c2)] [] [slF (rI .u32) p1 c1 (yd a),slF (rI .u32) p2 c2 (yd b)]
 refine zY 0 rfl (fun hL0=> ?_)
 refine zY 1 rfl (fun hL1=> ?_)
 refine ze<|za<|e_p (zb rfl)<|zf<|zc<|ze<|za<|e_mv rfl<|e_p (zD ye rfl)<|zra rfl rfl (zCa (r:=rI .u32) (k:=(yd a).length) (x0:=0) (γ0:=()) ye inf115 rfl rfl rfl rfl om om rfl (fun g _=>by exact zx.2 dd) dd) (fun b1 _=> ?_)
 refine e_p (zb rfl)<|zf<|zc<|ze<|za<|e_p (zb rfl)<|zf<|zc<|ze<|ze<|za<|e_mv rfl<|e_p (zD ye rfl)<|e_mv rfl<|zf<|zc<|zt<|zea (X:=Nat×(List Int)×Int) (fun x:Nat×(List Int)×Int=>x.1≤(yd a).length∧x.2.1.length=x.1∧0≤x.2.2∧x.2.2≤1∧yv x.2.1∧yg x.2.1+yg ((yd b).take x.1)=yg ((yd a).take x.1)+yA x.1*x.2.2) (fun x=>[(6,.int .u32 (x.2.2)),(14,ya yb ((x.1:Nat):Int)),(13,ya yb (((yd a).length:Nat):Int)),(5,.slice (some ⟨b1,0,none⟩) ((yd a).length) ((yd a).length)),(4,.slice none 0 0),(0,.slice p1 ((yd a).length) c1),(1,.slice p2 ((yd b).length) c2)]) (fun x=>[rowA 115 (rI .u32) (some ⟨b1,0,none⟩) ((yd a).length) (x.2.1++List.replicate ((yd a).length - x.1) 0)]) (fun x=>[slF (rI .u32) p1 c1 (yd a),slF (rI .u32) p2 c2 (yd b)]) (fun x:Nat×(List Int)×Int=>(yd a).length - x.1) (0,[],0) (show 0≤(yd a).length∧([]).length=0∧0≤0∧0≤1∧yv ([])∧yg ([])+yg ((yd b).take 0)=yg ((yd a).take 0)+yA 0*0 from by exact ⟨by omega,rfl,by decide,by decide,Big.okL_nil,by simp [yg]⟩) ((.c rfl (.e rfl (by first|rfl|(congr 1;omega)|simp_all) (.of rfl))):SubM _ _) (ho:=((.e (i:=0) rfl (by simp) .n):PickO _ _ _)) ((.of [0,1] rfl):SelR _ _ _) ?_
 rintro ⟨i,os,bo⟩ hI
 replace hI:i≤(yd a).length∧os.length=i∧0≤bo∧bo≤1∧yv os∧yg os+yg ((yd b).take i)=yg ((yd a).take i)+yA i*bo:=hI
 try dsimp only
 obtain ⟨hi,hol,hc0,hc1,hok,hv⟩:=hI
 have hg1:=yn (yp a) i
 have hg2:=yn (yp b) i
 refine ze<|za<|e_p (zT rfl rfl)<|zf<|zc<|ze<|zB rfl (fun h2=> ?_) (fun h2=> ?_)
 ·
  refine zv<|zc<|ze<|zt<|ze<|za<|e_mv rfl<|e_p (zb rfl)<|zf<|zc<|ze<|za<|e_mv rfl<|e_mv rfl<|zQ rfl rfl (.c rfl (.c rfl .n)) ce171 (zne (p:=p2) (n:=(yd b).length) (cap:=c2) (l:=yd b) (i:=i) (hn:=cbb) (hi:=cbb)) (.c (j:=1) rfl .n)<|e_mv rfl<|e_p (zH (z:=((yd b).getD i 0+bo)) rfl rfl (wu32 om))<|e_p (zb rfl)<|zf<|zc<|ze<|za<|e_p (zb rfl)<|zf<|zc<|ze<|za<|e_mv rfl<|e_mv rfl<|zV (x0:=((yd a).getD i 0)) 0 i rfl ye sz115 rfl rfl rfl (by first|rfl|assumption|(simp;omega)) rfl rfl (gD (d:=0) om) (fun b3 o4 hok5=> ?_)
  replace hok5:=zx.1 hok5
  refine e_ru (zj (j:=0) 0 ty115 rfl rfl rfl rfl)<|e_mv rfl<|e_p (zT rfl rfl)<|zf<|zc<|zB rfl (fun hc=> ?_) (fun hc=> ?_)
  ·
   refine za<|e_mv rfl<|e_mv rfl<|e_mv rfl<|e_mv rfl<|zV (x0:=((yd a).getD i 0)) 1 i rfl ye sz115 rfl rfl rfl (by first|rfl|assumption|(simp;omega)) rfl rfl (gD (d:=0) om) (fun b6 o7 hok8=> ?_)
   replace hok8:=zx.1 hok8
   refine e_ru (zj (j:=0) 0 ty115 rfl rfl rfl rfl)<|e_p (zH (z:=(((yd a).getD i 0)+1000000000)) rfl rfl (wu32 om))<|e_mv rfl<|e_p (zja (z:=((((yd a).getD i 0)+1000000000) - ((yd b).getD i 0+bo))) rfl rfl (wu32 om))<|e_p (zI (j:=i) ye sz115 rfl rfl rfl om)<|zza 0 rfl rfl rfl (zL (j:=i) (x0:=((((yd a).getD i 0)+1000000000) - ((yd b).getD i 0+bo))) (γ0:=()) rfl rfl (by first|omega|(rw [List.length_map];omega)|(simp only [List.length_set];omega)|(simp;done)|(simp;omega)) rfl rfl sz115 (fun _ _=>by exact zx.2 om)) (fun _=> .z) (fun _ _=> ?_)
   refine e_p (zb rfl)<|zf<|zM<|zc<|za<|e_p (zH (z:=(((i+1):Nat):Int)) rfl rfl (w64 om))<|e_mv rfl<|zf<|zaa ((i+1),os++[(yd a).getD i 0+1000000000 - ((yd b).getD i 0+bo)],1) (show (i+1)≤(yd a).length∧(os++[(yd a).getD i 0+1000000000 - ((yd b).getD i 0+bo)]).length=(i+1)∧0≤1∧1≤1∧yv (os++[(yd a).getD i 0+1000000000 - ((yd b).getD i 0+bo)])∧yg (os++[(yd a).getD i 0+1000000000 - ((yd b).getD i 0+bo)])+yg ((yd b).take (i+1))=yg ((yd a).take (i+1))+yA (i+1)*1 from by exact ⟨by omega,by simp [hol],by decide,by decide,yM hok om om,Big.minus_step hol hv om⟩) (by show (yd a).length - (i+1)<(yd a).length - i;omega) ((.of rfl):SubM _ _) (ho:=((.e (i:=0) rfl (by rw [Big.set_pad hol om]) .n):PickO _ _ _)) ((.of [2,3] rfl):SelR _ _ _)
  ·
   refine za<|e_mv rfl<|e_mv rfl<|e_mv rfl<|e_mv rfl<|zV (x0:=((yd a).getD i 0)) 1 i rfl ye sz115 rfl rfl rfl (by first|rfl|assumption|(simp;omega)) rfl rfl (gD (d:=0) om) (fun b9 o10 hok11=> ?_)
   replace hok11:=zx.1 hok11
   refine e_ru (zj (j:=0) 0 ty115 rfl rfl rfl rfl)<|e_mv rfl<|e_p (zja (z:=(((yd a).getD i 0) - ((yd b).getD i 0+bo))) rfl rfl (wu32 om))<|e_p (zI (j:=i) ye sz115 rfl rfl rfl om)<|zza 0 rfl rfl rfl (zL (j:=i) (x0:=(((yd a).getD i 0) - ((yd b).getD i 0+bo))) (γ0:=()) rfl rfl (by first|omega|(rw [List.length_map];omega)|(simp only [List.length_set];omega)|(simp;done)|(simp;omega)) rfl rfl sz115 (fun _ _=>by exact zx.2 om)) (fun _=> .z) (fun _ _=> ?_)
   refine zf<|zM<|zc<|za<|e_p (zH (z:=(((i+1):Nat):Int)) rfl rfl (w64 om))<|e_mv rfl<|zf<|zaa ((i+1),os++[(yd a).getD i 0 - ((yd b).getD i 0+bo)],0) (show (i+1)≤(yd a).length∧(os++[(yd a).getD i 0 - ((yd b).getD i 0+bo)]).length=(i+1)∧0≤0∧0≤1∧yv (os++[(yd a).getD i 0 - ((yd b).getD i 0+bo)])∧yg (os++[(yd a).getD i 0 - ((yd b).getD i 0+bo)])+yg ((yd b).take (i+1))=yg ((yd a).take (i+1))+yA (i+1)*0 from by exact ⟨by omega,by simp [hol],by decide,by decide,yM hok om om,Big.minus_step hol hv om⟩) (by show (yd a).length - (i+1)<(yd a).length - i;omega) ((.of rfl):SubM _ _) (ho:=((.e (i:=0) rfl (by rw [Big.set_pad hol om]) .n):PickO _ _ _)) ((.of [2,3] rfl):SelR _ _ _)
 ·
  have e12:os++List.replicate ((yd a).length - i) 0=os:=by rw [show (yd a).length - i=0 by omega];simp
  rw [e12]
  have htr:yo os=yd (a - b):=Big.minus_fin hab hok hc0 hol om hv
  refine zda<|zi<|zi<|zr<|zc<|ze<|za<|e_mv rfl<|zga 0 rfl .z<|zu rfl rfl (.c rfl .n) ce156 (zub (p:=some ⟨b1,0,none⟩) (n:=(yd a).length) (cap:=(yd a).length) (l:=os) (hn:=cbb)) (.c (j:=0) rfl .n) ?_
  rintro ⟨⟩ -
  dsimp only [aq,nq,cq]
  refine e_p (zb rfl)<|zf<|zc<|zJ ?_
  exact zy Tryz.results159 ((some ⟨b1,0,none⟩),((yd a).length)) trivial (zo rfl) (by rw [htr]) (ho:=(.n:PickO _ _ _)) ((.e (j:=0) rfl (by rw [htr]) .n):SelR _ _ _)
theorem zqg {s:Bool} {t:Bool} {a:Nat} {b:Nat} {p1:Option Addr} {c1:Nat} {p2:Option Addr} {c2:Nat} (hb1:(yd a).length≤4398046511104) (hb2:(yd b).length≤4398046511104):Con yh 166 [.bool s,.slice p1 ((yd a).length) c1,.bool t,.slice p2 ((yd b).length) c2] [] [slF (rI .u32) p1 c1 (yd a),slF (rI .u32) p2 c2 (yd b)] (Y:=(Option Addr)×Nat) (fun y=>True) (fun y=> .agg #[.bool (decide ((yw s (a:Int)+yw t (b:Int))<0)),.slice (y.1) ((yd ((yw s (a:Int)+yw t (b:Int)).natAbs)).length) (y.2)]) (fun y=>[]) (fun y=>[slF (rI .u32) (y.1) (y.2) (yd ((yw s (a:Int)+yw t (b:Int)).natAbs))]):=by
 refine zl Tryz.func166 rfl rfl rfl (fun c=> ?_)
 show RunC _ _ _ _ _ [(0,.bool s),(1,.slice p1 ((yd a).length) c1),(2,.bool t),(3,.slice p2 ((yd b).length) c2)] [] [slF (rI .u32) p1 c1 (yd a),slF (rI .u32) p2 c2 (yd b)]
 refine zY 0 rfl (fun hL0=> ?_)
 refine zY 1 rfl (fun hL1=> ?_)
 refine ze<|za<|zK rfl rfl (zw zr26 rfl) (fun b1=> ?_)
 refine zf<|zc<|ze<|zt<|ze<|za<|e_mv rfl<|e_mv rfl<|e_p (zyc yC rfl rfl)<|e_p (zb rfl)<|zf<|zc<|zB rfl (fun hst=> ?_) (fun hst=> ?_)
 ·
  refine ze<|za<|e_mv rfl<|e_mv rfl<|e_mv rfl<|zu rfl rfl (.c rfl (.c rfl .n)) ce158 (zFd (a:=a) (b:=b) (p1:=p1) (c1:=c1) (p2:=p2) (c2:=c2) (hb1:=ass) (hb2:=ass)) (.c (j:=0) rfl (.c (j:=1) rfl .n)) ?_
  rintro ⟨p32,c33⟩ -
  dsimp only [aq,nq,cq]
  refine zu rfl rfl (.c rfl (.c rfl .n)) ce125 (zxa (s:=s) (a:=a+b) (p:=p32) (cap:=c33)) (.c (j:=0) rfl .n) ?_
  rintro ⟨p24,c25⟩ -
  dsimp only [aq,nq,cq]
  refine zk 0 rfl rfl rfl rfl rfl sz26 rfl (.t2 .nil) .z<|zf<|zc<|zJ<|zS<|zm ?_
  have hz:yw s ((a+b:Nat):Int)=yw s (a:Int)+yw t (b:Int):=by rw [← hst];unfold yw;split <;> omega
  exact zy Tryz.results166 (p24,c25) trivial (zp 0 ty26 rfl rfl (.t2 .nil)) (by rw [hz]) (ho:=(.n:PickO _ _ _)) ((.e (j:=0) rfl (by rw [hz]) .n):SelR _ _ _)
 ·
  refine ze<|za<|e_mv rfl<|e_mv rfl<|zQ rfl rfl (.c rfl (.c rfl .n)) ce129 (zRb (a:=a) (b:=b) (p1:=p1) (c1:=c1) (p2:=p2) (c2:=c2)) (.c (j:=0) rfl (.c (j:=1) rfl .n))<|e_p (zIa rfl rfl)<|e_p (zb rfl)<|zf<|zc<|zB rfl (fun hcmp=> ?_) (fun hcmp=> ?_)
  ·
   have hab:b≤a:=by have:=Big.cmp_ge.1 hcmp;omega
   refine ze<|za<|e_mv rfl<|e_mv rfl<|e_mv rfl<|zu rfl rfl (.c rfl (.c rfl .n)) ce159 (zJc (a:=a) (b:=b) (p1:=p1) (c1:=c1) (p2:=p2) (c2:=c2) (hb1:=ass) (hb2:=ass) (hab:=cbb)) (.c (j:=0) rfl (.c (j:=1) rfl .n)) ?_
   rintro ⟨p36,c37⟩ -
   dsimp only [aq,nq,cq]
   refine zu rfl rfl (.c rfl (.c rfl .n)) ce125 (zxa (s:=s) (a:=a - b) (p:=p36) (cap:=c37)) (.c (j:=0) rfl .n) ?_
   rintro ⟨p28,c29⟩ -
   dsimp only [aq,nq,cq]
   refine zk 0 rfl rfl rfl rfl rfl sz26 rfl (.t2 .nil) .z<|zf<|zc<|zJ<|zS<|zm ?_
   have hz:yw s ((a - b:Nat):Int)=yw s (a:Int)+yw t (b:Int):=by revert hst;unfold yw;cases s <;> cases t <;> simp <;> omega
   exact zy Tryz.results166 (p28,c29) trivial (zp 0 ty26 rfl rfl (.t2 .nil)) (by rw [hz]) (ho:=(.n:PickO _ _ _)) ((.e (j:=0) rfl (by rw [hz]) .n):SelR _ _ _)
  ·
   have hab:a≤b:=by have:¬(b:Int)≤a:=fun h=>hcmp (Big.cmp_ge.2 h);omega
   refine zv<|zM<|zc<|ze<|za<|e_mv rfl<|e_mv rfl<|e_mv rfl<|zu rfl rfl (.c rfl (.c rfl .n)) ce159 (zJc (a:=b) (b:=a) (p1:=p2) (c1:=c2) (p2:=p1) (c2:=c1) (hb1:=ass) (hb2:=ass) (hab:=cbb)) (.c (j:=1) rfl (.c (j:=0) rfl .n)) ?_
   rintro ⟨p310,c311⟩ -
   dsimp only [aq,nq,cq]
   refine zu rfl rfl (.c rfl (.c rfl .n)) ce125 (zxa (s:=t) (a:=b - a) (p:=p310) (cap:=c311)) (.c (j:=0) rfl .n) ?_
   rintro ⟨p212,c213⟩ -
   dsimp only [aq,nq,cq]
   refine zk 0 rfl rfl rfl rfl rfl sz26 rfl (.t2 .nil) .z<|zf<|zc<|zJ ?_
   have hz:yw t ((b - a:Nat):Int)=yw s (a:Int)+yw t (b:Int):=by revert hst;unfold yw;cases s <;> cases t <;> simp <;> omega
   exact zy Tryz.results166 (p212,c213) trivial (zp 0 ty26 rfl rfl (.t2 .nil)) (by rw [hz]) (ho:=(.n:PickO _ _ _)) ((.e (j:=0) rfl (by rw [hz]) .n):SelR _ _ _)
theorem zGd {a:Nat} {b:Nat} {p1:Option Addr} {c1:Nat} {p2:Option Addr} {c2:Nat} (hb1:(yd a).length≤4398046511104) (hb2:(yd b).length≤4398046511104):Con yh 131 [.slice p1 ((yd a).length) c1,.slice p2 ((yd b).length) c2] [] [slF (rI .u32) p1 c1 (yd a),slF (rI .u32) p2 c2 (yd b)] (Y:=(Option Addr)×Nat) (fun y=>True) (fun y=> .slice (y.1) ((yd (a*b)).length) (y.2)) (fun y=>[]) (fun y=>[slF (rI .u32) (y.1) (y.2) (yd (a*b))]):=by
 refine zl Tryz.func131 rfl rfl rfl (fun c=> ?_)
 show RunC _ _ _ _ _ [(0,.slice p1 ((yd a).length) c1),(1,.slice p2 ((yd b).length) c2)] [] [slF (rI .u32) p1 c1 (yd a),slF (rI .u32) p2 c2 (yd b)]
 refine zY 0 rfl (fun hL0=> ?_)
 refine zY 1 rfl (fun hL1=> ?_)
 have hoa:=yp a
 have hob:=yp b
 refine ze<|za<|e_p (zb rfl)<|zf<|zc<|ze<|za<|e_mv rfl<|e_p (zD ye rfl)<|e_mv rfl<|e_p (zD ye rfl)<|e_p (zH (z:=(((((yd a).length)+((yd b).length)):Nat):Int)) rfl rfl (w64 om))<|zra rfl rfl (zCa (r:=rI .u32) (k:=(((yd a).length)+((yd b).length))) (x0:=0) (γ0:=()) ye inf115 rfl rfl rfl rfl om om rfl (fun g _=>by exact zx.2 dd) dd) (fun b1 _=> ?_)
 refine e_p (zb rfl)<|zf<|zc<|ze<|ze<|za<|e_mv rfl<|e_p (zD ye rfl)<|e_mv rfl<|zf<|zc<|zt<|zea (X:=Nat×(List Int)) (fun x:Nat×(List Int)=>x.1≤(yd a).length∧x.2.length=(yd a).length+(yd b).length∧yv x.2∧(∀k,x.1+(yd b).length≤k→x.2.getD k 0=0)∧yg x.2=yg ((yd a).take x.1)*yg (yd b)) (fun x=>[(20,ya yb ((x.1:Nat):Int)),(19,ya yb (((yd a).length:Nat):Int)),(18,.slice p1 ((yd a).length) c1),(5,.slice (some ⟨b1,0,none⟩) (((yd a).length)+((yd b).length)) (((yd a).length)+((yd b).length))),(4,.slice none 0 0),(1,.slice p2 ((yd b).length) c2)]) (fun x=>[rowA 115 (rI .u32) (some ⟨b1,0,none⟩) (((yd a).length)+((yd b).length)) (x.2)]) (fun x=>[slF (rI .u32) p1 c1 (yd a),slF (rI .u32) p2 c2 (yd b)]) (fun x:Nat×(List Int)=>(yd a).length - x.1) (0,List.replicate ((yd a).length+(yd b).length) 0) (show 0≤(yd a).length∧(List.replicate ((yd a).length+(yd b).length) 0).length=(yd a).length+(yd b).length∧yv (List.replicate ((yd a).length+(yd b).length) 0)∧(∀k,0+(yd b).length≤k→(List.replicate ((yd a).length+(yd b).length) 0).getD k 0=0)∧yg (List.replicate ((yd a).length+(yd b).length) 0)=yg ((yd a).take 0)*yg (yd b) from by exact ⟨by omega,by simp,Big.okL_zeros _,fun k _=>Big.getD_zeros _ k,by simp [Big.valL_zeros,yg]⟩) ((.e rfl (by first|rfl|(congr 1;omega)|simp_all) (.of rfl)):SubM _ _) (ho:=((.e (i:=0) rfl (by first|rfl|(congr 1;omega)|simp_all) .n):PickO _ _ _)) ((.of [0,1] rfl):SelR _ _ _) ?_
 rintro ⟨i,os⟩ hI
 replace hI:i≤(yd a).length∧os.length=(yd a).length+(yd b).length∧yv os∧(∀k,i+(yd b).length≤k→os.getD k 0=0)∧yg os=yg ((yd a).take i)*yg (yd b):=hI
 try dsimp only
 obtain ⟨hi,hol,hok,hz,hv⟩:=hI
 have hg1:=yn hoa i
 refine ze<|za<|e_p (zT rfl rfl)<|zf<|zc<|ze<|zB rfl (fun h2=> ?_) (fun h2=> ?_)
 ·
  refine zv<|zc<|ze<|zt<|ze<|za<|e_mv rfl<|zV (x0:=((yd a).getD i 0)) 0 i rfl ye sz115 rfl rfl rfl (by first|rfl|assumption|(simp;omega)|omega) rfl rfl (gD (d:=0) om) (fun b3 o4 hok5=> ?_)
  replace hok5:=zx.1 hok5
  refine e_ru (zj (j:=0) 0 ty115 rfl rfl rfl rfl)<|e_p (zb rfl)<|e_p (zb rfl)<|zf<|zc<|ze<|za<|e_p (zb rfl)<|zf<|zc<|ze<|ze<|za<|e_mv rfl<|e_p (zD ye rfl)<|e_mv rfl<|zf<|zc<|zt<|zea (X:=Nat×(List Int)×Int) (fun x:Nat×(List Int)×Int=>x.1≤(yd b).length∧x.2.1.length=(yd a).length+(yd b).length∧yv x.2.1∧0≤x.2.2∧x.2.2<1000000000∧(∀k,i+(yd b).length≤k→x.2.1.getD k 0=0)∧yg x.2.1+yA (i+x.1)*x.2.2=yg ((yd a).take i)*yg (yd b)+yA i*(yd a).getD i 0*yg ((yd b).take x.1)) (fun x=>[(8,.int .u64 (x.2.2)),(27,ya yb ((x.1:Nat):Int)),(26,ya yb (((yd b).length:Nat):Int)),(25,.slice p2 ((yd b).length) c2),(7,.int .u32 ((yd a).getD i 0)),(6,ya yb ((i:Nat):Int)),(20,ya yb ((i:Nat):Int)),(19,ya yb (((yd a).length:Nat):Int)),(18,.slice p1 ((yd a).length) c1),(5,.slice (some ⟨b1,0,none⟩) (((yd a).length)+((yd b).length)) (((yd a).length)+((yd b).length))),(4,.slice none 0 0),(1,.slice p2 ((yd b).length) c2)]) (fun x=>[rowA 115 (rI .u32) (some ⟨b1,0,none⟩) (((yd a).length)+((yd b).length)) (x.2.1)]) (fun x=>[atF b3 o4 [.int .u32 ((yd a).getD i 0)],slF (rI .u32) p1 c1 (yd a),slF (rI .u32) p2 c2 (yd b)]) (fun x:Nat×(List Int)×Int=>(yd b).length - x.1) (0,os,0) (show 0≤(yd b).length∧os.length=(yd a).length+(yd b).length∧yv os∧0≤0∧0<1000000000∧(∀k,i+(yd b).length≤k→os.getD k 0=0)∧yg os+yA (i+0)*0=yg ((yd a).take i)*yg (yd b)+yA i*(yd a).getD i 0*yg ((yd b).take 0) from by exact ⟨by omega,hol,hok,by decide,by decide,hz,by rw [hv];simp [yg]⟩) ((.c rfl (.e rfl (by first|rfl|(congr 1;omega)|simp_all) (.of rfl))):SubM _ _) (ho:=((.c (i:=0) rfl .n):PickO _ _ _)) ((.of [0,1,2] rfl):SelR _ _ _) ?_
  rintro ⟨j,os2,cy⟩ hJ
  replace hJ:j≤(yd b).length∧os2.length=(yd a).length+(yd b).length∧yv os2∧0≤cy∧cy<1000000000∧(∀k,i+(yd b).length≤k→os2.getD k 0=0)∧yg os2+yA (i+j)*cy=yg ((yd a).take i)*yg (yd b)+yA i*(yd a).getD i 0*yg ((yd b).take j):=hJ
  try dsimp only
  obtain ⟨hj,hol2,hok2,hcy0,hcy1,hz2,hv2⟩:=hJ
  have hg2:=yn hob j
  have hg3:=yn hok2 (i+j)
  have hpq:=Big.mul_lim hg1 hg2
  refine ze<|za<|e_p (zT rfl rfl)<|zf<|zc<|ze<|zB rfl (fun h6=> ?_) (fun h6=> ?_)
  ·
   refine zv<|zc<|ze<|zt<|ze<|za<|e_mv rfl<|zV (x0:=((yd b).getD j 0)) 2 j rfl ye sz115 rfl rfl rfl (by first|rfl|assumption|(simp;omega)|omega) rfl rfl (gD (d:=0) om) (fun b7 o8 hok9=> ?_)
   replace hok9:=zx.1 hok9
   refine e_ru (zj (j:=0) 0 ty115 rfl rfl rfl rfl)<|e_p (zb rfl)<|e_p (zb rfl)<|zf<|zc<|ze<|za<|e_mv rfl<|e_mv rfl<|e_mv rfl<|e_p (zH (z:=(((i+j):Nat):Int)) rfl rfl (w64 om))<|e_p (zI (j:=(i+j)) ye sz115 rfl rfl rfl om)<|r_vl rfl rfl (zE 0 (i+j) rfl ty115 rfl rfl (gD (d:=0) om) rfl) (fun _ hok10=> ?_)
   replace hok10:=zx.1 hok10
   refine e_p (zA (z:=(os2.getD (i+j) 0)) rfl (by rw [yi];rfl) yj (wu64 om))<|e_mv rfl<|e_p (zA (z:=((yd a).getD i 0)) rfl (by rw [yi];rfl) yj (wu64 om))<|e_mv rfl<|e_p (zA (z:=((yd b).getD j 0)) rfl (by rw [yi];rfl) yj (wu64 om))<|e_p (zwa (z:=(((yd a).getD i 0)*((yd b).getD j 0))) rfl rfl (wu64 om))<|e_p (zH (z:=((os2.getD (i+j) 0)+(((yd a).getD i 0)*((yd b).getD j 0)))) rfl rfl (wu64 om))<|e_mv rfl<|e_p (zH (z:=(((os2.getD (i+j) 0)+(((yd a).getD i 0)*((yd b).getD j 0)))+cy)) rfl rfl (wu64 om))<|e_p (zb rfl)<|zf<|zc<|za<|e_mv rfl<|e_mv rfl<|e_mv rfl<|e_p (zH (z:=(((i+j):Nat):Int)) rfl rfl (w64 om))<|e_mv rfl<|e_p (zTa (z:=((((os2.getD (i+j) 0)+(((yd a).getD i 0)*((yd b).getD j 0)))+cy)%1000000000)) rfl rfl om (remN om om))<|e_p (zA (z:=((((os2.getD (i+j) 0)+(((yd a).getD i 0)*((yd b).getD j 0)))+cy)%1000000000)) rfl (by rw [yj];rfl) yi (wu32 om))<|e_mv rfl<|e_p (zSa (z:=((((os2.getD (i+j) 0)+(((yd a).getD i 0)*((yd b).getD j 0)))+cy) / 1000000000)) rfl rfl om (by rw [quoN (z:=((((os2.getD (i+j) 0)+(((yd a).getD i 0)*((yd b).getD j 0)))+cy) / 1000000000)) om om];exact wu64 om))<|e_p (zI (j:=(i+j)) ye sz115 rfl rfl rfl om)<|zza 0 rfl rfl rfl (zL (j:=(i+j)) (x0:=((((os2.getD (i+j) 0)+(((yd a).getD i 0)*((yd b).getD j 0)))+cy)%1000000000)) (γ0:=()) rfl rfl (by first|omega|(rw [List.length_map];omega)|(simp only [List.length_set];omega)|(simp;done)|(simp;omega)) rfl rfl sz115 (fun _ _=>by exact zx.2 om)) (fun _=> .z) (fun _ _=> ?_)
   refine e_p (zb rfl)<|zf<|zM<|zc<|za<|e_p (zH (z:=(((j+1):Nat):Int)) rfl rfl (w64 om))<|e_mv rfl<|zf<|zaa ((j+1),os2.set (i+j) ((os2.getD (i+j) 0+(yd a).getD i 0*(yd b).getD j 0+cy)%1000000000),(os2.getD (i+j) 0+(yd a).getD i 0*(yd b).getD j 0+cy) / 1000000000) (show (j+1)≤(yd b).length∧(os2.set (i+j) ((os2.getD (i+j) 0+(yd a).getD i 0*(yd b).getD j 0+cy)%1000000000)).length=(yd a).length+(yd b).length∧yv (os2.set (i+j) ((os2.getD (i+j) 0+(yd a).getD i 0*(yd b).getD j 0+cy)%1000000000))∧0≤((os2.getD (i+j) 0+(yd a).getD i 0*(yd b).getD j 0+cy) / 1000000000)∧((os2.getD (i+j) 0+(yd a).getD i 0*(yd b).getD j 0+cy) / 1000000000)<1000000000∧(∀k,i+(yd b).length≤k→(os2.set (i+j) ((os2.getD (i+j) 0+(yd a).getD i 0*(yd b).getD j 0+cy)%1000000000)).getD k 0=0)∧yg (os2.set (i+j) ((os2.getD (i+j) 0+(yd a).getD i 0*(yd b).getD j 0+cy)%1000000000))+yA (i+(j+1))*((os2.getD (i+j) 0+(yd a).getD i 0*(yd b).getD j 0+cy) / 1000000000)=yg ((yd a).take i)*yg (yd b)+yA i*(yd a).getD i 0*yg ((yd b).take (j+1)) from by exact ⟨by omega,by simpa using hol2,yQ hok2 om om,by omega,by omega,fun k hk=>by rw [yK om];exact hz2 k om,Big.mul_step hv2 om om⟩) (by show (yd b).length - (j+1)<(yd b).length - j;omega) ((.e rfl (by first|rfl|(congr 1;omega)|simp_all) (.of rfl)):SubM _ _) (ho:=((.e (i:=0) rfl (by first|rfl|(congr 1;omega)|simp_all) .n):PickO _ _ _)) ((.of [1,2,3] rfl):SelR _ _ _)
  ·
   have hjb:j=(yd b).length:=by omega
   subst hjb
   have hv3:=hv2
   refine zda<|zi<|zi<|zr<|zc<|za<|e_mv rfl<|e_mv rfl<|e_mv rfl<|e_p (zD ye rfl)<|e_p (zH (z:=(((i+((yd b).length)):Nat):Int)) rfl rfl (w64 om))<|e_mv rfl<|e_p (zA (z:=cy) rfl (by rw [yj];rfl) yi (wu32 om))<|e_p (zI (j:=(i+((yd b).length))) ye sz115 rfl rfl rfl om)<|zza 0 rfl rfl rfl (zL (j:=(i+((yd b).length))) (x0:=cy) (γ0:=()) rfl rfl (by first|omega|(rw [List.length_map];omega)|(simp only [List.length_set];omega)|(simp;done)|(simp;omega)) rfl rfl sz115 (fun _ _=>by exact zx.2 om)) (fun _=> .z) (fun _ _=> ?_)
   refine zf<|zM<|zc<|za<|e_p (zH (z:=(((i+1):Nat):Int)) rfl rfl (w64 om))<|e_mv rfl<|zf<|zaa ((i+1),os2.set (i+(yd b).length) cy) (show (i+1)≤(yd a).length∧(os2.set (i+(yd b).length) cy).length=(yd a).length+(yd b).length∧yv (os2.set (i+(yd b).length) cy)∧(∀k,(i+1)+(yd b).length≤k→(os2.set (i+(yd b).length) cy).getD k 0=0)∧yg (os2.set (i+(yd b).length) cy)=yg ((yd a).take (i+1))*yg (yd b) from by exact ⟨by omega,by simpa using hol2,yQ hok2 om om,fun k hk=>by rw [yK om];exact hz2 k om,Big.mul_round hv3 om (hz2 _ (Nat.le_refl _))⟩) (by show (yd a).length - (i+1)<(yd a).length - i;omega) ((.of rfl):SubM _ _) (ho:=((.e (i:=0) rfl (by first|rfl|(congr 1;omega)|simp_all) .n):PickO _ _ _)) ((.of [1,2] rfl):SelR _ _ _)
 ·
  have hia:i=(yd a).length:=by omega
  have hfin:yo os=yd (a*b):=Big.trimL_of hok (by rw [hv,hia,List.take_length,yz,yz,Int.natCast_mul])
  refine zda<|zi<|zi<|zr<|zc<|ze<|za<|e_mv rfl<|zga 0 rfl .z<|zu rfl rfl (.c rfl .n) ce156 (zub (p:=some ⟨b1,0,none⟩) (n:=(((yd a).length)+((yd b).length))) (cap:=(((yd a).length)+((yd b).length))) (l:=os) (hn:=cbb)) (.c (j:=0) rfl .n) ?_
  rintro ⟨⟩ -
  dsimp only [aq,nq,cq]
  refine e_p (zb rfl)<|zf<|zc<|zJ ?_
  exact zy Tryz.results131 ((some ⟨b1,0,none⟩),(((yd a).length)+((yd b).length))) trivial (zo rfl) (by rw [hfin]) (ho:=(.n:PickO _ _ _)) ((.e (j:=0) rfl (by rw [hfin]) .n):SelR _ _ _)
theorem zoe {s:Bool} {p:Option Addr} {n:Nat} {cap:Nat} {l:List Int} (hn:l.length=n):Con yh 92 [.agg #[.bool s,.slice p n cap]] [] [slF (rI .u32) p cap l] (Y:=Unit) (fun y=>True) (fun y=> ya yb ((yk s l).sign)) (fun y=>[]) (fun y=>[]):=by
 refine zl Tryz.func92 rfl rfl rfl (fun c=> ?_)
 show RunC _ _ _ _ _ [(0,.agg #[.bool s,.slice p n cap])] [] [slF (rI .u32) p cap l]
 refine zY 0 rfl (fun hL0=> ?_)
 refine zOa 0 rfl (fun hE0=> ?_)
 have hnn:yF l:=fun g hg=>(zx.1 (hE0 g hg)).1
 refine ze<|za<|zK rfl rfl (zU rfl rfl) (fun b1=> ?_)
 refine e_p (zb rfl)<|zf<|zc<|ze<|zt<|ze<|za<|e_ru (zd 0 ty26 rfl rfl (.t2 .nil))<|zu rfl rfl (.c rfl .n) ce130 (zLa (s:=s) (p:=p) (n:=n) (cap:=cap) (l:=l) (hn:=ass)) (.c (j:=0) rfl .n) ?_
 rintro ⟨p22,c23⟩ -
 dsimp only [aq,nq,cq]
 refine e_p (zD ye rfl)<|e_p (zta rfl rfl)<|e_p (zb rfl)<|zf<|zc<|zB rfl (fun h0=> ?_) (fun h0=> ?_)
 ·
  refine ze<|za<|e_p (zb rfl)<|zf<|zc<|zJ<|zS<|zm ?_
  exact zy Tryz.results92 () trivial (zo rfl) (by rw [show yk s l=0 by have:=yI.1 (show (yd (yk s l).natAbs).length=0 by omega);omega];rfl) (ho:=(.n:PickO _ _ _)) (.n:SelR _ _ _)
 ·
  refine ze<|za<|e_p (zh yl rfl sz4 rfl rfl)<|e_ru (zg 0 ty4 rfl rfl rfl)<|e_p (zb rfl)<|zf<|zc<|zPb rfl (fun hs=> ?_) (fun hs=> ?_)
  ·
   refine ze<|za<|e_p (zb rfl)<|zf<|zc<|zJ<|zS<|zm ?_
   exact zy Tryz.results92 () trivial (zo rfl) (by rw [Big.sign_neg hnn hs (by intro e;rw [e] at h0;exact h0 rfl)]) (ho:=(.n:PickO _ _ _)) (.n:SelR _ _ _)
  ·
   refine zv<|zM<|zc<|ze<|za<|e_p (zb rfl)<|zf<|zc<|zJ ?_
   exact zy Tryz.results92 () trivial (zo rfl) (by rw [Big.sign_pos hnn hs (by intro e;rw [e] at h0;exact h0 rfl)]) (ho:=(.n:PickO _ _ _)) (.n:SelR _ _ _)
theorem zKc {z:Int} {p:Option Addr} {cap:Nat}:Con yh 92 [.agg #[.bool (decide ((z)<0)),.slice (p) ((yd ((z).natAbs)).length) (cap)]] [] [slF (rI .u32) (p) (cap) (yd ((z).natAbs))] (Y:=Unit) (fun y=>True) (fun y=> ya yb ((z).sign)) (fun y=>[]) (fun y=>[]):=by
  have h:= @zoe (decide ((z)<0)) p (yd (z).natAbs).length cap (yd (z).natAbs) rfl
  rw [yr] at h
  exact h
theorem zGb {w1:Wd} {x1:Int}:Con yh 92 [.agg #[w1.b,w1.l]] [] [zF w1 (x1)] (Y:=Unit) (fun y=>True) (fun y=> ya yb ((x1).sign)) (fun y=>[]) (fun y=>[]):=by
  exact zXc (fun p c=>zKc)
theorem zrg {s:Bool} {p1:Option Addr} {n1:Nat} {c1:Nat} {l1:List Int} {t:Bool} {p2:Option Addr} {n2:Nat} {c2:Nat} {l2:List Int} (hn1:l1.length=n1) (hn2:l2.length=n2) (hb1:yq (yk s l1)≤4398046511104) (hb2:yq (yk t l2)≤4398046511104):Con yh 146 [.agg #[.bool s,.slice p1 n1 c1],.agg #[.bool t,.slice p2 n2 c2]] [] [slF (rI .u32) p1 c1 l1,slF (rI .u32) p2 c2 l2] (Y:=(Option Addr)×Nat) (fun y=>True) (fun y=> .agg #[.bool (decide ((yk s l1+yk t l2)<0)),.slice (y.1) ((yd ((yk s l1+yk t l2).natAbs)).length) (y.2)]) (fun y=>[]) (fun y=>[slF (rI .u32) (y.1) (y.2) (yd ((yk s l1+yk t l2).natAbs))]):=by
 refine zl Tryz.func146 rfl rfl rfl (fun c=> ?_)
 show RunC _ _ _ _ _ [(0,.agg #[.bool s,.slice p1 n1 c1]),(1,.agg #[.bool t,.slice p2 n2 c2])] [] [slF (rI .u32) p1 c1 l1,slF (rI .u32) p2 c2 l2]
 refine zY 0 rfl (fun hL0=> ?_)
 refine zOa 0 rfl (fun hE0=> ?_)
 refine zY 1 rfl (fun hL1=> ?_)
 refine zOa 1 rfl (fun hE1=> ?_)
 have hnn1:yF l1:=fun g hg=>(zx.1 (hE0 g hg)).1
 have hnn2:yF l2:=fun g hg=>(zx.1 (hE1 g hg)).1
 refine ze<|za<|zK rfl rfl (zU rfl rfl) (fun b1=> ?_)
 refine zK rfl rfl (zU rfl rfl) (fun b2=> ?_)
 refine zK rfl rfl (zw zr26 rfl) (fun b3=> ?_)
 refine zf<|zc<|ze<|zZ (OW:=[boxA b3 26 [wz.b,wz.l]]) (O:=[boxA b2 26 [.bool t,.slice p2 n2 c2],boxA b1 26 [.bool s,.slice p1 n1 c1]]) 9 mixed (.then .ret) kr<|e_pv 0 rfl rfl (zh yl rfl sz4 rfl rfl)<|e_uw 1 rfl rfl (zg 2 ty4 rfl rfl rfl)<|e_uw 2 rfl rfl (zd 2 ty26 rfl rfl (.t2 .nil))<|e_pv 4 rfl rfl (zh yl rfl sz4 rfl rfl)<|e_uw 5 rfl rfl (zg 1 ty4 rfl rfl rfl)<|e_uw 6 rfl rfl (zd 1 ty26 rfl rfl (.t2 .nil))<|e_one 3 (zC rfl rfl rfl rfl (.c rfl .n) ce130 (zLa (s:=s) (p:=p1) (n:=n1) (cap:=c1) (l:=l1) (hn:=ass)) (.c (j:=0) rfl .n) ?_)
 rintro ⟨p24,c25⟩ -
 dsimp only [aq,nq,cq]
 refine e_one 7 (zC rfl rfl rfl rfl (.c rfl .n) ce130 (zLa (s:=t) (p:=p2) (n:=n2) (cap:=c2) (l:=l2) (hn:=ass)) (.c (j:=2) rfl .n) ?_)
 rintro ⟨p26,c27⟩ -
 dsimp only [aq,nq,cq]
 refine e_one 8 (zC rfl rfl rfl rfl (.c rfl (.c rfl (.c rfl (.c rfl .n)))) ce166 (zqg (s:=s) (t:=t) (a:=(yk s l1).natAbs) (b:=(yk t l2).natAbs) (p1:=p24) (c1:=c25) (p2:=p26) (c2:=c27) (hb1:=cbb) (hb2:=cbb)) (.c (j:=1) rfl (.c (j:=0) rfl .n)) ?_)
 rintro ⟨p38,c39⟩ -
 dsimp only [aq,nq,cq]
 refine e_one 9 (zG kr rfl rfl rfl rfl rfl sz26 rfl (.t2 .nil) ?_)
 refine zX kr<|zc<|zJ ?_
 have hz:yw s ((yk s l1).natAbs:Int)+yw t ((yk t l2).natAbs:Int)=yk s l1+yk t l2:=by rw [yV hnn1,yV hnn2]
 exact zy Tryz.results146 (p38,c39) trivial (zp 0 ty26 rfl rfl (.t2 .nil)) (by rw [hz]) (ho:=(.n:PickO _ _ _)) ((.e (j:=0) rfl (by rw [hz]) .n):SelR _ _ _)
theorem zSf {x1:Int} {x2:Int} {p1:Option Addr} {c1:Nat} {p2:Option Addr} {c2:Nat} (hb1:yq x1≤4398046511104) (hb2:yq x2≤4398046511104):Con yh 146 [.agg #[.bool (decide ((x1)<0)),.slice (p1) ((yd ((x1).natAbs)).length) (c1)],.agg #[.bool (decide ((x2)<0)),.slice (p2) ((yd ((x2).natAbs)).length) (c2)]] [] [slF (rI .u32) (p1) (c1) (yd ((x1).natAbs)),slF (rI .u32) (p2) (c2) (yd ((x2).natAbs))] (Y:=(Option Addr)×(Nat)) (fun y=>True) (fun y=> .agg #[.bool (decide ((x1+x2)<0)),.slice (y.1) ((yd ((x1+x2).natAbs)).length) (y.2)]) (fun y=>[]) (fun y=>[slF (rI .u32) (y.1) (y.2) (yd ((x1+x2).natAbs))]):=by
  have h:= @zrg (decide ((x1)<0)) p1 (yd (x1).natAbs).length c1 (yd (x1).natAbs) (decide ((x2)<0)) p2 (yd (x2).natAbs).length c2 (yd (x2).natAbs) rfl rfl (by rw [yr];exact hb1) (by rw [yr];exact hb2)
  rw [yr,yr] at h
  exact h
theorem zTf {w1:Wd} {w2:Wd} {x1:Int} {x2:Int} (hb1:yq x1≤4398046511104) (hb2:yq x2≤4398046511104):Con yh 146 [.agg #[w1.b,w1.l],.agg #[w2.b,w2.l]] [] [zF w1 (x1),zF w2 (x2)] (Y:=(Wd)) (fun y=>True) (fun y=> .agg #[y.b,y.l]) (fun y=>[]) (fun y=>[zF y (x1+x2)]):=by
  exact zMb (zWb (fun p1 c1 p2 c2=>zSf hb1 hb2))
theorem zsg {s:Bool} {p1:Option Addr} {n1:Nat} {c1:Nat} {l1:List Int} {t:Bool} {p2:Option Addr} {n2:Nat} {c2:Nat} {l2:List Int} (hn1:l1.length=n1) (hn2:l2.length=n2) (hb1:yq (yk s l1)≤4398046511104) (hb2:yq (yk t l2)≤4398046511104):Con yh 89 [.agg #[.bool s,.slice p1 n1 c1],.agg #[.bool t,.slice p2 n2 c2]] [] [slF (rI .u32) p1 c1 l1,slF (rI .u32) p2 c2 l2] (Y:=(Option Addr)×Nat) (fun y=>True) (fun y=> .agg #[.bool (decide ((yk s l1*yk t l2)<0)),.slice (y.1) ((yd ((yk s l1*yk t l2).natAbs)).length) (y.2)]) (fun y=>[]) (fun y=>[slF (rI .u32) (y.1) (y.2) (yd ((yk s l1*yk t l2).natAbs))]):=by
 refine zl Tryz.func89 rfl rfl rfl (fun c=> ?_)
 show RunC _ _ _ _ _ [(0,.agg #[.bool s,.slice p1 n1 c1]),(1,.agg #[.bool t,.slice p2 n2 c2])] [] [slF (rI .u32) p1 c1 l1,slF (rI .u32) p2 c2 l2]
 refine zY 0 rfl (fun hL0=> ?_)
 refine zOa 0 rfl (fun hE0=> ?_)
 refine zY 1 rfl (fun hL1=> ?_)
 refine zOa 1 rfl (fun hE1=> ?_)
 have hnn1:yF l1:=fun g hg=>(zx.1 (hE0 g hg)).1
 have hnn2:yF l2:=fun g hg=>(zx.1 (hE1 g hg)).1
 refine ze<|za<|zK rfl rfl (zU rfl rfl) (fun b1=> ?_)
 refine zK rfl rfl (zU rfl rfl) (fun b2=> ?_)
 refine zK rfl rfl (zw zr26 rfl) (fun b3=> ?_)
 refine zf<|zc<|ze<|zZ (OW:=[boxA b3 26 [wz.b,wz.l]]) (O:=[boxA b2 26 [.bool t,.slice p2 n2 c2],boxA b1 26 [.bool s,.slice p1 n1 c1]]) 11 mixed (.then .ret) kr<|e_pv 0 rfl rfl (zh yl rfl sz4 rfl rfl)<|e_uw 1 rfl rfl (zg 2 ty4 rfl rfl rfl)<|e_pv 2 rfl rfl (zh yl rfl sz4 rfl rfl)<|e_uw 3 rfl rfl (zg 1 ty4 rfl rfl rfl)<|e_pv 4 rfl rfl (zJa yC rfl rfl)<|e_uw 5 rfl rfl (zd 2 ty26 rfl rfl (.t2 .nil))<|e_uw 7 rfl rfl (zd 1 ty26 rfl rfl (.t2 .nil))<|e_one 6 (zC rfl rfl rfl rfl (.c rfl .n) ce130 (zLa (s:=s) (p:=p1) (n:=n1) (cap:=c1) (l:=l1) (hn:=ass)) (.c (j:=0) rfl .n) ?_)
 rintro ⟨p24,c25⟩ -
 dsimp only [aq,nq,cq]
 refine e_one 8 (zC rfl rfl rfl rfl (.c rfl .n) ce130 (zLa (s:=t) (p:=p2) (n:=n2) (cap:=c2) (l:=l2) (hn:=ass)) (.c (j:=2) rfl .n) ?_)
 rintro ⟨p26,c27⟩ -
 dsimp only [aq,nq,cq]
 refine e_one 9 (zC rfl rfl rfl rfl (.c rfl (.c rfl .n)) ce131 (zGd (a:=(yk s l1).natAbs) (b:=(yk t l2).natAbs) (p1:=p24) (c1:=c25) (p2:=p26) (c2:=c27) (hb1:=cbb) (hb2:=cbb)) (.c (j:=1) rfl (.c (j:=0) rfl .n)) ?_)
 rintro ⟨p38,c39⟩ -
 dsimp only [aq,nq,cq]
 refine e_one 10 (zC rfl rfl rfl rfl (.c rfl (.c rfl .n)) ce125 (zxa (s:=decide (s≠t)) (a:=((yk s l1).natAbs)*((yk t l2).natAbs)) (p:=p38) (cap:=c39)) (.c (j:=0) rfl .n) ?_)
 rintro ⟨p210,c211⟩ -
 dsimp only [aq,nq,cq]
 refine e_one 11 (zG kr rfl rfl rfl rfl rfl sz26 rfl (.t2 .nil) ?_)
 refine zX kr<|zc<|zJ ?_
 have hz:yw (decide (s≠t)) (((yk s l1).natAbs*(yk t l2).natAbs:Nat):Int)=yk s l1*yk t l2:=by rw [Big.sg_mul,yV hnn1,yV hnn2]
 exact zy Tryz.results89 (p210,c211) trivial (zp 0 ty26 rfl rfl (.t2 .nil)) (by rw [hz]) (ho:=(.n:PickO _ _ _)) ((.e (j:=0) rfl (by rw [hz]) .n):SelR _ _ _)
theorem zUf {x1:Int} {x2:Int} {p1:Option Addr} {c1:Nat} {p2:Option Addr} {c2:Nat} (hb1:yq x1≤4398046511104) (hb2:yq x2≤4398046511104):Con yh 89 [.agg #[.bool (decide ((x1)<0)),.slice (p1) ((yd ((x1).natAbs)).length) (c1)],.agg #[.bool (decide ((x2)<0)),.slice (p2) ((yd ((x2).natAbs)).length) (c2)]] [] [slF (rI .u32) (p1) (c1) (yd ((x1).natAbs)),slF (rI .u32) (p2) (c2) (yd ((x2).natAbs))] (Y:=(Option Addr)×(Nat)) (fun y=>True) (fun y=> .agg #[.bool (decide ((x1*x2)<0)),.slice (y.1) ((yd ((x1*x2).natAbs)).length) (y.2)]) (fun y=>[]) (fun y=>[slF (rI .u32) (y.1) (y.2) (yd ((x1*x2).natAbs))]):=by
  have h:= @zsg (decide ((x1)<0)) p1 (yd (x1).natAbs).length c1 (yd (x1).natAbs) (decide ((x2)<0)) p2 (yd (x2).natAbs).length c2 (yd (x2).natAbs) rfl rfl (by rw [yr];exact hb1) (by rw [yr];exact hb2)
  rw [yr,yr] at h
  exact h
theorem zeb {w1:Wd} {w2:Wd} {x1:Int} {x2:Int} (hb1:yq x1≤4398046511104) (hb2:yq x2≤4398046511104):Con yh 89 [.agg #[w1.b,w1.l],.agg #[w2.b,w2.l]] [] [zF w1 (x1),zF w2 (x2)] (Y:=(Wd)) (fun y=>True) (fun y=> .agg #[y.b,y.l]) (fun y=>[]) (fun y=>[zF y (x1*x2)]):=by
  exact zMb (zWb (fun p1 c1 p2 c2=>zUf hb1 hb2))
end Go.Proofs.YtkohlohbogpooaaGreat.Sp
namespace Go.Proofs.YtkohlohbogpooaaGreat.Sp
open Go
set_option linter.unusedVariables false
set_option maxRecDepth 100000
set_option maxHeartbeats 8000000
theorem ztg {p:Option Addr} {n:Nat} {cap:Nat} {l:List Int} (hn:l.length=n) (hb:n≤8796093022208):Con yh 151 [.slice p n cap] [] [slF (rI .u32) p cap l] (Y:=(Option Addr)×Nat) (fun y=>True) (fun y=> .slice (y.1) (l.length) (y.2)) (fun y=>[]) (fun y=>[slF (rI .u32) (y.1) (y.2) l]):=by
 refine zl Tryz.func151 rfl rfl rfl (fun c=> ?_)
 show RunC _ _ _ _ _ [(0,.slice p n cap)] [] [slF (rI .u32) p cap l]
 refine zY 0 rfl (fun hL0=> ?_)
 refine c_nil 0 rfl (fun hnil=> ?_)
 refine ze<|za<|e_p (zb rfl)<|zf<|zc<|ze<|ze<|za<|e_mv rfl<|e_p (zmc ye rfl rfl)<|zf<|zc<|zPb rfl (fun h0=> ?_) (fun h0=> ?_)
 ·
  refine ze<|za<|e_p (zb rfl)<|zf<|zc<|zJ<|zm ?_
  obtain rfl:l=[]:=hnil (by simpa using h0)
  refine zqb (rI .u32) ?_
  exact zy Tryz.results151 (none,0) trivial (zo rfl) rfl (ho:=(.n:PickO _ _ _)) ((.c (j:=0) rfl .n):SelR _ _ _)
 ·
  refine zv<|zc<|ze<|za<|zra rfl rfl (zpa (rI .u32) ye inf115) (fun b1 _=> ?_)
  refine e_mv rfl<|zza 0 rfl rfl rfl (zsa 0 rfl ye inf115 dd rfl rfl cbs rfl cbs (by first|omega|(simp;omega)) (by first|omega|(simp;omega))) (fun _=> .z) ?_
  rintro ⟨p2,c3⟩ -
  dsimp only [aq,nq,cq]
  refine e_p (zb rfl)<|zf<|zc<|zJ<|zbb 0 rfl .z ?_
  exact zy Tryz.results151 (p2,c3) trivial (zo rfl) (by simp [hn]) (ho:=(.n:PickO _ _ _)) ((.c (j:=0) rfl .n):SelR _ _ _)
theorem zkd {a:Nat} {p:Option Addr} {cap:Nat} (hb:(yd (a)).length≤8796093022208):Con yh 151 [.slice (p) ((yd (a)).length) (cap)] [] [slF (rI .u32) (p) (cap) (yd (a))] (Y:=(Option Addr)×(Nat)) (fun y=>True) (fun y=> .slice (y.1) ((yd (a)).length) (y.2)) (fun y=>[]) (fun y=>[slF (rI .u32) (y.1) (y.2) (yd (a))]):=by
  exact ztg rfl hb
theorem zvc {a:Nat} {p:Option Addr} {cap:Nat}:Con yh 149 [.slice p ((yd a).length) cap] [] [slF (rI .u32) p cap (yd a)] (Y:=Unit) (fun y=>True) (fun y=> .tuple #[.int .u64 (((if (yd a).length≤2 then a else 0):Nat):Int),.bool (decide ((yd a).length≤2))]) (fun y=>[]) (fun y=>[]):=by
 refine zIb Tryz.func149 rfl rfl rfl (fun c=> ?_)
 show RunC _ _ _ _ _ [(0,.slice p ((yd a).length) cap)] [] [slF (rI .u32) p cap (yd a)]
 refine zY 0 rfl (fun hL0=> ?_)
 refine ze<|za<|e_p (zb rfl)<|e_p (zb rfl)<|zf<|zc<|ze<|ze<|za<|e_mv rfl<|e_p (zD ye rfl)<|e_p (zna rfl rfl)<|zf<|zc<|zB rfl (fun hgt=> ?_) (fun hgt=> ?_)
 ·
  refine ze<|za<|e_p (zb rfl)<|e_p (zb rfl)<|zf<|zc<|zJ<|zm<|zbf ?_
  exact zqa Tryz.results149 () trivial (zo rfl) (zo rfl) (by rw [if_neg om,decide_eq_false (show ¬(yd a).length≤2 by omega)];rfl) (ho:=(.n:PickO _ _ _)) (.n:SelR _ _ _)
 ·
  have hle:(yd a).length≤2:=by omega
  have h18:=yW hle
  refine zv<|zc<|ze<|za<|zK rfl rfl (zw zr128 rfl) (fun b1=> ?_)
  refine zk 0 rfl rfl rfl rfl rfl sz128 rfl (.take .nil) .z<|zf<|zc<|ze<|ze<|za<|e_mv rfl<|zu rfl rfl (.c rfl .n) ce133 (zlb (p:=p) (n:=(yd a).length) (cap:=cap)) (.n) ?_
  rintro b2 -
  dsimp only [aq,nq,cq]
  refine zf<|zc<|zt<|zfd (fa:=[atF b2 0 [.slice p ((yd a).length) cap],slF (rI .u32) p cap (yd a)]) (N:=((yd a).length)) (encs:=fun k=>[ya yb ((k:Nat):Int),.int .u32 ((yd a).getD k 0)]) rfl ce160 (back_u32 cbs) (fun _=>rfl) rfl (X:=Int) (Y:=Unit) (fun x k=>k≤(yd a).length∧x=yg ((yd a).drop k)∧0≤x∧x*yA k≤(a:Int)) (fun y=>False) (fun x=>[boxA b1 128 [.int .u64 x]]) (fun x=>[]) (fun y=>[]) (fun y=>[]) (fun k=>[(6,.int .u32 ((yd a).getD k 0)),(13,.int .u32 ((yd a).getD k 0)),(12,ya yb ((k:Nat):Int)),(11,.func (.func 160) #[] #[yc (some ⟨b2,0,none⟩)]),(10,.slice p ((yd a).length) cap),(4,yc (some ⟨b1,0,none⟩)),(9,.bool (decide (2<(((yd a).length:Nat):Int)))),(8,ya yb (((yd a).length:Nat):Int)),(7,.slice p ((yd a).length) cap),(3,.bool false),(2,.int .u64 0),(0,.slice p ((yd a).length) cap)]) (0:Int) (show ((yd a).length)≤(yd a).length∧(0:Int)=yg ((yd a).drop ((yd a).length))∧0≤(0:Int)∧(0:Int)*yA ((yd a).length)≤(a:Int) from by exact ⟨Nat.le_refl _,by simp [yg],Int.le_refl _,by simp⟩) (ho:=((.e (i:=0) rfl (by first|rfl|(congr 1;omega)|simp_all) .n):PickO _ _ _)) ((.of [0,1] rfl):SelR _ _ _) ?_ ?_ ?_ ?_
  ·
   intro l k O' R' Q' hP
   refine za<|e_p (zb rfl)<|zf ?_
   exact hP
  ·
   rintro l3 D4 o5 o6 z k hkN hI
   replace hI:(k+1)≤(yd a).length∧z=yg ((yd a).drop (k+1))∧0≤z∧z*yA (k+1)≤(a:Int):=hI
   try dsimp only
   obtain ⟨hk,hz,hz0,hzp⟩:=hI
   have hg:=yn (yp a) k
   have hlim:=Big.word_lim hle (show k+1≤(yd a).length by omega) hz0 hzp
   refine zt<|za<|e_ru (zg 2 ty128 rfl rfl rfl)<|e_p (zwa (z:=(z*1000000000)) rfl rfl (wu64 om))<|e_mv rfl<|e_p (zA (z:=((yd a).getD k 0)) rfl (by rw [yi];rfl) yj (wu64 om))<|e_p (zH (z:=((z*1000000000)+((yd a).getD k 0))) rfl rfl (wu64 om))<|zk 2 rfl rfl rfl rfl rfl sz128 rfl (.take .nil) (.s (.s .z))<|zf<|zM ?_
   exact zed (z*1000000000+(yd a).getD k 0) (show k≤(yd a).length∧(z*1000000000+(yd a).getD k 0)=yg ((yd a).drop k)∧0≤(z*1000000000+(yd a).getD k 0)∧(z*1000000000+(yd a).getD k 0)*yA k≤(a:Int) from by exact ⟨by omega,by rw [hz];exact Big.word_step k,by omega,Big.word_keep (show k+1≤(yd a).length by omega) hz⟩) (ho:=((.c (i:=0) rfl (.c (i:=0) rfl (.e (i:=0) rfl (by first|rfl|(congr 1;omega)|simp_all) .n))):PickO _ _ _)) ((.of [0,1] rfl):SelR _ _ _)
  ·
   rintro D7 z hI
   replace hI:0≤(yd a).length∧z=yg ((yd a).drop 0)∧0≤z∧z*yA 0≤(a:Int):=hI
   try dsimp only
   have hz9:z=(a:Int):=by rw [hI.2.1,List.drop_zero,yz]
   refine zM<|zc<|ze<|za<|e_ru (zg 1 ty128 rfl rfl rfl)<|e_p (zb rfl)<|e_p (zb rfl)<|zf<|zc<|zJ<|zwd 0 rfl rfl ?_
   exact zqa Tryz.results149 () trivial (zo rfl) (zo rfl) (by rw [if_pos hle,decide_eq_true hle,hz9]) (ho:=(.n:PickO _ _ _)) (.n:SelR _ _ _)
  ·
   intro _ _ h;exact h.elim
theorem zHd {a:Nat} {mm:Nat} {p:Option Addr} {cap:Nat} (hb:(yd a).length≤4398046511104) (hm0:0<mm) (hm1:mm<4294967296):Con yh 168 [.slice p ((yd a).length) cap,.int .u32 ((mm:Nat):Int)] [] [slF (rI .u32) p cap (yd a)] (Y:=(Option Addr)×Nat) (fun y=>True) (fun y=> .tuple #[.slice (y.1) ((yd (a / mm)).length) (y.2),.int .u32 (((a%mm):Nat):Int)]) (fun y=>[]) (fun y=>[slF (rI .u32) (y.1) (y.2) (yd (a / mm))]):=by
 refine zIb Tryz.func168 rfl rfl rfl (fun c=> ?_)
 show RunC _ _ _ _ _ [(0,.slice p ((yd a).length) cap),(1,.int .u32 ((mm:Nat):Int))] [] [slF (rI .u32) p cap (yd a)]
 refine zY 0 rfl (fun hL0=> ?_)
 refine ze<|za<|zK rfl rfl (zU rfl rfl) (fun b1=> ?_)
 refine zK rfl rfl (zw zr24 rfl) (fun b2=> ?_)
 refine e_p (zb rfl)<|zf<|zc<|ze<|za<|e_mv rfl<|e_p (zD ye rfl)<|zra rfl rfl (zCa (r:=rI .u32) (k:=(yd a).length) (x0:=0) (γ0:=()) ye inf115 rfl rfl rfl rfl om om rfl (fun g _=>by exact zx.2 dd) dd) (fun b3 _=> ?_)
 refine zk 1 rfl rfl rfl rfl rfl sz24 rfl (.take .nil) (.s .z)<|zf<|zc<|ze<|za<|zK rfl rfl (zw zr128 rfl) (fun b4=> ?_)
 refine zk 0 rfl rfl rfl rfl rfl sz128 rfl (.take .nil) .z<|zf<|zc<|ze<|ze<|za<|e_mv rfl<|zu rfl rfl (.c rfl .n) ce133 (zlb (p:=p) (n:=(yd a).length) (cap:=cap)) (.n) ?_
 rintro b5 -
 dsimp only [aq,nq,cq]
 refine zf<|zc<|zt<|zfd (fa:=[atF b5 0 [.slice p ((yd a).length) cap],slF (rI .u32) p cap (yd a)]) (N:=((yd a).length)) (encs:=fun k=>[ya yb ((k:Nat):Int),.int .u32 ((yd a).getD k 0)]) rfl ce160 (back_u32 (by first|rfl|assumption|(simp;done)|omega)) (fun _=>rfl) rfl (X:=(List Int)×(List Int)×Int) (Y:=Unit) (fun x k=>x.1=List.replicate k 0++x.2.1∧Big.ShI (yd a) (mm:Int) k x.2.1 x.2.2) (fun y=>False) (fun x=>[boxA b4 128 [.int .u64 (x.2.2)],rowA 115 (rI .u32) (some ⟨b3,0,none⟩) ((yd a).length) (x.1),boxA b2 24 [.slice (some ⟨b3,0,none⟩) ((yd a).length) ((yd a).length)],boxA b1 115 [.int .u32 ((mm:Nat):Int)]]) (fun x=>[]) (fun y=>[]) (fun y=>[]) (fun k=>[(8,.int .u32 ((yd a).getD k 0)),(7,ya yb ((k:Nat):Int)),(16,.int .u32 ((yd a).getD k 0)),(15,ya yb ((k:Nat):Int)),(14,.func (.func 160) #[] #[yc (some ⟨b5,0,none⟩)]),(13,.slice p ((yd a).length) cap),(6,yc (some ⟨b4,0,none⟩)),(12,.slice (some ⟨b3,0,none⟩) ((yd a).length) ((yd a).length)),(11,ya yb (((yd a).length:Nat):Int)),(10,.slice p ((yd a).length) cap),(5,.int .u32 0),(4,yc (some ⟨b2,0,none⟩)),(3,yc (some ⟨b1,0,none⟩)),(0,.slice p ((yd a).length) cap),(1,.int .u32 ((mm:Nat):Int))]) ((List.replicate (yd a).length 0),([]:List Int),(0:Int)) (show (List.replicate (yd a).length 0)=List.replicate ((yd a).length) 0++([]:List Int)∧Big.ShI (yd a) (mm:Int) ((yd a).length) ([]:List Int) (0:Int) from by exact ⟨by simp,Big.ShI.start om⟩) (ho:=((.e (i:=0) rfl (by first|rfl|(congr 1;omega)|simp_all) (.e (i:=0) rfl (by first|rfl|(congr 1;omega)|simp_all) (.of [0,0] rfl))):PickO _ _ _)) ((.of [0,1] rfl):SelR _ _ _) ?_ ?_ ?_ ?_
 ·
  intro l k O' R' Q' hP
  refine ze<|za<|e_p (zb rfl)<|zf<|zc<|za<|e_p (zb rfl)<|zf ?_
  exact hP
 ·
  rintro l6 D7 o8 o9 ⟨os,qs,z⟩ k hkN hI
  replace hI:os=List.replicate (k+1) 0++qs∧Big.ShI (yd a) (mm:Int) (k+1) qs z:=hI
  try dsimp only
  obtain ⟨hos,hS⟩:=hI
  have hz0:=hS.r0
  have hz1:=hS.r1
  have hkle:=hS.le
  have hosl:os.length=(yd a).length:=by rw [hos,List.length_append,List.length_replicate,hS.len];omega
  have hg:=yn (yp a) k
  have hdg:=Big.sh_digit hz0 hz1 hg
  have hrm:=Int.emod_lt_of_pos (z*1000000000+(yd a).getD k 0) (show 0<(mm:Int) by omega)
  have hrm0:=Int.emod_nonneg (z*1000000000+(yd a).getD k 0) (show (mm:Int)≠0 by omega)
  refine zt<|ze<|za<|e_ru (zg 2 ty128 rfl rfl rfl)<|e_p (zwa (z:=(z*1000000000)) rfl rfl (wu64 om))<|e_mv rfl<|e_p (zA (z:=((yd a).getD k 0)) rfl (by rw [yi];rfl) yj (wu64 om))<|e_p (zH (z:=((z*1000000000)+((yd a).getD k 0))) rfl rfl (wu64 om))<|e_p (zb rfl)<|zf<|zc<|zma (.c (i:=3) rfl (.c (i:=2) rfl (.c (i:=0) rfl (.c (i:=0) rfl (.c (i:=0) rfl (.c (i:=0) rfl .n))))))<|zhf (OW:=[rowA 115 (rI .u32) (some ⟨b3,0,none⟩) ((yd a).length) os,boxA b4 128 [.int .u64 z]]) (O:=[objA l6 o8,objA D7 o9,boxA b2 24 [.slice (some ⟨b3,0,none⟩) ((yd a).length) ((yd a).length)],boxA b1 115 [.int .u32 ((mm:Nat):Int)]]) 12 mixed kr kr<|e_uw 0 rfl rfl (zg 4 ty24 rfl rfl rfl)<|e_dm 1 rfl rfl rfl<|e_dm 2 rfl rfl rfl<|e_uw 3 rfl rfl (zg 5 ty115 rfl rfl rfl)<|e_pv 4 rfl rfl (zA (z:=((mm:Nat):Int)) rfl (by rw [yi];rfl) yj (wu64 om))<|e_pv 5 rfl rfl (zSa (z:=(((z*1000000000)+((yd a).getD k 0)) / ((mm:Nat):Int))) rfl rfl om (by rw [quoN (z:=(((z*1000000000)+((yd a).getD k 0)) / ((mm:Nat):Int))) om om];exact wu64 om))<|e_pv 6 rfl rfl (zA (z:=(((z*1000000000)+((yd a).getD k 0)) / ((mm:Nat):Int))) rfl (by rw [yj];rfl) yi (wu32 om))<|e_dm 7 rfl rfl rfl<|e_u 8 rfl rfl (zg 3 ty115 rfl rfl rfl)<|e_pv 9 rfl rfl (zA (z:=((mm:Nat):Int)) rfl (by rw [yi];rfl) yj (wu64 om))<|e_pv 10 rfl rfl (zTa (z:=(((z*1000000000)+((yd a).getD k 0))%((mm:Nat):Int))) rfl rfl om (remN om om))<|e_pv 11 rfl rfl (zI (j:=k) ye sz115 rfl rfl rfl om)<|e_one 12 (zob (A':=fun _=>rowA 115 (rI .u32) (some ⟨b3,0,none⟩) ((yd a).length) (os.set k (((z*1000000000)+((yd a).getD k 0)) / ((mm:Nat):Int)))) kr rfl rfl rfl (zL (j:=k) (x0:=(((z*1000000000)+((yd a).getD k 0)) / ((mm:Nat):Int))) (γ0:=()) rfl rfl (by first|omega|(rw [List.length_map];omega)|(simp only [List.length_set];omega)|(simp;done)|(simp;omega)) rfl rfl sz115 (fun _ _=>by exact zx.2 om)) (fun _ _=> ?_))
  refine zFa (zfa (i:=1) rfl)<|e_one 13 (zG kr rfl rfl rfl rfl rfl sz128 rfl (.take .nil) ?_)
  refine zif kr<|zM ?_
  exact zed ((os.set k (((z*1000000000)+((yd a).getD k 0)) / ((mm:Nat):Int))),((z*1000000000+(yd a).getD k 0) / (mm:Int) :: qs),((z*1000000000+(yd a).getD k 0)%(mm:Int))) (show (os.set k (((z*1000000000)+((yd a).getD k 0)) / ((mm:Nat):Int)))=List.replicate k 0++((z*1000000000+(yd a).getD k 0) / (mm:Int) :: qs)∧Big.ShI (yd a) (mm:Int) k ((z*1000000000+(yd a).getD k 0) / (mm:Int) :: qs) ((z*1000000000+(yd a).getD k 0)%(mm:Int)) from by exact ⟨by rw [hos];exact Big.pad_set _,hS.step (yp a)⟩) (ho:=((.c (i:=2) rfl (.c (i:=2) rfl (.e (i:=0) rfl (by first|rfl|(congr 1;omega)|simp_all) (.of [0,0,0] rfl)))):PickO _ _ _)) ((.of [0,1] rfl):SelR _ _ _)
 ·
  rintro D10 ⟨os,qs,z⟩ hI
  replace hI:os=List.replicate 0 0++qs∧Big.ShI (yd a) (mm:Int) 0 qs z:=hI
  try dsimp only
  obtain ⟨hos,hS⟩:=hI
  obtain ⟨hf1,hf2⟩:=hS.fin
  have hoq:os=qs:=by simpa using hos
  have htr:yo os=yd (a / mm):=by rw [hoq];exact hf1
  have hosl:os.length=(yd a).length:=by rw [hoq,hS.len];omega
  have hzr:=hS.r1
  have hzr0:=hS.r0
  refine zM<|zc<|ze<|zma (.c (i:=3) rfl (.c (i:=0) rfl (.c (i:=0) rfl (.c (i:=0) rfl (.c (i:=0) rfl .n)))))<|zhf (OW:=[boxA b2 24 [.slice (some ⟨b3,0,none⟩) ((yd a).length) ((yd a).length)]]) (O:=[objA D10 (.deferred (some [])),boxA b4 128 [.int .u64 z],rowA 115 (rI .u32) (some ⟨b3,0,none⟩) ((yd a).length) os,boxA b1 115 [.int .u32 ((mm:Nat):Int)]]) 4 mixed kr kr<|e_uw 0 rfl rfl (zg 0 ty24 rfl rfl rfl)<|e_u 2 rfl rfl (zg 1 ty128 rfl rfl rfl)<|e_pv 3 rfl rfl (zA (z:=z) rfl (by rw [yj];rfl) yi (wu32 om))<|zUb 2 rfl (.s (.s .z))<|e_one 1 (zC rfl rfl rfl rfl (.c rfl .n) ce156 (zub (p:=some ⟨b3,0,none⟩) (n:=(yd a).length) (cap:=(yd a).length) (l:=os) (hn:=cbb)) (.c (j:=0) rfl .n) ?_)
  rintro ⟨⟩ -
  dsimp only [aq,nq,cq]
  refine e_one 4 (zG kr rfl rfl rfl rfl rfl sz24 rfl (.take .nil) ?_)
  refine e_pv 5 rfl rfl (zb rfl)<|zif kr<|zc<|zJ<|zwd 1 rfl rfl ?_
  exact zqa Tryz.results168 ((some ⟨b3,0,none⟩),((yd a).length)) trivial (zZa 0 ty24 rfl rfl rfl) (zo rfl) (by rw [htr,hf2]) (ho:=(.n:PickO _ _ _)) ((.e (j:=0) rfl (by rw [htr]) .n):SelR _ _ _)
 ·
  intro _ _ h;exact h.elim
theorem zvf {p:Option Addr} {n:Nat} {cap:Nat} {l:List Int} (hn:l.length=n):Con yh 156 [.slice p n cap] [rowA 115 (rI .u32) p cap l] [] (Y:=Unit) (fun y=>True) (fun y=> .slice p ((yo l).length) cap) (fun y=>[rowA 115 (rI .u32) p cap (yo l)]) (fun y=>[]):=by
 refine zl Tryz.func156 rfl rfl rfl (fun c=> ?_)
 show RunC _ _ _ _ _ [(0,.slice p n cap)] [rowA 115 (rI .u32) p cap l] []
 refine zNf 0 rfl (fun hcl=> ?_)
 refine ze<|za<|e_p (zb rfl)<|zf<|zc<|ze<|zt<|zea (X:=Nat) (fun x:Nat=>x≤l.length∧yo (l.take x)=yo l) (fun x=>[(0,.slice p x cap),(2,.slice none 0 0)]) (fun x=>[rowA 115 (rI .u32) p cap l]) (fun x=>[]) (fun x:Nat=>x) n (show n≤l.length∧yo (l.take n)=yo l from by exact ⟨by omega,by rw [List.take_of_length_le om]⟩) ((.c rfl (.c rfl .n)):SubM _ _) (ho:=((.c (i:=0) rfl .n):PickO _ _ _)) (.n:SelR _ _ _) ?_
 rintro k hI
 replace hI:k≤l.length∧yo (l.take k)=yo l:=hI
 try dsimp only
 obtain ⟨hk,hT⟩:=hI
 refine ze<|zGa (X:=Unit) (fun x=>True) (fun x=>[(14,.bool (decide (0<k∧l.getD (k - 1) 0=0))),(0,.slice p k cap),(2,.slice none 0 0)]) (fun x=>[rowA 115 (rI .u32) p cap l]) (fun x=>[]) ?_ ?_
 ·
  refine za<|e_mv rfl<|e_p (zD ye rfl)<|e_p (zna rfl rfl)<|zW rfl rfl (zba rfl) (fun h1=> ?_) (fun h1=> ?_)
  ·
   refine e_mv rfl<|e_mv rfl<|e_p (zD ye rfl)<|e_p (zja (z:=(((k - 1):Nat):Int)) rfl rfl (w64 om))<|e_ru (zhd 0 (k - 1) rfl ye sz115 rfl cbo rfl rfl om)<|r_vl rfl rfl (zE 0 (k - 1) rfl ty115 rfl rfl (gD (d:=0) om) rfl) (fun _ hok2=> ?_)
   replace hok2:=zx.1 hok2
   refine e_p (zta rfl rfl)<|e_p (zn rfl rfl)<|zf ?_
   exact zia () (show True from by first|trivial|omega|simp_all) ((.e rfl (congrArg Value.bool (by have h1:0<k:=om;have h2:((k:Int) - 1).toNat=k - 1:=om;simp [h1,h2])) (.c rfl (.c rfl .n))):SubM _ _) (ho:=((.c (i:=0) rfl .n):PickO _ _ _)) (.n:SelR _ _ _)
  ·
   refine e_no<|e_no<|e_no<|e_no<|e_no<|e_no<|e_no<|e_p (zn rfl rfl)<|zf ?_
   exact zia () (show True from by first|trivial|omega|simp_all) ((.e rfl (congrArg Value.bool (by have h1:¬0<k:=om;simp [h1])) (.c rfl (.c rfl .n))):SubM _ _) (ho:=((.c (i:=0) rfl .n):PickO _ _ _)) (.n:SelR _ _ _)
 ·
  rintro ⟨⟩ -
  try dsimp only
  refine zB rfl (fun hc=> ?_) (fun hc=> ?_)
  ·
   refine zv<|zc<|zt<|za<|e_mv rfl<|e_mv rfl<|e_p (zD ye rfl)<|e_p (zja (z:=(((k - 1):Nat):Int)) rfl rfl (w64 om))<|e_p (zpb (hi:=(k - 1)) ye sz115 rfl (.s rfl) (.inr ⟨_,rfl⟩) om)<|e_p (zb rfl)<|zf<|zM<|zaa (k - 1) (show (k - 1)≤l.length∧yo (l.take (k - 1))=yo l from by exact ⟨by omega,by rw [← hT,Big.trim_go l hc.1 hk hc.2]⟩) (by show k - 1<k;omega) ((.e rfl (by first|rfl|(congr 1;omega)|simp_all) (.c rfl .n)):SubM _ _) (ho:=((.c (i:=0) rfl .n):PickO _ _ _)) (.n:SelR _ _ _)
  ·
   refine zda<|zi<|zi<|zr<|zc<|ze<|za<|e_mv rfl<|e_p (zb rfl)<|zf<|zc<|zJ ?_
   have hfin:l.take k=yo l:=by rw [← hT];exact (Big.trim_stop l hk hc).symm
   have hlk:(l.take k).length=k:=by rw [List.length_take];omega
   refine zQc (fun w mm=>mm.rowTake 0 rfl k) ?_
   dsimp only [List.set]
   have e3:l.take k=yo l:=by exact hfin
   rw [e3]
   exact zy Tryz.results156 () trivial (zo rfl) (by rw [← hfin,hlk]) (ho:=((.c (i:=0) rfl .n):PickO _ _ _)) (.n:SelR _ _ _)
theorem zAe {a:Nat} {b:Nat} {p1:Option Addr} {c1:Nat} {p2:Option Addr} {c2:Nat} (hb1:(yd a).length≤4398046511104) (hb2:(yd b).length≤4398046511104):Con yh 131 [.slice p1 ((yd a).length) c1,.slice p2 ((yd b).length) c2] [] [slF (rI .u32) p1 c1 (yd a),slF (rI .u32) p2 c2 (yd b)] (Y:=(Option Addr)×Nat) (fun y=>True) (fun y=> .slice (y.1) ((yd (a*b)).length) (y.2)) (fun y=>[rowA 115 (rI .u32) (y.1) (y.2) (yd (a*b))]) (fun y=>[]):=by
 refine zl Tryz.func131 rfl rfl rfl (fun c=> ?_)
 show RunC _ _ _ _ _ [(0,.slice p1 ((yd a).length) c1),(1,.slice p2 ((yd b).length) c2)] [] [slF (rI .u32) p1 c1 (yd a),slF (rI .u32) p2 c2 (yd b)]
 refine zY 0 rfl (fun hL0=> ?_)
 refine zY 1 rfl (fun hL1=> ?_)
 have hoa:=yp a
 have hob:=yp b
 refine ze<|za<|e_p (zb rfl)<|zf<|zc<|ze<|za<|e_mv rfl<|e_p (zD ye rfl)<|e_mv rfl<|e_p (zD ye rfl)<|e_p (zH (z:=(((((yd a).length)+((yd b).length)):Nat):Int)) rfl rfl (w64 om))<|zra rfl rfl (zCa (r:=rI .u32) (k:=(((yd a).length)+((yd b).length))) (x0:=0) (γ0:=()) ye inf115 rfl rfl rfl rfl om om rfl (fun g _=>by exact zx.2 dd) dd) (fun b1 _=> ?_)
 refine e_p (zb rfl)<|zf<|zc<|ze<|ze<|za<|e_mv rfl<|e_p (zD ye rfl)<|e_mv rfl<|zf<|zc<|zt<|zea (X:=Nat×(List Int)) (fun x:Nat×(List Int)=>x.1≤(yd a).length∧x.2.length=(yd a).length+(yd b).length∧yv x.2∧(∀k,x.1+(yd b).length≤k→x.2.getD k 0=0)∧yg x.2=yg ((yd a).take x.1)*yg (yd b)) (fun x=>[(20,ya yb ((x.1:Nat):Int)),(19,ya yb (((yd a).length:Nat):Int)),(18,.slice p1 ((yd a).length) c1),(5,.slice (some ⟨b1,0,none⟩) (((yd a).length)+((yd b).length)) (((yd a).length)+((yd b).length))),(4,.slice none 0 0),(1,.slice p2 ((yd b).length) c2)]) (fun x=>[rowA 115 (rI .u32) (some ⟨b1,0,none⟩) (((yd a).length)+((yd b).length)) (x.2)]) (fun x=>[slF (rI .u32) p1 c1 (yd a),slF (rI .u32) p2 c2 (yd b)]) (fun x:Nat×(List Int)=>(yd a).length - x.1) (0,List.replicate ((yd a).length+(yd b).length) 0) (show 0≤(yd a).length∧(List.replicate ((yd a).length+(yd b).length) 0).length=(yd a).length+(yd b).length∧yv (List.replicate ((yd a).length+(yd b).length) 0)∧(∀k,0+(yd b).length≤k→(List.replicate ((yd a).length+(yd b).length) 0).getD k 0=0)∧yg (List.replicate ((yd a).length+(yd b).length) 0)=yg ((yd a).take 0)*yg (yd b) from by exact ⟨by omega,by simp,Big.okL_zeros _,fun k _=>Big.getD_zeros _ k,by simp [Big.valL_zeros,yg]⟩) ((.e rfl (by first|rfl|(congr 1;omega)|simp_all) (.of rfl)):SubM _ _) (ho:=((.e (i:=0) rfl (by first|rfl|(congr 1;omega)|simp_all) .n):PickO _ _ _)) ((.of [0,1] rfl):SelR _ _ _) ?_
 rintro ⟨i,os⟩ hI
 replace hI:i≤(yd a).length∧os.length=(yd a).length+(yd b).length∧yv os∧(∀k,i+(yd b).length≤k→os.getD k 0=0)∧yg os=yg ((yd a).take i)*yg (yd b):=hI
 try dsimp only
 obtain ⟨hi,hol,hok,hz,hv⟩:=hI
 have hg1:=yn hoa i
 refine ze<|za<|e_p (zT rfl rfl)<|zf<|zc<|ze<|zB rfl (fun h2=> ?_) (fun h2=> ?_)
 ·
  refine zv<|zc<|ze<|zt<|ze<|za<|e_mv rfl<|zV (x0:=((yd a).getD i 0)) 0 i rfl ye sz115 rfl rfl rfl (by first|rfl|assumption|(simp;omega)|omega) rfl rfl (gD (d:=0) om) (fun b3 o4 hok5=> ?_)
  replace hok5:=zx.1 hok5
  refine e_ru (zj (j:=0) 0 ty115 rfl rfl rfl rfl)<|e_p (zb rfl)<|e_p (zb rfl)<|zf<|zc<|ze<|za<|e_p (zb rfl)<|zf<|zc<|ze<|ze<|za<|e_mv rfl<|e_p (zD ye rfl)<|e_mv rfl<|zf<|zc<|zt<|zea (X:=Nat×(List Int)×Int) (fun x:Nat×(List Int)×Int=>x.1≤(yd b).length∧x.2.1.length=(yd a).length+(yd b).length∧yv x.2.1∧0≤x.2.2∧x.2.2<1000000000∧(∀k,i+(yd b).length≤k→x.2.1.getD k 0=0)∧yg x.2.1+yA (i+x.1)*x.2.2=yg ((yd a).take i)*yg (yd b)+yA i*(yd a).getD i 0*yg ((yd b).take x.1)) (fun x=>[(8,.int .u64 (x.2.2)),(27,ya yb ((x.1:Nat):Int)),(26,ya yb (((yd b).length:Nat):Int)),(25,.slice p2 ((yd b).length) c2),(7,.int .u32 ((yd a).getD i 0)),(6,ya yb ((i:Nat):Int)),(20,ya yb ((i:Nat):Int)),(19,ya yb (((yd a).length:Nat):Int)),(18,.slice p1 ((yd a).length) c1),(5,.slice (some ⟨b1,0,none⟩) (((yd a).length)+((yd b).length)) (((yd a).length)+((yd b).length))),(4,.slice none 0 0),(1,.slice p2 ((yd b).length) c2)]) (fun x=>[rowA 115 (rI .u32) (some ⟨b1,0,none⟩) (((yd a).length)+((yd b).length)) (x.2.1)]) (fun x=>[atF b3 o4 [.int .u32 ((yd a).getD i 0)],slF (rI .u32) p1 c1 (yd a),slF (rI .u32) p2 c2 (yd b)]) (fun x:Nat×(List Int)×Int=>(yd b).length - x.1) (0,os,0) (show 0≤(yd b).length∧os.length=(yd a).length+(yd b).length∧yv os∧0≤0∧0<1000000000∧(∀k,i+(yd b).length≤k→os.getD k 0=0)∧yg os+yA (i+0)*0=yg ((yd a).take i)*yg (yd b)+yA i*(yd a).getD i 0*yg ((yd b).take 0) from by exact ⟨by omega,hol,hok,by decide,by decide,hz,by rw [hv];simp [yg]⟩) ((.c rfl (.e rfl (by first|rfl|(congr 1;omega)|simp_all) (.of rfl))):SubM _ _) (ho:=((.c (i:=0) rfl .n):PickO _ _ _)) ((.of [0,1,2] rfl):SelR _ _ _) ?_
  rintro ⟨j,os2,cy⟩ hJ
  replace hJ:j≤(yd b).length∧os2.length=(yd a).length+(yd b).length∧yv os2∧0≤cy∧cy<1000000000∧(∀k,i+(yd b).length≤k→os2.getD k 0=0)∧yg os2+yA (i+j)*cy=yg ((yd a).take i)*yg (yd b)+yA i*(yd a).getD i 0*yg ((yd b).take j):=hJ
  try dsimp only
  obtain ⟨hj,hol2,hok2,hcy0,hcy1,hz2,hv2⟩:=hJ
  have hg2:=yn hob j
  have hg3:=yn hok2 (i+j)
  have hpq:=Big.mul_lim hg1 hg2
  refine ze<|za<|e_p (zT rfl rfl)<|zf<|zc<|ze<|zB rfl (fun h6=> ?_) (fun h6=> ?_)
  ·
   refine zv<|zc<|ze<|zt<|ze<|za<|e_mv rfl<|zV (x0:=((yd b).getD j 0)) 2 j rfl ye sz115 rfl rfl rfl (by first|rfl|assumption|(simp;omega)|omega) rfl rfl (gD (d:=0) om) (fun b7 o8 hok9=> ?_)
   replace hok9:=zx.1 hok9
   refine e_ru (zj (j:=0) 0 ty115 rfl rfl rfl rfl)<|e_p (zb rfl)<|e_p (zb rfl)<|zf<|zc<|ze<|za<|e_mv rfl<|e_mv rfl<|e_mv rfl<|e_p (zH (z:=(((i+j):Nat):Int)) rfl rfl (w64 om))<|e_p (zI (j:=(i+j)) ye sz115 rfl rfl rfl om)<|r_vl rfl rfl (zE 0 (i+j) rfl ty115 rfl rfl (gD (d:=0) om) rfl) (fun _ hok10=> ?_)
   replace hok10:=zx.1 hok10
   refine e_p (zA (z:=(os2.getD (i+j) 0)) rfl (by rw [yi];rfl) yj (wu64 om))<|e_mv rfl<|e_p (zA (z:=((yd a).getD i 0)) rfl (by rw [yi];rfl) yj (wu64 om))<|e_mv rfl<|e_p (zA (z:=((yd b).getD j 0)) rfl (by rw [yi];rfl) yj (wu64 om))<|e_p (zwa (z:=(((yd a).getD i 0)*((yd b).getD j 0))) rfl rfl (wu64 om))<|e_p (zH (z:=((os2.getD (i+j) 0)+(((yd a).getD i 0)*((yd b).getD j 0)))) rfl rfl (wu64 om))<|e_mv rfl<|e_p (zH (z:=(((os2.getD (i+j) 0)+(((yd a).getD i 0)*((yd b).getD j 0)))+cy)) rfl rfl (wu64 om))<|e_p (zb rfl)<|zf<|zc<|za<|e_mv rfl<|e_mv rfl<|e_mv rfl<|e_p (zH (z:=(((i+j):Nat):Int)) rfl rfl (w64 om))<|e_mv rfl<|e_p (zTa (z:=((((os2.getD (i+j) 0)+(((yd a).getD i 0)*((yd b).getD j 0)))+cy)%1000000000)) rfl rfl om (remN om om))<|e_p (zA (z:=((((os2.getD (i+j) 0)+(((yd a).getD i 0)*((yd b).getD j 0)))+cy)%1000000000)) rfl (by rw [yj];rfl) yi (wu32 om))<|e_mv rfl<|e_p (zSa (z:=((((os2.getD (i+j) 0)+(((yd a).getD i 0)*((yd b).getD j 0)))+cy) / 1000000000)) rfl rfl om (by rw [quoN (z:=((((os2.getD (i+j) 0)+(((yd a).getD i 0)*((yd b).getD j 0)))+cy) / 1000000000)) om om];exact wu64 om))<|e_p (zI (j:=(i+j)) ye sz115 rfl rfl rfl om)<|zza 0 rfl rfl rfl (zL (j:=(i+j)) (x0:=((((os2.getD (i+j) 0)+(((yd a).getD i 0)*((yd b).getD j 0)))+cy)%1000000000)) (γ0:=()) rfl rfl (by first|omega|(rw [List.length_map];omega)|(simp only [List.length_set];omega)|(simp;done)|(simp;omega)) rfl rfl sz115 (fun _ _=>by exact zx.2 om)) (fun _=> .z) (fun _ _=> ?_)
   refine e_p (zb rfl)<|zf<|zM<|zc<|za<|e_p (zH (z:=(((j+1):Nat):Int)) rfl rfl (w64 om))<|e_mv rfl<|zf<|zaa ((j+1),os2.set (i+j) ((os2.getD (i+j) 0+(yd a).getD i 0*(yd b).getD j 0+cy)%1000000000),(os2.getD (i+j) 0+(yd a).getD i 0*(yd b).getD j 0+cy) / 1000000000) (show (j+1)≤(yd b).length∧(os2.set (i+j) ((os2.getD (i+j) 0+(yd a).getD i 0*(yd b).getD j 0+cy)%1000000000)).length=(yd a).length+(yd b).length∧yv (os2.set (i+j) ((os2.getD (i+j) 0+(yd a).getD i 0*(yd b).getD j 0+cy)%1000000000))∧0≤((os2.getD (i+j) 0+(yd a).getD i 0*(yd b).getD j 0+cy) / 1000000000)∧((os2.getD (i+j) 0+(yd a).getD i 0*(yd b).getD j 0+cy) / 1000000000)<1000000000∧(∀k,i+(yd b).length≤k→(os2.set (i+j) ((os2.getD (i+j) 0+(yd a).getD i 0*(yd b).getD j 0+cy)%1000000000)).getD k 0=0)∧yg (os2.set (i+j) ((os2.getD (i+j) 0+(yd a).getD i 0*(yd b).getD j 0+cy)%1000000000))+yA (i+(j+1))*((os2.getD (i+j) 0+(yd a).getD i 0*(yd b).getD j 0+cy) / 1000000000)=yg ((yd a).take i)*yg (yd b)+yA i*(yd a).getD i 0*yg ((yd b).take (j+1)) from by exact ⟨by omega,by simpa using hol2,yQ hok2 om om,by omega,by omega,fun k hk=>by rw [yK om];exact hz2 k om,Big.mul_step hv2 om om⟩) (by show (yd b).length - (j+1)<(yd b).length - j;omega) ((.e rfl (by first|rfl|(congr 1;omega)|simp_all) (.of rfl)):SubM _ _) (ho:=((.e (i:=0) rfl (by first|rfl|(congr 1;omega)|simp_all) .n):PickO _ _ _)) ((.of [1,2,3] rfl):SelR _ _ _)
  ·
   have hjb:j=(yd b).length:=by omega
   subst hjb
   have hv3:=hv2
   refine zda<|zi<|zi<|zr<|zc<|za<|e_mv rfl<|e_mv rfl<|e_mv rfl<|e_p (zD ye rfl)<|e_p (zH (z:=(((i+((yd b).length)):Nat):Int)) rfl rfl (w64 om))<|e_mv rfl<|e_p (zA (z:=cy) rfl (by rw [yj];rfl) yi (wu32 om))<|e_p (zI (j:=(i+((yd b).length))) ye sz115 rfl rfl rfl om)<|zza 0 rfl rfl rfl (zL (j:=(i+((yd b).length))) (x0:=cy) (γ0:=()) rfl rfl (by first|omega|(rw [List.length_map];omega)|(simp only [List.length_set];omega)|(simp;done)|(simp;omega)) rfl rfl sz115 (fun _ _=>by exact zx.2 om)) (fun _=> .z) (fun _ _=> ?_)
   refine zf<|zM<|zc<|za<|e_p (zH (z:=(((i+1):Nat):Int)) rfl rfl (w64 om))<|e_mv rfl<|zf<|zaa ((i+1),os2.set (i+(yd b).length) cy) (show (i+1)≤(yd a).length∧(os2.set (i+(yd b).length) cy).length=(yd a).length+(yd b).length∧yv (os2.set (i+(yd b).length) cy)∧(∀k,(i+1)+(yd b).length≤k→(os2.set (i+(yd b).length) cy).getD k 0=0)∧yg (os2.set (i+(yd b).length) cy)=yg ((yd a).take (i+1))*yg (yd b) from by exact ⟨by omega,by simpa using hol2,yQ hok2 om om,fun k hk=>by rw [yK om];exact hz2 k om,Big.mul_round hv3 om (hz2 _ (Nat.le_refl _))⟩) (by show (yd a).length - (i+1)<(yd a).length - i;omega) ((.of rfl):SubM _ _) (ho:=((.e (i:=0) rfl (by first|rfl|(congr 1;omega)|simp_all) .n):PickO _ _ _)) ((.of [1,2] rfl):SelR _ _ _)
 ·
  have hia:i=(yd a).length:=by omega
  have hfin:yo os=yd (a*b):=Big.trimL_of hok (by rw [hv,hia,List.take_length,yz,yz,Int.natCast_mul])
  refine zda<|zi<|zi<|zr<|zc<|ze<|za<|e_mv rfl<|zcf (A:=[rowA 115 (rI .u32) (some ⟨b1,0,none⟩) (((yd a).length)+((yd b).length)) os]) (F:=[]) (first:=[]) (cap:=[]) rfl rfl rfl (.c rfl .n) ce156 (zvf (p:=some ⟨b1,0,none⟩) (n:=(((yd a).length)+((yd b).length))) (cap:=(((yd a).length)+((yd b).length))) (l:=os) (hn:=cbb)) (.n) ?_
  rintro ⟨⟩ -
  dsimp only [aq,nq,cq]
  refine e_p (zb rfl)<|zf<|zc<|zJ ?_
  have e11:yo os=yd (a*b):=by exact hfin
  rw [e11]
  exact zy Tryz.results131 ((some ⟨b1,0,none⟩),(((yd a).length)+((yd b).length))) trivial (zo rfl) rfl (ho:=((.c (i:=0) rfl .n):PickO _ _ _)) (.n:SelR _ _ _)
end Go.Proofs.YtkohlohbogpooaaGreat.Sp
namespace Go.Proofs.YtkohlohbogpooaaGreat.Sp
open Go
set_option linter.unusedVariables false
set_option maxRecDepth 100000
set_option maxHeartbeats 8000000
theorem zVf {a:Nat} {b:Nat} {p1:Option Addr} {c1:Nat} {p2:Option Addr} {c2:Nat} (hb1:(yd a).length≤4398046511104) (hb2:(yd b).length≤4398046511104) (hb3:2≤(yd b).length) (hab:b≤a):Con yh 169 [.slice p1 ((yd a).length) c1,.slice p2 ((yd b).length) c2] [] [slF (rI .u32) p1 c1 (yd a),slF (rI .u32) p2 c2 (yd b)] (Y:=(Option Addr)×Nat×(Option Addr)×Nat) (fun y=>True) (fun y=> .tuple #[.slice (y.1) ((yd (a / b)).length) (y.2.1),.slice (y.2.2.1) ((yd (a%b)).length) (y.2.2.2)]) (fun y=>[]) (fun y=>[slF (rI .u32) (y.1) (y.2.1) (yd (a / b)),slF (rI .u32) (y.2.2.1) (y.2.2.2) (yd (a%b))]):=by
 refine zl Tryz.func169 rfl rfl rfl (fun c=> ?_)
 show RunC _ _ _ _ _ [(0,.slice p1 ((yd a).length) c1),(1,.slice p2 ((yd b).length) c2)] [] [slF (rI .u32) p1 c1 (yd a),slF (rI .u32) p2 c2 (yd b)]
 refine zY 0 rfl (fun hL0=> ?_)
 refine zY 1 rfl (fun hL1=> ?_)
 have hob:=yp b
 have htop:=yn hob ((yd b).length - 1)
 have hdt:=Big.digs_top (b:=b) (n:=(yd b).length - 1) om
 have hab2:=yN hab
 have hq1:0≤1000000000 / ((yd b).getD ((yd b).length - 1) 0+1):=Int.ediv_nonneg om om
 have hq2:1000000000 / ((yd b).getD ((yd b).length - 1) 0+1)≤500000000:=Int.ediv_le_of_le_mul om om
 refine ze<|za<|e_p (zb rfl)<|e_p (zb rfl)<|zf<|zc<|ze<|za<|e_mv rfl<|e_mv rfl<|e_p (zD ye rfl)<|e_p (zja (z:=((((yd b).length - 1):Nat):Int)) rfl rfl (w64 om))<|zV (x0:=((yd b).getD ((yd b).length - 1) 0)) 1 ((yd b).length - 1) rfl ye sz115 rfl rfl rfl (by first|rfl|assumption|(simp;done)|omega) rfl rfl (gD (d:=0) om) (fun b1 o2 hok3=> ?_)
 replace hok3:=zx.1 hok3
 refine e_ru (zj (j:=0) 0 ty115 rfl rfl rfl rfl)<|e_p (zA (z:=((yd b).getD ((yd b).length - 1) 0)) rfl (by rw [yi];rfl) yj (wu64 om))<|e_p (zH (z:=(((yd b).getD ((yd b).length - 1) 0)+1)) rfl rfl (wu64 om))<|e_p (zSa (z:=(1000000000 / (((yd b).getD ((yd b).length - 1) 0)+1))) rfl rfl om (by rw [quoN (z:=(1000000000 / (((yd b).getD ((yd b).length - 1) 0)+1))) om om];exact wu64 om))<|e_p (zA (z:=(1000000000 / (((yd b).getD ((yd b).length - 1) 0)+1))) rfl (by rw [yj];rfl) yi (wu32 om))<|e_p (zb rfl)<|zf<|zc<|ze ?_
 obtain ⟨s,hs⟩:∃s:Nat,s=(1000000000 / ((yd b).getD ((yd b).length - 1) 0+1)).toNat:=⟨_,rfl⟩
 obtain ⟨hs1,hs2,hs3⟩:=Big.scale_len (n:=(yd b).length - 1) om hs
 have hsd:=Big.digs_one hs1 (by omega:s<1000000000)
 have hsl:(yd s).length=1:=by rw [hsd];rfl
 have e4:((1000000000 / (((yd b).getD ((yd b).length - 1) 0)+1)):Int)=((s:Nat):Int):=by omega
 rw [e4]
 refine za<|e_mv rfl<|e_mv rfl<|zra rfl rfl (zR (enc:=fun z:Int=>[.int .u32 z]) (ok:=InK .u32) (h1:=fun _=>rfl) (h2:=fun _=>rfl) (k:=1) ye inf115 rfl dd dd dd (.c (x:=((s:Nat):Int)) rfl rfl (fun _ _=>by exact zx.2 om) .n)) (fun b5 _=> ?_)
 refine zga 0 rfl .z ?_
 have e6:[((s:Nat):Int)]=yd s:=by exact hsd.symm
 rw [e6]
 have e7:(.slice (some ⟨b5,0,none⟩) 1 1:Value)= .slice (some ⟨b5,0,none⟩) ((yd s).length) 1:=by rw [hsl]
 rw [e7]
 refine zu rfl rfl (.c rfl (.c rfl .n)) ce131 (zAe (a:=a) (b:=s) (p1:=p1) (c1:=c1) (p2:=some ⟨b5,0,none⟩) (c2:=1) (hb1:=ass) (hb2:=cbb)) (.c (j:=2) rfl (.c (j:=0) rfl .n)) ?_
 rintro ⟨p38,c39⟩ -
 dsimp only [aq,nq,cq]
 refine e_p (zb rfl)<|zf<|zc<|ze<|za<|e_mv rfl<|e_mv rfl<|zra rfl rfl (zR (enc:=fun z:Int=>[.int .u32 z]) (ok:=InK .u32) (h1:=fun _=>rfl) (h2:=fun _=>rfl) (k:=1) ye inf115 rfl dd dd dd (.c (x:=((s:Nat):Int)) rfl rfl (fun _ _=>by exact zx.2 om) .n)) (fun b10 _=> ?_)
 refine zga 0 rfl .z ?_
 have e11:[((s:Nat):Int)]=yd s:=by exact hsd.symm
 rw [e11]
 have e12:(.slice (some ⟨b10,0,none⟩) 1 1:Value)= .slice (some ⟨b10,0,none⟩) ((yd s).length) 1:=by rw [hsl]
 rw [e12]
 refine zu rfl rfl (.c rfl (.c rfl .n)) ce131 (zGd (a:=b) (b:=s) (p1:=p2) (c1:=c2) (p2:=some ⟨b10,0,none⟩) (c2:=1) (hb1:=ass) (hb2:=cbb)) (.c (j:=4) rfl (.c (j:=0) rfl .n)) ?_
 rintro ⟨p313,c314⟩ -
 dsimp only [aq,nq,cq]
 refine e_p (zb rfl)<|zf<|zc<|ze ?_
 obtain ⟨A,hA⟩:∃z,z=a*s:=⟨_,rfl⟩
 rw [← hA]
 obtain ⟨V,hV⟩:∃z,z=b*s:=⟨_,rfl⟩
 rw [← hV]
 have hAl:(yd a).length≤(yd A).length:=by rw [hA];exact Big.len_mul_ge hs1
 have hAl2:(yd A).length≤(yd a).length+1:=by have h8:=Big.len_mul_le a s;rw [hsl] at h8;rw [hA];exact h8
 obtain ⟨m,hm⟩:∃z,(yd V).length=z+2:=⟨(yd b).length - 2,by rw [hV,hs3];omega⟩
 have hmb:(yd b).length=m+2:=by rw [hV,hs3] at hm;omega
 have e15:(yd V).length=(m+2):=by exact hm
 rw [e15]
 refine za<|e_mv rfl<|e_p (zD ye rfl)<|e_p (zb rfl)<|zf<|zc<|ze<|za<|e_mv rfl<|zra rfl rfl (zR (enc:=fun z:Int=>[.int .u32 z]) (ok:=InK .u32) (h1:=fun _=>rfl) (h2:=fun _=>rfl) (k:=1) ye inf115 rfl dd dd dd (.c (x:=0) rfl rfl (fun _ _=>by exact zx.2 om) .n)) (fun b16 _=> ?_)
 refine zga 0 rfl .z<|zza 2 rfl rfl rfl (zsa 0 rfl ye inf115 dd rfl rfl (by first|rfl|assumption|(simp;done)|omega) rfl (by first|rfl|assumption|(simp;done)|omega) om om) (fun _=>(.s (.s .z))) ?_
 rintro ⟨p17,c18⟩ -
 dsimp only [aq,nq,cq]
 refine e_p (zb rfl)<|zf<|zc<|ze<|ze<|za<|e_mv rfl<|e_p (zD ye rfl)<|e_mv rfl<|e_p (zD ye rfl)<|e_p (zWe rfl rfl)<|zf<|zc<|zB rfl (fun h19=> ?_) (fun h19=> ?_)
 ·
  exact absurd ‹_› om
 ·
  refine zv<|zc<|ze ?_
  obtain ⟨M,hM⟩:∃z,z=((yd A).length)+1:=⟨_,rfl⟩
  rw [← hM]
  refine za<|e_mv rfl<|e_p (zD ye rfl)<|e_mv rfl<|e_p (zja (z:=(((M - (m+2)):Nat):Int)) rfl rfl (w64 om))<|zra rfl rfl (zCa (r:=rI .u32) (k:=(M - (m+2))) (x0:=0) (γ0:=()) ye inf115 rfl rfl rfl rfl om om rfl (fun g _=>by exact zx.2 dd) dd) (fun b20 _=> ?_)
  refine e_p (zb rfl)<|zf<|zc<|ze<|ze ?_
  have hMl:m+3≤M:=by omega
  have hLg:yX M (m+2) ((A:Nat):Int) ((V:Nat):Int) (M - (m+2)) (yd A++[0]) []:=yX.start (yM (yp A) dd dd) (by simp [hM]) (by rw [Big.valL_snoc,yz];simp) hm om (by rw [Big.valL_snoc,yz,hM,Nat.add_sub_cancel];simpa using Big.digs_lt A) om
  refine za<|e_mv rfl<|e_p (zD ye rfl)<|e_mv rfl<|e_p (zja (z:=(((M:Nat):Int) - (((m+2):Nat):Int))) rfl rfl (w64 om))<|e_p (zja (z:=((((M:Nat):Int) - (((m+2):Nat):Int)) - 1)) rfl rfl (w64 om))<|e_p (zb rfl)<|zf<|zc<|zt<|zea (X:=Nat×(List Int)×(List Int)) (fun x:Nat×(List Int)×(List Int)=>yX M (m+2) ((A:Nat):Int) ((V:Nat):Int) x.1 x.2.1 x.2.2) (fun x=>[(10,ya yb (((x.1:Nat):Int) - 1)),(4,.slice (some ⟨b20,0,none⟩) (M - (m+2)) (M - (m+2))),(7,.slice p17 M c18),(9,ya yb (((m+2):Nat):Int)),(8,.slice p313 (m+2) c314),(6,.int .u32 ((s:Nat):Int)),(5,.slice none 0 0)]) (fun x=>[rowA 115 (rI .u32) (some ⟨b20,0,none⟩) (M - (m+2)) (List.replicate x.1 0++x.2.2),rowA 115 (rI .u32) p17 c18 (x.2.1)]) (fun x=>[slF (rI .u32) (some ⟨b16,0,none⟩) 1 ([0]),slF (rI .u32) p313 c314 (yd V),slF (rI .u32) (some ⟨b10,0,none⟩) 1 (yd s),slF (rI .u32) (some ⟨b5,0,none⟩) 1 (yd s),atF b1 o2 [.int .u32 ((yd b).getD ((yd b).length - 1) 0)],slF (rI .u32) p1 c1 (yd a),slF (rI .u32) p2 c2 (yd b)]) (fun x:Nat×(List Int)×(List Int)=>x.1) ((M - (m+2)),(yd A++[0]),([]:List Int)) (show yX M (m+2) ((A:Nat):Int) ((V:Nat):Int) (M - (m+2)) (yd A++[0]) ([]:List Int) from by exact hLg) ((.e rfl (congrArg (Value.int .i64) om) (.of rfl)):SubM _ _) (ho:=((.e (i:=0) rfl (by simp) (.e (i:=2) rfl (by simp) .n)):PickO _ _ _)) ((.of [0,1,2,3,4,5,6] rfl):SelR _ _ _) ?_
  rintro ⟨jj,u,qs⟩ hI
  replace hI:yX M (m+2) ((A:Nat):Int) ((V:Nat):Int) jj u qs:=hI
  try dsimp only
  refine ze<|ze<|za<|e_mv rfl<|e_p (zIa rfl rfl)<|zf<|zc<|zB rfl (fun hj=> ?_) (fun hj=> ?_)
  ·
   obtain ⟨j,rfl⟩:∃j,jj=j+1:=⟨jj - 1,by omega⟩
   have e21:(((((j+1):Nat):Int) - 1):Int)=((j:Nat):Int):=by omega
   rw [e21]
   have hjM:=hI.jle
   have hul:=hI.ul
   have hT:=hI.tp hm
   have hu2:=hT.a2
   have hu1:=hT.a1
   have hu0:=hT.a0
   have hvt1:=hT.vt1
   have hvt2:=hT.vt2
   have hvs0:=hT.vs0
   have hvs1:=hT.vs1
   have hgst:=hT.start
   have hgl0:=Big.Gs.le hT hgst
   have hg00:=hgst.g0
   have hg01:=hgst.r0
   have hrlt:=Int.emod_lt_of_pos ((u.getD (j+(m+2)) 0)*1000000000+(u.getD (j+(m+1)) 0)) (show 0<((yd V).getD (m+1) 0) by omega)
   refine zv<|zc<|ze<|zt<|ze<|zZ (OW:=[]) (O:=[rowA 115 (rI .u32) (some ⟨b20,0,none⟩) (M - (m+2)) (List.replicate (j+1) 0++qs),rowA 115 (rI .u32) p17 c18 u]) 100000 mixed (.then (.block (.then (.then (.block (.then .ret)))))) kr<|e_dm 0 rfl rfl rfl<|e_dm 1 rfl rfl rfl<|e_dm 2 rfl rfl rfl<|e_pv 3 rfl rfl (zH (z:=(((j+(m+2)):Nat):Int)) rfl rfl (w64 om))<|e_dm 7 rfl rfl rfl<|e_dm 8 rfl rfl rfl<|e_dm 9 rfl rfl rfl<|e_pv 10 rfl rfl (zH (z:=(((j+(m+2)):Nat):Int)) rfl rfl (w64 om))<|e_pv 11 rfl rfl (zja (z:=(((j+(m+1)):Nat):Int)) rfl rfl (w64 om))<|e_u 12 rfl rfl (zca 1 (j+(m+1)) rfl ye sz115 rfl (by first|rfl|assumption|(simp;done)|omega) rfl rfl om)<|d_vl 13 rfl rfl kr kr rfl rfl (zE 1 (j+(m+1)) rfl ty115 rfl rfl (gD (d:=0) om) rfl) (fun _ hok22=> ?_)
   replace hok22:=zx.1 hok22
   refine e_pv 14 rfl rfl (zA (z:=(u.getD (j+(m+1)) 0)) rfl (by rw [yi];rfl) yj (wu64 om))<|e_one 4 (zOf 1 rfl rfl rfl rfl rfl (.c rfl (.c rfl .n)) ce171 (zne (p:=p17) (n:=M) (cap:=c18) (l:=u) (i:=(j+(m+2))) (hn:=cbb) (hi:=cbb)) (.c (j:=0) rfl .n) ?_)
   refine e_pv 5 rfl rfl (zA (z:=u.getD (j+(m+2)) 0) rfl (by rw [yi];rfl) yj (wu64 om))<|e_pv 6 rfl rfl (zwa (z:=(u.getD (j+(m+2)) 0*1000000000)) rfl rfl (wu64 om))<|e_pv 15 rfl rfl (zH (z:=((u.getD (j+(m+2)) 0*1000000000)+(u.getD (j+(m+1)) 0))) rfl rfl (wu64 om))<|e_pv 16 rfl rfl (zb rfl)<|zX kr<|zc<|ze<|zZ (OW:=[]) (O:=[rowA 115 (rI .u32) (some ⟨b20,0,none⟩) (M - (m+2)) (List.replicate (j+1) 0++qs),rowA 115 (rI .u32) p17 c18 u]) 100000 mixed (.then (.block (.then (.then (.block (.then .ret)))))) kr<|e_dm 0 rfl rfl rfl<|e_dm 1 rfl rfl rfl<|e_dm 2 rfl rfl rfl<|e_pv 3 rfl rfl (zja (z:=(((m+1):Nat):Int)) rfl rfl (w64 om))<|zoa (x0:=((yd V).getD (m+1) 0)) 4 rfl rfl kr kr 1 (m+1) rfl ye sz115 rfl rfl rfl (by first|rfl|assumption|(simp;done)|omega) rfl rfl (gD (d:=0) om) (fun b23 o24 hok25=> ?_)
   replace hok25:=zx.1 hok25
   refine e_u 5 rfl rfl (zj (j:=0) 0 ty115 rfl rfl rfl rfl)<|e_pv 6 rfl rfl (zA (z:=((yd V).getD (m+1) 0)) rfl (by rw [yi];rfl) yj (wu64 om))<|e_pv 7 rfl rfl (zSa (z:=(((u.getD (j+(m+2)) 0*1000000000)+(u.getD (j+(m+1)) 0)) / ((yd V).getD (m+1) 0))) rfl rfl om (by rw [quoN (z:=(((u.getD (j+(m+2)) 0*1000000000)+(u.getD (j+(m+1)) 0)) / ((yd V).getD (m+1) 0))) om om];exact wu64 om))<|e_dm 8 rfl rfl rfl<|e_dm 9 rfl rfl rfl<|e_dm 10 rfl rfl rfl<|e_pv 11 rfl rfl (zja (z:=(((m+1):Nat):Int)) rfl rfl (w64 om))<|zoa (x0:=((yd V).getD (m+1) 0)) 12 rfl rfl kr kr 2 (m+1) rfl ye sz115 rfl rfl rfl (by first|rfl|assumption|(simp;done)|omega) rfl rfl (gD (d:=0) om) (fun b26 o27 hok28=> ?_)
   replace hok28:=zx.1 hok28
   refine e_u 13 rfl rfl (zj (j:=0) 0 ty115 rfl rfl rfl rfl)<|e_pv 14 rfl rfl (zA (z:=((yd V).getD (m+1) 0)) rfl (by rw [yi];rfl) yj (wu64 om))<|e_pv 15 rfl rfl (zTa (z:=(((u.getD (j+(m+2)) 0*1000000000)+(u.getD (j+(m+1)) 0))%((yd V).getD (m+1) 0))) rfl rfl om (remN om om))<|e_pv 16 rfl rfl (zb rfl)<|e_pv 17 rfl rfl (zb rfl)<|zX kr<|zc<|zGa (X:=Int) (fun x=>(0≤x∧x<1000000000)∧(yg (u.drop j))<(x+1)*(V:Int)∧x*(V:Int)<(yg (u.drop j))+(V:Int)) (fun x=>[(12,.int .u64 x),(10,ya yb ((j:Nat):Int)),(4,.slice (some ⟨b20,0,none⟩) (M - (m+2)) (M - (m+2))),(7,.slice p17 M c18),(9,ya yb (((m+2):Nat):Int)),(8,.slice p313 (m+2) c314),(6,.int .u32 ((s:Nat):Int)),(5,.slice none 0 0)]) (fun x=>[rowA 115 (rI .u32) (some ⟨b20,0,none⟩) (M - (m+2)) (List.replicate (j+1) 0++qs),rowA 115 (rI .u32) p17 c18 u]) (fun x=>[atF b26 o27 [.int .u32 ((yd V).getD (m+1) 0)],atF b23 o24 [.int .u32 ((yd V).getD (m+1) 0)],slF (rI .u32) (some ⟨b16,0,none⟩) 1 ([0]),slF (rI .u32) p313 c314 (yd V),slF (rI .u32) (some ⟨b10,0,none⟩) 1 (yd s),slF (rI .u32) (some ⟨b5,0,none⟩) 1 (yd s),atF b1 o2 [.int .u32 ((yd b).getD ((yd b).length - 1) 0)],slF (rI .u32) p1 c1 (yd a),slF (rI .u32) p2 c2 (yd b)]) ?_ ?_
   ·
    refine zt<|zea (X:=Int×Int) (fun x:Int×Int=>Big.Gs (yg (u.drop j)) (V:Int) ((yd V).getD (m+1) 0) ((u.getD (j+(m+2)) 0)*1000000000+(u.getD (j+(m+1)) 0)) x.1 x.2∧x.2<1000000000) (fun x=>[(13,.int .u64 (x.2)),(12,.int .u64 (x.1)),(10,ya yb ((j:Nat):Int)),(4,.slice (some ⟨b20,0,none⟩) (M - (m+2)) (M - (m+2))),(7,.slice p17 M c18),(9,ya yb (((m+2):Nat):Int)),(8,.slice p313 (m+2) c314),(6,.int .u32 ((s:Nat):Int)),(5,.slice none 0 0)]) (fun x=>[rowA 115 (rI .u32) (some ⟨b20,0,none⟩) (M - (m+2)) (List.replicate (j+1) 0++qs),rowA 115 (rI .u32) p17 c18 u]) (fun x=>[atF b26 o27 [.int .u32 ((yd V).getD (m+1) 0)],atF b23 o24 [.int .u32 ((yd V).getD (m+1) 0)],slF (rI .u32) (some ⟨b16,0,none⟩) 1 ([0]),slF (rI .u32) p313 c314 (yd V),slF (rI .u32) (some ⟨b10,0,none⟩) 1 (yd s),slF (rI .u32) (some ⟨b5,0,none⟩) 1 (yd s),atF b1 o2 [.int .u32 ((yd b).getD ((yd b).length - 1) 0)],slF (rI .u32) p1 c1 (yd a),slF (rI .u32) p2 c2 (yd b)]) (fun x:Int×Int=>x.1.toNat) ((((u.getD (j+(m+2)) 0*1000000000)+(u.getD (j+(m+1)) 0)) / ((yd V).getD (m+1) 0)),(((u.getD (j+(m+2)) 0*1000000000)+(u.getD (j+(m+1)) 0))%((yd V).getD (m+1) 0))) (show Big.Gs (yg (u.drop j)) (V:Int) ((yd V).getD (m+1) 0) ((u.getD (j+(m+2)) 0)*1000000000+(u.getD (j+(m+1)) 0)) (((u.getD (j+(m+2)) 0*1000000000)+(u.getD (j+(m+1)) 0)) / ((yd V).getD (m+1) 0)) (((u.getD (j+(m+2)) 0*1000000000)+(u.getD (j+(m+1)) 0))%((yd V).getD (m+1) 0))∧(((u.getD (j+(m+2)) 0*1000000000)+(u.getD (j+(m+1)) 0))%((yd V).getD (m+1) 0))<1000000000 from by exact ⟨hgst,by omega⟩) ((.of rfl):SubM _ _) (ho:=((.of [0,0] rfl):PickO _ _ _)) ((.of [0,1,2,3,4,5,6,7,8] rfl):SelR _ _ _) ?_
    rintro ⟨g,r⟩ hG
    replace hG:Big.Gs (yg (u.drop j)) (V:Int) ((yd V).getD (m+1) 0) ((u.getD (j+(m+2)) 0)*1000000000+(u.getD (j+(m+1)) 0)) g r∧r<1000000000:=hG
    try dsimp only
    obtain ⟨hGs,hr9⟩:=hG
    have hgl:=Big.Gs.le hT hGs
    have hg0:=hGs.g0
    have hr0:=hGs.r0
    have hgm:=Big.mul_lim3 hg0 hgl.1 hvs0 hvs1
    refine ze<|zGa (X:=Unit) (fun x=>True) (fun x=>[(123,.bool (decide ((1000000000≤g)∨(((r*1000000000)+(u.getD (j+m) 0))<(g*((yd V).getD m 0)))))),(13,.int .u64 r),(12,.int .u64 g),(10,ya yb ((j:Nat):Int)),(4,.slice (some ⟨b20,0,none⟩) (M - (m+2)) (M - (m+2))),(7,.slice p17 M c18),(9,ya yb (((m+2):Nat):Int)),(8,.slice p313 (m+2) c314),(6,.int .u32 ((s:Nat):Int)),(5,.slice none 0 0)]) (fun x=>[rowA 115 (rI .u32) (some ⟨b20,0,none⟩) (M - (m+2)) (List.replicate (j+1) 0++qs),rowA 115 (rI .u32) p17 c18 u]) (fun x=>[atF b26 o27 [.int .u32 ((yd V).getD (m+1) 0)],atF b23 o24 [.int .u32 ((yd V).getD (m+1) 0)],slF (rI .u32) (some ⟨b16,0,none⟩) 1 ([0]),slF (rI .u32) p313 c314 (yd V),slF (rI .u32) (some ⟨b10,0,none⟩) 1 (yd s),slF (rI .u32) (some ⟨b5,0,none⟩) 1 (yd s),atF b1 o2 [.int .u32 ((yd b).getD ((yd b).length - 1) 0)],slF (rI .u32) p1 c1 (yd a),slF (rI .u32) p2 c2 (yd b)]) ?_ ?_
    ·
     refine zZ (OW:=[]) (O:=[rowA 115 (rI .u32) (some ⟨b20,0,none⟩) (M - (m+2)) (List.replicate (j+1) 0++qs),rowA 115 (rI .u32) p17 c18 u]) 100000 mixed (.then (.then (.then (.block (.then (.block (.then (.then (.block (.then .ret)))))))))) kr<|e_dm 0 rfl rfl rfl<|e_pv 1 rfl rfl (zIa rfl rfl)<|zge 2 rfl rfl kr kr rfl rfl (zba rfl) (fun hge=> ?_) (fun hge=> ?_)
     ·
      refine e_skip 3 rfl rfl<|e_skip 4 rfl rfl<|e_skip 5 rfl rfl<|e_skip 6 rfl rfl<|e_skip 7 rfl rfl<|e_skip 8 rfl rfl<|e_skip 9 rfl rfl<|e_skip 10 rfl rfl<|e_skip 11 rfl rfl<|e_skip 12 rfl rfl<|e_skip 13 rfl rfl<|e_skip 14 rfl rfl<|e_skip 15 rfl rfl<|e_skip 16 rfl rfl<|e_skip 17 rfl rfl<|e_skip 18 rfl rfl<|e_skip 19 rfl rfl<|e_skip 20 rfl rfl<|e_skip 21 rfl rfl<|e_skip 22 rfl rfl<|e_pv 23 rfl rfl (zn rfl rfl)<|zX kr ?_
      exact zia () (show True from by first|trivial|omega|simp_all) ((.e rfl (congrArg Value.bool (by exact (decide_eq_true (.inl hge)).symm)) (.of rfl)):SubM _ _) (ho:=((.of [0,0] rfl):PickO _ _ _)) ((.of [0,1,2,3,4,5,6,7,8] rfl):SelR _ _ _)
     ·
      refine e_dm 3 rfl rfl rfl<|e_dm 4 rfl rfl rfl<|e_dm 5 rfl rfl rfl<|e_pv 6 rfl rfl (zja (z:=((m:Nat):Int)) rfl rfl (w64 om))<|zoa (x0:=((yd V).getD m 0)) 7 rfl rfl kr kr 3 m rfl ye sz115 rfl rfl rfl (by first|rfl|assumption|(simp;done)|omega) rfl rfl (gD (d:=0) om) (fun b29 o30 hok31=> ?_)
      replace hok31:=zx.1 hok31
      refine e_u 8 rfl rfl (zj (j:=0) 0 ty115 rfl rfl rfl rfl)<|e_pv 9 rfl rfl (zA (z:=((yd V).getD m 0)) rfl (by rw [yi];rfl) yj (wu64 om))<|e_pv 10 rfl rfl (zwa (z:=(g*((yd V).getD m 0))) rfl rfl (wu64 om))<|e_dm 11 rfl rfl rfl<|e_pv 12 rfl rfl (zwa (z:=(r*1000000000)) rfl rfl (wu64 om))<|e_dm 13 rfl rfl rfl<|e_dm 14 rfl rfl rfl<|e_dm 15 rfl rfl rfl<|e_pv 16 rfl rfl (zH (z:=(((j+(m+2)):Nat):Int)) rfl rfl (w64 om))<|e_pv 17 rfl rfl (zja (z:=(((j+m):Nat):Int)) rfl rfl (w64 om))<|e_u 18 rfl rfl (zca 1 (j+m) rfl ye sz115 rfl (by first|rfl|assumption|(simp;done)|omega) rfl rfl om)<|d_vl 19 rfl rfl kr kr rfl rfl (zE 1 (j+m) rfl ty115 rfl rfl (gD (d:=0) om) rfl) (fun _ hok32=> ?_)
      replace hok32:=zx.1 hok32
      refine e_pv 20 rfl rfl (zA (z:=(u.getD (j+m) 0)) rfl (by rw [yi];rfl) yj (wu64 om))<|e_pv 21 rfl rfl (zH (z:=((r*1000000000)+(u.getD (j+m) 0))) rfl rfl (wu64 om))<|e_pv 22 rfl rfl (zna rfl rfl)<|e_pv 23 rfl rfl (zn rfl rfl)<|zX kr ?_
      exact zia () (show True from by first|trivial|omega|simp_all) ((.e rfl (congrArg Value.bool (by exact decide_eq_decide.2 ⟨fun h=> .inr h,fun h=>h.resolve_left hge⟩)) (.of rfl)):SubM _ _) (ho:=((.of [0,0] rfl):PickO _ _ _)) ((.of [1,2,3,4,5,6,7,8,9] rfl):SelR _ _ _)
    ·
     rintro ⟨⟩ -
     try dsimp only
     refine zB rfl (fun hgs=> ?_) (fun hgs=> ?_)
     ·
      have hst:=hGs.step hT hgs
      have hst1:=hst.1
      refine zv<|zc<|zt<|ze<|za<|e_mv rfl<|e_p (zja (z:=(g - 1)) rfl rfl (wu64 om))<|e_p (zb rfl)<|zf<|zc<|ze<|za<|e_mv rfl<|e_mv rfl<|e_mv rfl<|e_p (zja (z:=(((m+1):Nat):Int)) rfl rfl (w64 om))<|zV (x0:=((yd V).getD (m+1) 0)) 3 (m+1) rfl ye sz115 rfl rfl rfl (by first|rfl|assumption|(simp;done)|omega) rfl rfl (gD (d:=0) om) (fun b33 o34 hok35=> ?_)
      replace hok35:=zx.1 hok35
      refine e_ru (zj (j:=0) 0 ty115 rfl rfl rfl rfl)<|e_p (zA (z:=((yd V).getD (m+1) 0)) rfl (by rw [yi];rfl) yj (wu64 om))<|e_p (zH (z:=(r+((yd V).getD (m+1) 0))) rfl rfl (wu64 om))<|e_p (zb rfl)<|zf<|zc<|ze<|za<|e_mv rfl<|e_p (zIa rfl rfl)<|zf<|zc<|zB rfl (fun hbr=> ?_) (fun hbr=> ?_)
      ·
       refine zda<|zrd rfl<|zi<|zr ?_
       exact zia (g - 1) (show (0≤(g - 1)∧(g - 1)<1000000000)∧(yg (u.drop j))<((g - 1)+1)*(V:Int)∧(g - 1)*(V:Int)<(yg (u.drop j))+(V:Int) from by have hs9:=(hGs.step hT hgs).2;have hb9:=Big.Gs.broke hT hs9 hbr;exact ⟨⟨hs9.g0,hb9.1⟩,hs9.up,Big.Gs.fin hT hs9 hb9.1 hb9.2⟩) ((.of rfl):SubM _ _) (ho:=((.of [0,0] rfl):PickO _ _ _)) ((.of [1,2,3,4,5,6,7,8,9] rfl):SelR _ _ _)
      ·
       refine zv<|zM<|zaa ((g - 1),(r+((yd V).getD (m+1) 0))) (show Big.Gs (yg (u.drop j)) (V:Int) ((yd V).getD (m+1) 0) ((u.getD (j+(m+2)) 0)*1000000000+(u.getD (j+(m+1)) 0)) (g - 1) (r+((yd V).getD (m+1) 0))∧(r+((yd V).getD (m+1) 0))<1000000000 from by exact ⟨(hGs.step hT hgs).2,by omega⟩) (by have:=(hGs.step hT hgs).1;show (g - 1).toNat<g.toNat;omega) ((.of rfl):SubM _ _) (ho:=((.of [0,0] rfl):PickO _ _ _)) ((.of [1,2,3,4,5,6,7,8,9] rfl):SelR _ _ _)
     ·
      refine zda<|zi<|zi<|zr ?_
      exact zia g (show (0≤g∧g<1000000000)∧(yg (u.drop j))<(g+1)*(V:Int)∧g*(V:Int)<(yg (u.drop j))+(V:Int) from by exact ⟨⟨hg0,by omega⟩,hGs.up,Big.Gs.fin hT hGs om om⟩) ((.of rfl):SubM _ _) (ho:=((.of [0,0] rfl):PickO _ _ _)) ((.of [0,1,2,3,4,5,6,7,8] rfl):SelR _ _ _)
   ·
    rintro g hC
    replace hC:(0≤g∧g<1000000000)∧(yg (u.drop j))<(g+1)*(V:Int)∧g*(V:Int)<(yg (u.drop j))+(V:Int):=hC
    try dsimp only
    obtain ⟨⟨hg0,hg1⟩,hup,hdn⟩:=hC
    refine ze<|za<|e_p (zb rfl)<|e_p (zb rfl)<|zf<|zc<|ze<|ze<|za<|e_mv rfl<|e_mv rfl<|zf<|zc<|zt<|zea (X:=Nat×(List Int)×Int×Int) (fun x:Nat×(List Int)×Int×Int=>x.1≤m+2∧Big.MsI u j g (yd V) x.1 x.2.1 x.2.2.1 x.2.2.2) (fun x=>[(15,.int .u64 (x.2.2.2)),(14,ya yb (x.2.2.1)),(137,ya yb ((x.1:Nat):Int)),(136,ya yb (((m+2):Nat):Int)),(12,.int .u64 g),(10,ya yb ((j:Nat):Int)),(4,.slice (some ⟨b20,0,none⟩) (M - (m+2)) (M - (m+2))),(7,.slice p17 M c18),(9,ya yb (((m+2):Nat):Int)),(8,.slice p313 (m+2) c314),(6,.int .u32 ((s:Nat):Int)),(5,.slice none 0 0)]) (fun x=>[rowA 115 (rI .u32) (some ⟨b20,0,none⟩) (M - (m+2)) (List.replicate (j+1) 0++qs),rowA 115 (rI .u32) p17 c18 (x.2.1)]) (fun x=>[atF b26 o27 [.int .u32 ((yd V).getD (m+1) 0)],atF b23 o24 [.int .u32 ((yd V).getD (m+1) 0)],slF (rI .u32) (some ⟨b16,0,none⟩) 1 ([0]),slF (rI .u32) p313 c314 (yd V),slF (rI .u32) (some ⟨b10,0,none⟩) 1 (yd s),slF (rI .u32) (some ⟨b5,0,none⟩) 1 (yd s),atF b1 o2 [.int .u32 ((yd b).getD ((yd b).length - 1) 0)],slF (rI .u32) p1 c1 (yd a),slF (rI .u32) p2 c2 (yd b)]) (fun x:Nat×(List Int)×Int×Int=>(m+2) - x.1) (0,u,0,0) (show 0≤m+2∧Big.MsI u j g (yd V) 0 u 0 0 from by exact ⟨Nat.zero_le _,Big.MsI.start hI.uo j g _⟩) ((.c rfl (.c rfl (.e rfl (by first|rfl|(congr 1;omega)|simp_all) (.of rfl)))):SubM _ _) (ho:=((.of [0,0] rfl):PickO _ _ _)) ((.of [0,1,2,3,4,5,6,7,8] rfl):SelR _ _ _) ?_
    rintro ⟨i,w,bo,ca⟩ hMM
    replace hMM:i≤m+2∧Big.MsI u j g (yd V) i w bo ca:=hMM
    try dsimp only
    obtain ⟨hile,hM2⟩:=hMM
    have hb0:=hM2.b0
    have hb1:=hM2.b1
    have hc0:=hM2.c0
    have hc1:=hM2.c1
    have hwl:=hM2.len
    have hwo:=yn hM2.ok (j+i)
    have hvi:=yn (yp V) i
    have hca:=Big.ms_carry ⟨hg0,hg1⟩ hvi ⟨hc0,hc1⟩
    have hgx:=Int.mul_nonneg hg0 hvi.1
    refine ze<|za<|e_p (zT rfl rfl)<|zf<|zc<|ze<|zB rfl (fun hi=> ?_) (fun hi=> ?_)
    ·
     refine zv<|zc<|ze<|zt<|ze<|za<|e_mv rfl<|e_p (zb rfl)<|zf<|zc<|ze<|za<|e_mv rfl<|e_mv rfl<|e_mv rfl<|zV (x0:=((yd V).getD i 0)) 3 i rfl ye sz115 rfl rfl rfl (by first|rfl|assumption|(simp;done)|omega) rfl rfl (gD (d:=0) om) (fun b36 o37 hok38=> ?_)
     replace hok38:=zx.1 hok38
     refine e_ru (zj (j:=0) 0 ty115 rfl rfl rfl rfl)<|e_p (zA (z:=((yd V).getD i 0)) rfl (by rw [yi];rfl) yj (wu64 om))<|e_p (zwa (z:=(g*((yd V).getD i 0))) rfl rfl (wu64 om))<|e_mv rfl<|e_p (zH (z:=((g*((yd V).getD i 0))+ca)) rfl rfl (wu64 om))<|e_p (zb rfl)<|zf<|zc<|ze<|za<|e_mv rfl<|e_p (zSa (z:=(((g*((yd V).getD i 0))+ca) / 1000000000)) rfl rfl om (by rw [quoN (z:=(((g*((yd V).getD i 0))+ca) / 1000000000)) om om];exact wu64 om))<|e_p (zb rfl)<|zf<|zc<|ze<|za<|e_mv rfl<|e_mv rfl<|e_mv rfl<|e_p (zH (z:=(((j+i):Nat):Int)) rfl rfl (w64 om))<|e_ru (zca 1 (j+i) rfl ye sz115 rfl (by first|rfl|assumption|(simp;done)|omega) rfl rfl om)<|r_vl rfl rfl (zE 1 (j+i) rfl ty115 rfl rfl (gD (d:=0) om) rfl) (fun _ hok39=> ?_)
     replace hok39:=zx.1 hok39
     refine e_p (zA (z:=(w.getD (j+i) 0)) rfl (by rw [yi];rfl) yx (w64 om))<|e_mv rfl<|e_p (zja (z:=((w.getD (j+i) 0) - bo)) rfl rfl (w64 om))<|e_mv rfl<|e_p (zTa (z:=(((g*((yd V).getD i 0))+ca)%1000000000)) rfl rfl om (remN om om))<|e_p (zA (z:=(((g*((yd V).getD i 0))+ca)%1000000000)) rfl (by rw [yj];rfl) yx (w64 om))<|e_p (zja (z:=(((w.getD (j+i) 0) - bo) - (((g*((yd V).getD i 0))+ca)%1000000000))) rfl rfl (w64 om))<|e_p (zb rfl)<|zf<|zc<|ze<|za<|e_p (zb rfl)<|zf<|zc<|ze<|ze<|za<|e_mv rfl<|e_p (zT rfl rfl)<|zf<|zc<|zB rfl (fun hneg=> ?_) (fun hneg=> ?_)
     ·
      refine za<|e_mv rfl<|e_p (zH (z:=((((w.getD (j+i) 0) - bo) - (((g*((yd V).getD i 0))+ca)%1000000000))+1000000000)) rfl rfl (w64 om))<|e_p (zb rfl)<|e_p (zb rfl)<|zf<|zc<|za<|e_mv rfl<|e_mv rfl<|e_mv rfl<|e_p (zH (z:=(((j+i):Nat):Int)) rfl rfl (w64 om))<|e_mv rfl<|e_p (zA (z:=((((w.getD (j+i) 0) - bo) - (((g*((yd V).getD i 0))+ca)%1000000000))+1000000000)) rfl (by rw [yx];rfl) yi (wu32 om))<|e_ru (zca 1 (j+i) rfl ye sz115 rfl (by first|rfl|assumption|(simp;done)|omega) rfl rfl om)<|zza 1 rfl rfl rfl (zL (j:=(j+i)) (x0:=((((w.getD (j+i) 0) - bo) - (((g*((yd V).getD i 0))+ca)%1000000000))+1000000000)) (γ0:=()) rfl rfl (by first|omega|(rw [List.length_map];omega)|(simp only [List.length_set];omega)|(simp;done)|(simp;omega)) rfl rfl sz115 (fun _ _=>by exact zx.2 om)) (fun _=>(.s .z)) (fun _ _=> ?_)
      refine zf<|zM<|zc<|za<|e_p (zH (z:=(((i+1):Nat):Int)) rfl rfl (w64 om))<|e_mv rfl<|zf<|zaa ((i+1),(w.set (j+i) ((((w.getD (j+i) 0) - bo) - (((g*((yd V).getD i 0))+ca)%1000000000))+1000000000)),1,(((g*((yd V).getD i 0))+ca) / 1000000000)) (show (i+1)≤m+2∧Big.MsI u j g (yd V) (i+1) (w.set (j+i) ((((w.getD (j+i) 0) - bo) - (((g*((yd V).getD i 0))+ca)%1000000000))+1000000000)) 1 (((g*((yd V).getD i 0))+ca) / 1000000000) from by exact ⟨by omega,hM2.step ⟨hg0,hg1⟩ (yp V) om om ⟨by omega,by omega⟩ ⟨by decide,by decide⟩⟩) (by show (m+2) - (i+1)<(m+2) - i;omega) ((.of rfl):SubM _ _) (ho:=((.of [0,0] rfl):PickO _ _ _)) ((.of [1,2,3,4,5,6,7,8,9] rfl):SelR _ _ _)
     ·
      refine zv<|zc<|za<|e_mv rfl<|e_mv rfl<|e_mv rfl<|e_p (zH (z:=(((j+i):Nat):Int)) rfl rfl (w64 om))<|e_mv rfl<|e_p (zA (z:=(((w.getD (j+i) 0) - bo) - (((g*((yd V).getD i 0))+ca)%1000000000))) rfl (by rw [yx];rfl) yi (wu32 om))<|e_ru (zca 1 (j+i) rfl ye sz115 rfl (by first|rfl|assumption|(simp;done)|omega) rfl rfl om)<|zza 1 rfl rfl rfl (zL (j:=(j+i)) (x0:=(((w.getD (j+i) 0) - bo) - (((g*((yd V).getD i 0))+ca)%1000000000))) (γ0:=()) rfl rfl (by first|omega|(rw [List.length_map];omega)|(simp only [List.length_set];omega)|(simp;done)|(simp;omega)) rfl rfl sz115 (fun _ _=>by exact zx.2 om)) (fun _=>(.s .z)) (fun _ _=> ?_)
      refine zf<|zM<|zc<|za<|e_p (zH (z:=(((i+1):Nat):Int)) rfl rfl (w64 om))<|e_mv rfl<|zf<|zaa ((i+1),(w.set (j+i) (((w.getD (j+i) 0) - bo) - (((g*((yd V).getD i 0))+ca)%1000000000))),0,(((g*((yd V).getD i 0))+ca) / 1000000000)) (show (i+1)≤m+2∧Big.MsI u j g (yd V) (i+1) (w.set (j+i) (((w.getD (j+i) 0) - bo) - (((g*((yd V).getD i 0))+ca)%1000000000))) 0 (((g*((yd V).getD i 0))+ca) / 1000000000) from by exact ⟨by omega,hM2.step ⟨hg0,hg1⟩ (yp V) om om ⟨by omega,by omega⟩ ⟨by decide,by decide⟩⟩) (by show (m+2) - (i+1)<(m+2) - i;omega) ((.of rfl):SubM _ _) (ho:=((.of [0,0] rfl):PickO _ _ _)) ((.of [1,2,3,4,5,6,7,8,9] rfl):SelR _ _ _)
    ·
     have hM3:Big.MsI u j g (yd V) (m+2) w bo ca:=by have h8:i=m+2:=om;exact h8 ▸ hM2
     have hwo2:=yn hM2.ok (j+(m+2))
     refine zda<|zi<|zi<|zr<|zc<|ze<|za<|e_mv rfl<|e_mv rfl<|e_mv rfl<|e_p (zH (z:=(((j+(m+2)):Nat):Int)) rfl rfl (w64 om))<|e_ru (zca 1 (j+(m+2)) rfl ye sz115 rfl (by first|rfl|assumption|(simp;done)|omega) rfl rfl om)<|r_vl rfl rfl (zE 1 (j+(m+2)) rfl ty115 rfl rfl (gD (d:=0) om) rfl) (fun _ hok40=> ?_)
     replace hok40:=zx.1 hok40
     refine e_p (zA (z:=(w.getD (j+(m+2)) 0)) rfl (by rw [yi];rfl) yx (w64 om))<|e_mv rfl<|e_p (zja (z:=((w.getD (j+(m+2)) 0) - bo)) rfl rfl (w64 om))<|e_mv rfl<|e_p (zA (z:=ca) rfl (by rw [yj];rfl) yx (w64 om))<|e_p (zja (z:=(((w.getD (j+(m+2)) 0) - bo) - ca)) rfl rfl (w64 om))<|e_p (zb rfl)<|zf<|zc<|ze<|ze<|za<|e_mv rfl<|e_p (zT rfl rfl)<|zf<|zc<|zB rfl (fun hd=> ?_) (fun hd=> ?_)
     ·
      have hg9:=hI.neg1 hM3 hm hd
      refine ze<|za<|e_mv rfl<|e_mv rfl<|e_mv rfl<|e_p (zH (z:=(((j+(m+2)):Nat):Int)) rfl rfl (w64 om))<|e_mv rfl<|e_p (zH (z:=((((w.getD (j+(m+2)) 0) - bo) - ca)+1000000000)) rfl rfl (w64 om))<|e_p (zA (z:=((((w.getD (j+(m+2)) 0) - bo) - ca)+1000000000)) rfl (by rw [yx];rfl) yi (wu32 om))<|e_ru (zca 1 (j+(m+2)) rfl ye sz115 rfl (by first|rfl|assumption|(simp;done)|omega) rfl rfl om)<|zza 1 rfl rfl rfl (zL (j:=(j+(m+2))) (x0:=((((w.getD (j+(m+2)) 0) - bo) - ca)+1000000000)) (γ0:=()) rfl rfl (by first|omega|(rw [List.length_map];omega)|(simp only [List.length_set];omega)|(simp;done)|(simp;omega)) rfl rfl sz115 (fun _ _=>by exact zx.2 om)) (fun _=>(.s .z)) (fun _ _=> ?_)
      refine zf<|zc<|ze<|za<|e_mv rfl<|e_p (zja (z:=(g - 1)) rfl rfl (wu64 om))<|e_p (zb rfl)<|zf<|zc<|ze<|za<|e_p (zb rfl)<|zf<|zc<|ze<|ze<|za<|e_mv rfl<|e_mv rfl<|zf<|zc<|zt<|zea (X:=Nat×(List Int)×Int) (fun x:Nat×(List Int)×Int=>x.1≤m+2∧Big.AbI (w.set (j+(m+2)) ((((w.getD (j+(m+2)) 0) - bo) - ca)+1000000000)) j (yd V) x.1 x.2.1 x.2.2) (fun x=>[(20,.int .u32 (x.2.2)),(201,ya yb ((x.1:Nat):Int)),(200,ya yb (((m+2):Nat):Int)),(12,.int .u64 (g - 1)),(10,ya yb ((j:Nat):Int)),(4,.slice (some ⟨b20,0,none⟩) (M - (m+2)) (M - (m+2))),(7,.slice p17 M c18),(9,ya yb (((m+2):Nat):Int)),(8,.slice p313 (m+2) c314),(6,.int .u32 ((s:Nat):Int)),(5,.slice none 0 0)]) (fun x=>[rowA 115 (rI .u32) (some ⟨b20,0,none⟩) (M - (m+2)) (List.replicate (j+1) 0++qs),rowA 115 (rI .u32) p17 c18 (x.2.1)]) (fun x=>[atF b26 o27 [.int .u32 ((yd V).getD (m+1) 0)],atF b23 o24 [.int .u32 ((yd V).getD (m+1) 0)],slF (rI .u32) (some ⟨b16,0,none⟩) 1 ([0]),slF (rI .u32) p313 c314 (yd V),slF (rI .u32) (some ⟨b10,0,none⟩) 1 (yd s),slF (rI .u32) (some ⟨b5,0,none⟩) 1 (yd s),atF b1 o2 [.int .u32 ((yd b).getD ((yd b).length - 1) 0)],slF (rI .u32) p1 c1 (yd a),slF (rI .u32) p2 c2 (yd b)]) (fun x:Nat×(List Int)×Int=>(m+2) - x.1) (0,(w.set (j+(m+2)) ((((w.getD (j+(m+2)) 0) - bo) - ca)+1000000000)),0) (show 0≤m+2∧Big.AbI (w.set (j+(m+2)) ((((w.getD (j+(m+2)) 0) - bo) - ca)+1000000000)) j (yd V) 0 (w.set (j+(m+2)) ((((w.getD (j+(m+2)) 0) - bo) - ca)+1000000000)) 0 from by exact ⟨Nat.zero_le _,Big.AbI.start (yQ hM2.ok om om) _ _⟩) ((.c rfl (.e rfl (by first|rfl|(congr 1;omega)|simp_all) (.of rfl))):SubM _ _) (ho:=((.c (i:=0) rfl (.e (i:=0) rfl (by first|rfl|(congr 1;omega)|simp_all) .n)):PickO _ _ _)) ((.of [0,1,2,3,4,5,6,7,8] rfl):SelR _ _ _) ?_
      rintro ⟨i2,xs,cc⟩ hAA
      replace hAA:i2≤m+2∧Big.AbI (w.set (j+(m+2)) ((((w.getD (j+(m+2)) 0) - bo) - ca)+1000000000)) j (yd V) i2 xs cc:=hAA
      try dsimp only
      obtain ⟨hile2,hA2⟩:=hAA
      have hk0:=hA2.c0
      have hk1:=hA2.c1
      have hxl:=hA2.len
      rw [List.length_set] at hxl
      have hxo:=yn hA2.ok (j+i2)
      have hvi2:=yn (yp V) i2
      refine ze<|za<|e_p (zT rfl rfl)<|zf<|zc<|ze<|zB rfl (fun hi=> ?_) (fun hi=> ?_)
      ·
       refine zv<|zc<|ze<|zt<|ze<|za<|e_mv rfl<|e_p (zb rfl)<|zf<|zc<|ze<|zZ (OW:=[]) (O:=[rowA 115 (rI .u32) (some ⟨b20,0,none⟩) (M - (m+2)) (List.replicate (j+1) 0++qs),rowA 115 (rI .u32) p17 c18 xs]) 100000 mixed (.then (.block (.then (.then (.block (.then (.then (.block (.then (.then (.block (.then .ret)))))))))))) kr<|e_dm 0 rfl rfl rfl<|e_dm 1 rfl rfl rfl<|e_dm 2 rfl rfl rfl<|e_pv 3 rfl rfl (zH (z:=(((j+i2):Nat):Int)) rfl rfl (w64 om))<|e_u 4 rfl rfl (zca 1 (j+i2) rfl ye sz115 rfl (by first|rfl|assumption|(simp;done)|omega) rfl rfl om)<|d_vl 5 rfl rfl kr kr rfl rfl (zE 1 (j+i2) rfl ty115 rfl rfl (gD (d:=0) om) rfl) (fun _ hok41=> ?_)
       replace hok41:=zx.1 hok41
       refine e_dm 6 rfl rfl rfl<|e_dm 7 rfl rfl rfl<|zoa (x0:=((yd V).getD i2 0)) 8 rfl rfl kr kr 3 i2 rfl ye sz115 rfl rfl rfl (by first|rfl|assumption|(simp;done)|omega) rfl rfl (gD (d:=0) om) (fun b42 o43 hok44=> ?_)
       replace hok44:=zx.1 hok44
       refine e_u 9 rfl rfl (zj (j:=0) 0 ty115 rfl rfl rfl rfl)<|e_pv 10 rfl rfl (zH (z:=((xs.getD (j+i2) 0)+((yd V).getD i2 0))) rfl rfl (wu32 om))<|e_dm 11 rfl rfl rfl<|e_pv 12 rfl rfl (zH (z:=(((xs.getD (j+i2) 0)+((yd V).getD i2 0))+cc)) rfl rfl (wu32 om))<|e_pv 13 rfl rfl (zb rfl)<|zX kr<|zc<|ze<|za<|e_p (zb rfl)<|zf<|zc<|ze<|ze<|za<|e_mv rfl<|e_p (zIa rfl rfl)<|zf<|zc<|zB rfl (fun hcy=> ?_) (fun hcy=> ?_)
       ·
        refine za<|e_mv rfl<|e_p (zja (z:=((((xs.getD (j+i2) 0)+((yd V).getD i2 0))+cc) - 1000000000)) rfl rfl (wu32 om))<|e_p (zb rfl)<|e_p (zb rfl)<|zf<|zc<|za<|e_mv rfl<|e_mv rfl<|e_mv rfl<|e_p (zH (z:=(((j+i2):Nat):Int)) rfl rfl (w64 om))<|e_mv rfl<|e_ru (zca 1 (j+i2) rfl ye sz115 rfl (by first|rfl|assumption|(simp;done)|omega) rfl rfl om)<|zza 1 rfl rfl rfl (zL (j:=(j+i2)) (x0:=((((xs.getD (j+i2) 0)+((yd V).getD i2 0))+cc) - 1000000000)) (γ0:=()) rfl rfl (by first|omega|(rw [List.length_map];omega)|(simp only [List.length_set];omega)|(simp;done)|(simp;omega)) rfl rfl sz115 (fun _ _=>by exact zx.2 om)) (fun _=>(.s .z)) (fun _ _=> ?_)
        refine zf<|zM<|zc<|za<|e_p (zH (z:=(((i2+1):Nat):Int)) rfl rfl (w64 om))<|e_mv rfl<|zf<|zaa ((i2+1),(xs.set (j+i2) ((((xs.getD (j+i2) 0)+((yd V).getD i2 0))+cc) - 1000000000)),1) (show (i2+1)≤m+2∧Big.AbI (w.set (j+(m+2)) ((((w.getD (j+(m+2)) 0) - bo) - ca)+1000000000)) j (yd V) (i2+1) (xs.set (j+i2) ((((xs.getD (j+i2) 0)+((yd V).getD i2 0))+cc) - 1000000000)) 1 from by exact ⟨by omega,hA2.step (by rw [List.length_set];omega) om ⟨by omega,by omega⟩ ⟨by decide,by decide⟩⟩) (by show (m+2) - (i2+1)<(m+2) - i2;omega) ((.of rfl):SubM _ _) (ho:=((.of [0,0] rfl):PickO _ _ _)) ((.of [1,2,3,4,5,6,7,8,9] rfl):SelR _ _ _)
       ·
        refine zv<|zc<|za<|e_mv rfl<|e_mv rfl<|e_mv rfl<|e_p (zH (z:=(((j+i2):Nat):Int)) rfl rfl (w64 om))<|e_mv rfl<|e_ru (zca 1 (j+i2) rfl ye sz115 rfl (by first|rfl|assumption|(simp;done)|omega) rfl rfl om)<|zza 1 rfl rfl rfl (zL (j:=(j+i2)) (x0:=(((xs.getD (j+i2) 0)+((yd V).getD i2 0))+cc)) (γ0:=()) rfl rfl (by first|omega|(rw [List.length_map];omega)|(simp only [List.length_set];omega)|(simp;done)|(simp;omega)) rfl rfl sz115 (fun _ _=>by exact zx.2 om)) (fun _=>(.s .z)) (fun _ _=> ?_)
        refine zf<|zM<|zc<|za<|e_p (zH (z:=(((i2+1):Nat):Int)) rfl rfl (w64 om))<|e_mv rfl<|zf<|zaa ((i2+1),(xs.set (j+i2) (((xs.getD (j+i2) 0)+((yd V).getD i2 0))+cc)),0) (show (i2+1)≤m+2∧Big.AbI (w.set (j+(m+2)) ((((w.getD (j+(m+2)) 0) - bo) - ca)+1000000000)) j (yd V) (i2+1) (xs.set (j+i2) (((xs.getD (j+i2) 0)+((yd V).getD i2 0))+cc)) 0 from by exact ⟨by omega,hA2.step (by rw [List.length_set];omega) om ⟨by omega,by omega⟩ ⟨by decide,by decide⟩⟩) (by show (m+2) - (i2+1)<(m+2) - i2;omega) ((.of rfl):SubM _ _) (ho:=((.of [0,0] rfl):PickO _ _ _)) ((.of [1,2,3,4,5,6,7,8,9] rfl):SelR _ _ _)
      ·
       have hA3:Big.AbI (w.set (j+(m+2)) ((((w.getD (j+(m+2)) 0) - bo) - ca)+1000000000)) j (yd V) (m+2) xs cc:=by have h8:i2=m+2:=om;exact h8 ▸ hA2
       have hxo2:=yn hA2.ok (j+(m+2))
       refine zda<|zi<|zi<|zr<|zc<|za<|e_mv rfl<|e_mv rfl<|e_mv rfl<|e_p (zH (z:=(((j+(m+2)):Nat):Int)) rfl rfl (w64 om))<|e_mv rfl<|e_mv rfl<|e_mv rfl<|e_p (zH (z:=(((j+(m+2)):Nat):Int)) rfl rfl (w64 om))<|e_ru (zca 1 (j+(m+2)) rfl ye sz115 rfl (by first|rfl|assumption|(simp;done)|omega) rfl rfl om)<|r_vl rfl rfl (zE 1 (j+(m+2)) rfl ty115 rfl rfl (gD (d:=0) om) rfl) (fun _ hok45=> ?_)
       replace hok45:=zx.1 hok45
       refine e_mv rfl<|e_p (zH (z:=((xs.getD (j+(m+2)) 0)+cc)) rfl rfl (wu32 om))<|e_p (zTa (z:=(((xs.getD (j+(m+2)) 0)+cc)%1000000000)) rfl rfl om (remN om om))<|e_ru (zca 1 (j+(m+2)) rfl ye sz115 rfl (by first|rfl|assumption|(simp;done)|omega) rfl rfl om)<|zza 1 rfl rfl rfl (zL (j:=(j+(m+2))) (x0:=(((xs.getD (j+(m+2)) 0)+cc)%1000000000)) (γ0:=()) rfl rfl (by first|omega|(rw [List.length_map];omega)|(simp only [List.length_set];omega)|(simp;done)|(simp;omega)) rfl rfl sz115 (fun _ _=>by exact zx.2 om)) (fun _=>(.s .z)) (fun _ _=> ?_)
       refine zf<|zc<|za<|e_mv rfl<|e_mv rfl<|e_mv rfl<|e_p (zA (z:=(g - 1)) rfl (by rw [yj];rfl) yi (wu32 om))<|e_p (zI (j:=j) ye sz115 rfl rfl rfl om)<|zza 0 rfl rfl rfl (zL (j:=j) (x0:=(g - 1)) (γ0:=()) rfl rfl (by first|omega|(rw [List.length_map];omega)|(simp only [List.length_set];omega)|(simp;done)|(simp;omega)) rfl rfl sz115 (fun _ _=>by exact zx.2 om)) (fun _=> .z) (fun _ _=> ?_)
       refine zf<|zM<|zc<|za<|e_mv rfl<|e_p (zja (z:=(((j:Nat):Int) - 1)) rfl rfl (w64 om))<|e_p (zb rfl)<|zf<|zaa (j,(xs.set (j+(m+2)) (((xs.getD (j+(m+2)) 0)+cc)%1000000000)),((g - 1) :: qs)) (show yX M (m+2) ((A:Nat):Int) ((V:Nat):Int) j (xs.set (j+(m+2)) (((xs.getD (j+(m+2)) 0)+cc)%1000000000)) ((g - 1) :: qs) from by exact (hI.neg ⟨hg0,hg1⟩ hdn hup hM3 hm hd hA3).2) (by show j<j+1;omega) ((.of rfl):SubM _ _) (ho:=((.e (i:=0) rfl (by rw [Big.pad_set]) (.c (i:=0) rfl .n)):PickO _ _ _)) ((.of [2,3,4,5,6,7,8] rfl):SelR _ _ _)
     ·
      refine za<|e_mv rfl<|e_mv rfl<|e_mv rfl<|e_p (zH (z:=(((j+(m+2)):Nat):Int)) rfl rfl (w64 om))<|e_mv rfl<|e_p (zA (z:=(((w.getD (j+(m+2)) 0) - bo) - ca)) rfl (by rw [yx];rfl) yi (wu32 om))<|e_ru (zca 1 (j+(m+2)) rfl ye sz115 rfl (by first|rfl|assumption|(simp;done)|omega) rfl rfl om)<|zza 1 rfl rfl rfl (zL (j:=(j+(m+2))) (x0:=(((w.getD (j+(m+2)) 0) - bo) - ca)) (γ0:=()) rfl rfl (by first|omega|(rw [List.length_map];omega)|(simp only [List.length_set];omega)|(simp;done)|(simp;omega)) rfl rfl sz115 (fun _ _=>by exact zx.2 om)) (fun _=>(.s .z)) (fun _ _=> ?_)
      refine zf<|zc<|za<|e_mv rfl<|e_mv rfl<|e_mv rfl<|e_p (zA (z:=g) rfl (by rw [yj];rfl) yi (wu32 om))<|e_p (zI (j:=j) ye sz115 rfl rfl rfl om)<|zza 0 rfl rfl rfl (zL (j:=j) (x0:=g) (γ0:=()) rfl rfl (by first|omega|(rw [List.length_map];omega)|(simp only [List.length_set];omega)|(simp;done)|(simp;omega)) rfl rfl sz115 (fun _ _=>by exact zx.2 om)) (fun _=> .z) (fun _ _=> ?_)
      refine zf<|zM<|zc<|za<|e_mv rfl<|e_p (zja (z:=(((j:Nat):Int) - 1)) rfl rfl (w64 om))<|e_p (zb rfl)<|zf<|zaa (j,(w.set (j+(m+2)) (((w.getD (j+(m+2)) 0) - bo) - ca)),(g :: qs)) (show yX M (m+2) ((A:Nat):Int) ((V:Nat):Int) j (w.set (j+(m+2)) (((w.getD (j+(m+2)) 0) - bo) - ca)) (g :: qs) from by exact hI.pos ⟨hg0,hg1⟩ hup hM3 hm om) (by show j<j+1;omega) ((.of rfl):SubM _ _) (ho:=((.e (i:=0) rfl (by rw [Big.pad_set]) (.c (i:=0) rfl .n)):PickO _ _ _)) ((.of [2,3,4,5,6,7,8] rfl):SelR _ _ _)
  ·
   have hj0:jj=0:=by omega
   have hI0:yX M (m+2) ((A:Nat):Int) ((V:Nat):Int) 0 u qs:=hj0 ▸ hI
   obtain ⟨hf1,hf2⟩:=hI0.fin hm
   have hsc:=Big.scale_div (a:=a) (b:=b) hs1
   have hql:qs.length=M - (m+2):=by have h8:=hI0.ql;omega
   have hul0:=hI0.ul
   refine zda<|zi<|zi<|zr<|zc<|ze<|zJf 1 rfl (.s .z)<|zY 0 rfl (fun hcu=> ?_)
   have hAV:(yd (A%V)).length≤4398046511104:=Nat.le_trans (yN (Nat.le_of_lt (Nat.mod_lt A (Nat.pos_of_ne_zero (fun e=>by rw [e] at hm;cases hm))))) om
   have e46:List.replicate jj 0++qs=qs:=by rw [hj0];rfl
   rw [e46]
   refine za<|e_mv rfl<|e_mv rfl<|e_p (zpb (hi:=(m+2)) ye sz115 rfl (.s rfl) (.inr ⟨_,rfl⟩) om)<|zCb (zTb 0 rfl (m+2) om) (fun _ _=> ?_)
   refine zu rfl rfl (.c rfl .n) ce156 (zub (p:=p17) (n:=(m+2)) (cap:=c18) (l:=(u.take (m+2))) (hn:=cbb)) (.c (j:=0) rfl .n) ?_
   rintro ⟨⟩ -
   dsimp only [aq,nq,cq]
   refine e_mv rfl ?_
   have e47:yo (u.take (m+2))=yd (A%V):=by exact hf2
   rw [e47]
   refine zu rfl rfl (.c rfl (.c rfl .n)) ce168 (zHd (a:=A%V) (mm:=s) (p:=p17) (cap:=c18) (hb:=om) (hm0:=om) (hm1:=om)) (.c (j:=0) rfl .n) ?_
   rintro ⟨p248,c249⟩ -
   dsimp only [aq,nq,cq]
   refine e_mv rfl<|e_p (zq rfl rfl)<|e_p (zq rfl rfl)<|e_p (zb rfl)<|zf<|zc<|ze<|za<|e_mv rfl<|zga 0 rfl .z<|zu rfl rfl (.c rfl .n) ce156 (zub (p:=some ⟨b20,0,none⟩) (n:=(M - (m+2))) (cap:=(M - (m+2))) (l:=qs) (hn:=cbb)) (.c (j:=0) rfl .n) ?_
   rintro ⟨⟩ -
   dsimp only [aq,nq,cq]
   refine e_mv rfl<|e_p (zb rfl)<|e_p (zb rfl)<|zf<|zc<|zJ ?_
   have e50:yo qs=yd (A / V):=by exact hf1
   rw [e50]
   exact zqa Tryz.results169 ((some ⟨b20,0,none⟩),(M - (m+2)),p248,c249) trivial (zo rfl) (zo rfl) (by rw [hA,hV,hsc.1,hsc.2]) (ho:=(.n:PickO _ _ _)) ((.e (j:=0) rfl (by rw [hA,hV,hsc.1]) (.e (j:=2) rfl (by rw [hA,hV,hsc.2]) .n)):SelR _ _ _)
end Go.Proofs.YtkohlohbogpooaaGreat.Sp
namespace Go.Proofs.YtkohlohbogpooaaGreat.Sp
open Go
set_option linter.unusedVariables false
set_option maxRecDepth 100000
set_option maxHeartbeats 8000000
theorem zpe {a:Nat} {b:Nat} {p1:Option Addr} {c1:Nat} {p2:Option Addr} {c2:Nat} (hb1:(yd a).length≤4398046511104) (hb2:(yd b).length≤4398046511104) (hb0:0<b):Con yh 150 [.slice p1 ((yd a).length) c1,.slice p2 ((yd b).length) c2] [] [slF (rI .u32) p1 c1 (yd a),slF (rI .u32) p2 c2 (yd b)] (Y:=(Option Addr)×Nat×(Option Addr)×Nat) (fun y=>True) (fun y=> .tuple #[.slice (y.1) ((yd (a / b)).length) (y.2.1),.slice (y.2.2.1) ((yd (a%b)).length) (y.2.2.2)]) (fun y=>[]) (fun y=>[slF (rI .u32) (y.1) (y.2.1) (yd (a / b)),slF (rI .u32) (y.2.2.1) (y.2.2.2) (yd (a%b))]):=by
 refine zl Tryz.func150 rfl rfl rfl (fun c=> ?_)
 show RunC _ _ _ _ _ [(0,.slice p1 ((yd a).length) c1),(1,.slice p2 ((yd b).length) c2)] [] [slF (rI .u32) p1 c1 (yd a),slF (rI .u32) p2 c2 (yd b)]
 refine zY 0 rfl (fun hL0=> ?_)
 refine zY 1 rfl (fun hL1=> ?_)
 have hd1:=Nat.div_le_self a b
 have hd2:=Nat.mod_le a b
 have hob:=yn (yp b) 0
 refine ze<|za<|e_p (zb rfl)<|e_p (zb rfl)<|zf<|zc<|ze<|ze<|za<|e_mv rfl<|e_mv rfl<|zQ rfl rfl (.c rfl (.c rfl .n)) ce129 (zRb (a:=a) (b:=b) (p1:=p1) (c1:=c1) (p2:=p2) (c2:=c2)) (.c (j:=0) rfl (.c (j:=1) rfl .n))<|e_p (zT rfl rfl)<|zf<|zc<|zB rfl (fun hlt=> ?_) (fun hlt=> ?_)
 ·
  have hab9:¬(b:Int)≤a:=fun h=>by have:=Big.cmp_ge.2 h;omega
  have hab:a<b:=by omega
  refine ze<|za<|e_mv rfl<|e_p (zb rfl)<|e_p (zb rfl)<|zf<|zc<|zJ<|zm ?_
  have hz1:a / b=0:=Nat.div_eq_of_lt hab
  have hz2:a%b=a:=Nat.mod_eq_of_lt hab
  refine zqb (rI .u32) ?_
  exact zqa yL (none,0,p1,c1) trivial (zo rfl) (zo rfl) (by rw [hz1,hz2];rfl) (ho:=(.n:PickO _ _ _)) ((.e (j:=0) rfl (by rw [hz1];rfl) (.e (j:=1) rfl (by rw [hz2]) .n)):SelR _ _ _)
 ·
  have hab:b≤a:=by have h9:=Big.cmp_ge.1 (by omega:0≤yH (a:Int) (b:Int));omega
  refine zv<|zc<|ze<|za<|e_mv rfl<|zQ rfl rfl (.c rfl .n) ce149 (zvc (a:=a) (p:=p1) (cap:=c1)) (.c (j:=0) rfl .n)<|e_mv rfl<|e_p (zq rfl rfl)<|e_p (zq rfl rfl)<|e_p (zb rfl)<|e_p (zb rfl)<|zf<|zc<|ze<|za<|e_mv rfl<|zQ rfl rfl (.c rfl .n) ce149 (zvc (a:=b) (p:=p2) (cap:=c2)) (.c (j:=1) rfl .n)<|e_mv rfl<|e_p (zq rfl rfl)<|e_p (zq rfl rfl)<|e_p (zb rfl)<|e_p (zb rfl)<|zf<|zc<|ze<|zGa (X:=Unit) (fun x=>True) (fun x=>[(30,.bool (decide (((yd a).length≤2)∧((yd b).length≤2)))),(8,.int .u64 (((if (yd b).length≤2 then b else 0):Nat):Int)),(6,.int .u64 (((if (yd a).length≤2 then a else 0):Nat):Int)),(5,.slice none 0 0),(4,.slice none 0 0),(0,.slice p1 ((yd a).length) c1),(1,.slice p2 ((yd b).length) c2)]) (fun x=>[]) (fun x=>[slF (rI .u32) p1 c1 (yd a),slF (rI .u32) p2 c2 (yd b)]) ?_ ?_
  ·
   refine za<|e_mv rfl<|zW rfl rfl (zba rfl) (fun h1=> ?_) (fun h1=> ?_)
   ·
    refine e_mv rfl<|e_p (zn rfl rfl)<|zf ?_
    exact zia () (show True from by first|trivial|omega|simp_all) ((.e rfl (congrArg Value.bool cbu) (.of rfl)):SubM _ _) (ho:=(.n:PickO _ _ _)) ((.of [0,1] rfl):SelR _ _ _)
   ·
    refine e_no<|e_p (zn rfl rfl)<|zf ?_
    exact zia () (show True from by first|trivial|omega|simp_all) ((.e rfl (congrArg Value.bool cbu) (.of rfl)):SubM _ _) (ho:=(.n:PickO _ _ _)) ((.of [0,1] rfl):SelR _ _ _)
  ·
   rintro ⟨⟩ -
   try dsimp only
   refine zB rfl (fun hw=> ?_) (fun hw=> ?_)
   ·
    have ha18:=yW hw.1
    have hb18:=yW hw.2
    have hdn0:(0:Int)≤(a:Int) / (b:Int):=Int.ediv_nonneg om om
    have hdn1:(a:Int) / (b:Int)≤a:=Int.ediv_le_self _ om
    have hdm0:(0:Int)≤(a:Int)%(b:Int):=Int.emod_nonneg _ om
    have hdm1:(a:Int)%(b:Int)<b:=Int.emod_lt_of_pos _ om
    refine ze ?_
    have e2:(if (yd a).length≤2 then a else 0)=a:=by rw [if_pos hw.1]
    rw [e2]
    have e3:(if (yd b).length≤2 then b else 0)=b:=by rw [if_pos hw.2]
    rw [e3]
    refine zZ (OW:=[]) (O:=[]) 100000 mixed (.then (.then .ret)) kr<|e_dm 0 rfl rfl rfl<|e_dm 1 rfl rfl rfl<|e_pv 2 rfl rfl (zSa (z:=(((a / b):Nat):Int)) rfl rfl om (by rw [quoN (z:=(((a / b):Nat):Int)) om om];exact wu64 om))<|e_dm 4 rfl rfl rfl<|e_dm 5 rfl rfl rfl<|e_pv 6 rfl rfl (zTa (z:=(((a%b):Nat):Int)) rfl rfl om (remN om om))<|e_one 3 (zC rfl rfl rfl rfl (.c rfl .n) ce126 (zrb (n0:=(a / b)) (hn0:=cbo)) (.n) ?_)
    rintro ⟨p24,c25⟩ -
    dsimp only [aq,nq,cq]
    refine e_one 7 (zC rfl rfl rfl rfl (.c rfl .n) ce126 (zrb (n0:=(a%b)) (hn0:=cbo)) (.n) ?_)
    rintro ⟨p26,c27⟩ -
    dsimp only [aq,nq,cq]
    refine e_pv 8 rfl rfl (zb rfl)<|e_pv 9 rfl rfl (zb rfl)<|zX kr<|zc<|zJ<|zm ?_
    exact zqa yL (p24,c25,p26,c27) trivial (zo rfl) (zo rfl) rfl (ho:=(.n:PickO _ _ _)) ((.of [1,0] rfl):SelR _ _ _)
   ·
    refine zv<|zc<|ze<|ze<|za<|e_mv rfl<|e_p (zD ye rfl)<|e_p (zta rfl rfl)<|zf<|zc<|zB rfl (fun hl1=> ?_) (fun hl1=> ?_)
    ·
     have hbd:=Big.one_digit (by omega:(yd b).length=1)
     have hln0:=Big.zkf hb0
     have hmlt:=Nat.mod_lt a hb0
     have hdm0:(0:Int)≤(a:Int)%(b:Int):=Int.emod_nonneg _ om
     have hdm1:(a:Int)%(b:Int)<b:=Int.emod_lt_of_pos _ om
     refine ze<|za<|e_mv rfl<|e_mv rfl<|zV (x0:=((yd b).getD 0 0)) 1 0 rfl ye sz115 rfl rfl rfl (by first|rfl|assumption|(simp;done)|omega) rfl rfl (gD (d:=0) om) (fun b8 o9 hok10=> ?_)
     replace hok10:=zx.1 hok10
     refine e_ru (zj (j:=0) 0 ty115 rfl rfl rfl rfl) ?_
     have e11:(((yd b).getD 0 0):Int)=((b:Nat):Int):=by exact hbd
     rw [e11]
     refine zu rfl rfl (.c rfl (.c rfl .n)) ce168 (zHd (a:=a) (mm:=b) (p:=p1) (cap:=c1) (hb:=ass) (hm0:=ass) (hm1:=cbo)) (.c (j:=1) rfl .n) ?_
     rintro ⟨p212,c213⟩ -
     dsimp only [aq,nq,cq]
     refine e_mv rfl<|e_p (zq rfl rfl)<|e_p (zq rfl rfl)<|e_p (zb rfl)<|e_p (zb rfl)<|zf<|zc<|ze<|za<|e_mv rfl<|e_mv rfl<|e_p (zA (z:=(((a%b):Nat):Int)) rfl (by rw [yi];rfl) yj (wu64 om))<|zu rfl rfl (.c rfl .n) ce126 (zrb (n0:=(a%b)) (hn0:=cbo)) (.n) ?_
     rintro ⟨p214,c215⟩ -
     dsimp only [aq,nq,cq]
     refine e_p (zb rfl)<|e_p (zb rfl)<|zf<|zc<|zJ<|zm ?_
     exact zqa yL (p212,c213,p214,c215) trivial (zo rfl) (zo rfl) rfl (ho:=(.n:PickO _ _ _)) ((.of [1,0] rfl):SelR _ _ _)
    ·
     have hln0:=Big.zkf hb0
     refine zv<|zc<|ze<|za<|e_mv rfl<|e_mv rfl<|zu rfl rfl (.c rfl (.c rfl .n)) ce169 (zVf (a:=a) (b:=b) (p1:=p1) (c1:=c1) (p2:=p2) (c2:=c2) (hb1:=ass) (hb2:=ass) (hb3:=cbo) (hab:=cbo)) (.c (j:=0) rfl (.c (j:=1) rfl .n)) ?_
     rintro ⟨p316,c317,p418,c419⟩ -
     dsimp only [aq,nq,cq]
     refine e_p (zq rfl rfl)<|e_p (zq rfl rfl)<|e_p (zb rfl)<|e_p (zb rfl)<|zf<|zc<|zJ ?_
     exact zqa yL (p316,c317,p418,c419) trivial (zo rfl) (zo rfl) rfl (ho:=(.n:PickO _ _ _)) ((.of [0,1] rfl):SelR _ _ _)
theorem zwf {s:Bool} {p1:Option Addr} {n1:Nat} {c1:Nat} {l1:List Int} {t:Bool} {p2:Option Addr} {n2:Nat} {c2:Nat} {l2:List Int} (hn1:l1.length=n1) (hn2:l2.length=n2) (hb1:yq (yk s l1)≤4398046511104) (hb2:yq (yk t l2)≤4398046511104):Con yh 117 [.agg #[.bool s,.slice p1 n1 c1],.agg #[.bool t,.slice p2 n2 c2]] [] [slF (rI .u32) p1 c1 l1,slF (rI .u32) p2 c2 l2] (Y:=(Option Addr)×Nat) (fun y=>True) (fun y=> .agg #[.bool (decide (((Nat.gcd (yk s l1).natAbs (yk t l2).natAbs:Nat):Int)<0)),.slice (y.1) ((yd (((Nat.gcd (yk s l1).natAbs (yk t l2).natAbs:Nat):Int).natAbs)).length) (y.2)]) (fun y=>[]) (fun y=>[slF (rI .u32) (y.1) (y.2) (yd (((Nat.gcd (yk s l1).natAbs (yk t l2).natAbs:Nat):Int).natAbs))]):=by
 refine zl Tryz.func117 rfl rfl rfl (fun c=> ?_)
 show RunC _ _ _ _ _ [(0,.agg #[.bool s,.slice p1 n1 c1]),(1,.agg #[.bool t,.slice p2 n2 c2])] [] [slF (rI .u32) p1 c1 l1,slF (rI .u32) p2 c2 l2]
 refine zY 0 rfl (fun hL0=> ?_)
 refine zOa 0 rfl (fun hE0=> ?_)
 refine zY 1 rfl (fun hL1=> ?_)
 refine zOa 1 rfl (fun hE1=> ?_)
 have hnn1:yF l1:=fun g hg=>(zx.1 (hE0 g hg)).1
 have hnn2:yF l2:=fun g hg=>(zx.1 (hE1 g hg)).1
 obtain ⟨x1,hx1⟩:∃z,z=yk s l1:=⟨_,rfl⟩
 obtain ⟨x2,hx2⟩:∃z,z=yk t l2:=⟨_,rfl⟩
 unfold yq at hb1 hb2
 refine ze<|za<|zK rfl rfl (zU rfl rfl) (fun b1=> ?_)
 refine zK rfl rfl (zU rfl rfl) (fun b2=> ?_)
 refine zK rfl rfl (zw zr26 rfl) (fun b3=> ?_)
 refine zf<|zc<|ze<|zZ (OW:=[]) (O:=[boxA b3 26 [wz.b,wz.l],boxA b2 26 [.bool t,.slice p2 n2 c2],boxA b1 26 [.bool s,.slice p1 n1 c1]]) 100000 mixed (.then .ret) kr<|e_u 0 rfl rfl (zd 2 ty26 rfl rfl (.t2 .nil))<|e_u 2 rfl rfl (zd 1 ty26 rfl rfl (.t2 .nil))<|e_one 1 (zC rfl rfl rfl rfl (.c rfl .n) ce130 (zLa (s:=s) (p:=p1) (n:=n1) (cap:=c1) (l:=l1) (hn:=ass)) (.c (j:=0) rfl .n) ?_)
 rintro ⟨p24,c25⟩ -
 dsimp only [aq,nq,cq]
 refine e_one 3 (zC rfl rfl rfl rfl (.c rfl .n) ce130 (zLa (s:=t) (p:=p2) (n:=n2) (cap:=c2) (l:=l2) (hn:=ass)) (.c (j:=2) rfl .n) ?_)
 rintro ⟨p26,c27⟩ -
 dsimp only [aq,nq,cq]
 refine e_pv 4 rfl rfl (zb rfl)<|e_pv 5 rfl rfl (zb rfl)<|zX kr<|zc<|ze<|zt<|zea (X:=Nat×Nat×(Option Addr)×Nat×(Option Addr)×Nat) (fun x:Nat×Nat×(Option Addr)×Nat×(Option Addr)×Nat=>Nat.gcd x.1 x.2.1=Nat.gcd (yk s l1).natAbs (yk t l2).natAbs∧(yd x.1).length≤4398046511104∧(yd x.2.1).length≤4398046511104) (fun x=>[(6,.slice (x.2.2.2.2.1) ((yd (x.2.1)).length) (x.2.2.2.2.2)),(5,.slice (x.2.2.1) ((yd (x.1)).length) (x.2.2.2.1)),(4,yc (some ⟨b3,0,none⟩))]) (fun x=>[boxA b3 26 [wz.b,wz.l],boxA b2 26 [.bool t,.slice p2 n2 c2],boxA b1 26 [.bool s,.slice p1 n1 c1]]) (fun x=>[slF (rI .u32) (x.2.2.1) (x.2.2.2.1) (yd (x.1)),slF (rI .u32) (x.2.2.2.2.1) (x.2.2.2.2.2) (yd (x.2.1)),slF (rI .u32) p26 c27 (yd ((yk t l2).natAbs)),slF (rI .u32) p24 c25 (yd ((yk s l1).natAbs)),slF (rI .u32) p1 c1 l1,slF (rI .u32) p2 c2 l2]) (fun x:Nat×Nat×(Option Addr)×Nat×(Option Addr)×Nat=>x.2.1) ((yk s l1).natAbs,(yk t l2).natAbs,p24,c25,p26,c27) (show Nat.gcd ((yk s l1).natAbs) ((yk t l2).natAbs)=Nat.gcd (yk s l1).natAbs (yk t l2).natAbs∧(yd ((yk s l1).natAbs)).length≤4398046511104∧(yd ((yk t l2).natAbs)).length≤4398046511104 from by exact ⟨rfl,hb1,hb2⟩) ((.of rfl):SubM _ _) (ho:=((.of [0,0,0] rfl):PickO _ _ _)) ((.of [1,0,0,1,2,3] rfl):SelR _ _ _) ?_
 rintro ⟨a,b,pa,ca,pb,cb⟩ hI
 replace hI:Nat.gcd a b=Nat.gcd (yk s l1).natAbs (yk t l2).natAbs∧(yd a).length≤4398046511104∧(yd b).length≤4398046511104:=hI
 try dsimp only
 obtain ⟨hgc,hba,hbb⟩:=hI
 refine ze<|ze<|za<|e_mv rfl<|e_p (zD ye rfl)<|e_p (zna rfl rfl)<|zf<|zc<|zB rfl (fun hne=> ?_) (fun hne=> ?_)
 ·
  have hb0:0<b:=Nat.pos_of_ne_zero (fun e=>by rw [e] at hne;simp [Big.digs_zero] at hne)
  refine zv<|zc<|zt<|ze<|za<|e_mv rfl<|zQ rfl rfl (.c rfl .n) ce149 (zvc (a:=a) (p:=pa) (cap:=ca)) (.c (j:=0) rfl .n)<|e_mv rfl<|e_p (zq rfl rfl)<|e_p (zq rfl rfl)<|e_p (zb rfl)<|e_p (zb rfl)<|zf<|zc<|ze<|za<|e_mv rfl<|zQ rfl rfl (.c rfl .n) ce149 (zvc (a:=b) (p:=pb) (cap:=cb)) (.c (j:=1) rfl .n)<|e_mv rfl<|e_p (zq rfl rfl)<|e_p (zq rfl rfl)<|e_p (zb rfl)<|e_p (zb rfl)<|zf<|zc<|ze<|zGa (X:=Unit) (fun x=>True) (fun x=>[(33,.bool (decide (((yd a).length≤2)∧((yd b).length≤2)))),(9,.int .u64 (((if (yd b).length≤2 then b else 0):Nat):Int)),(7,.int .u64 (((if (yd a).length≤2 then a else 0):Nat):Int)),(6,.slice pb ((yd b).length) cb),(5,.slice pa ((yd a).length) ca),(4,yc (some ⟨b3,0,none⟩))]) (fun x=>[boxA b3 26 [wz.b,wz.l],boxA b2 26 [.bool t,.slice p2 n2 c2],boxA b1 26 [.bool s,.slice p1 n1 c1]]) (fun x=>[slF (rI .u32) pa ca (yd a),slF (rI .u32) pb cb (yd b),slF (rI .u32) p26 c27 (yd ((yk t l2).natAbs)),slF (rI .u32) p24 c25 (yd ((yk s l1).natAbs)),slF (rI .u32) p1 c1 l1,slF (rI .u32) p2 c2 l2]) ?_ ?_
  ·
   refine za<|e_mv rfl<|zW rfl rfl (zba rfl) (fun hw1=> ?_) (fun hw1=> ?_)
   ·
    refine e_mv rfl<|e_p (zn rfl rfl)<|zf ?_
    exact zia () (show True from by first|trivial|omega|simp_all) ((.e rfl (congrArg Value.bool cbu) (.of rfl)):SubM _ _) (ho:=((.of [0,0,0] rfl):PickO _ _ _)) ((.of [0,1,2,3,4,5] rfl):SelR _ _ _)
   ·
    refine e_no<|e_p (zn rfl rfl)<|zf ?_
    exact zia () (show True from by first|trivial|omega|simp_all) ((.e rfl (congrArg Value.bool cbu) (.of rfl)):SubM _ _) (ho:=((.of [0,0,0] rfl):PickO _ _ _)) ((.of [0,1,2,3,4,5] rfl):SelR _ _ _)
  ·
   rintro ⟨⟩ -
   try dsimp only
   refine zB rfl (fun hw=> ?_) (fun hw=> ?_)
   ·
    have ha18:=yW hw.1
    have hb18:=yW hw.2
    have e8:(if (yd a).length≤2 then a else 0)=a:=by rw [if_pos hw.1]
    rw [e8]
    have e9:(if (yd b).length≤2 then b else 0)=b:=by rw [if_pos hw.2]
    rw [e9]
    refine ze<|zt<|zea (X:=Nat×Nat) (fun x:Nat×Nat=>Nat.gcd x.1 x.2=Nat.gcd a b∧x.1<1000000000000000000∧x.2<1000000000000000000) (fun x=>[(9,.int .u64 ((x.2:Nat):Int)),(7,.int .u64 ((x.1:Nat):Int)),(6,.slice pb ((yd b).length) cb),(5,.slice pa ((yd a).length) ca),(4,yc (some ⟨b3,0,none⟩))]) (fun x=>[boxA b3 26 [wz.b,wz.l],boxA b2 26 [.bool t,.slice p2 n2 c2],boxA b1 26 [.bool s,.slice p1 n1 c1]]) (fun x=>[slF (rI .u32) pa ca (yd a),slF (rI .u32) pb cb (yd b),slF (rI .u32) p26 c27 (yd ((yk t l2).natAbs)),slF (rI .u32) p24 c25 (yd ((yk s l1).natAbs)),slF (rI .u32) p1 c1 l1,slF (rI .u32) p2 c2 l2]) (fun x:Nat×Nat=>x.2) (a,b) (show Nat.gcd a b=Nat.gcd a b∧a<1000000000000000000∧b<1000000000000000000 from by exact ⟨rfl,ha18,hb18⟩) ((.of rfl):SubM _ _) (ho:=((.of [0,0,0] rfl):PickO _ _ _)) ((.of [0,1,2,3,4,5] rfl):SelR _ _ _) ?_
    rintro ⟨q,r⟩ hJ
    replace hJ:Nat.gcd q r=Nat.gcd a b∧q<1000000000000000000∧r<1000000000000000000:=hJ
    try dsimp only
    obtain ⟨hgq,hq18,hr18⟩:=hJ
    have hmr:=Nat.mod_le q r
    refine ze<|ze<|za<|e_mv rfl<|e_p (zna rfl rfl)<|zf<|zc<|zB rfl (fun hy=> ?_) (fun hy=> ?_)
    ·
     refine zv<|zc<|zt<|zZ (OW:=[]) (O:=[boxA b3 26 [wz.b,wz.l],boxA b2 26 [.bool t,.slice p2 n2 c2],boxA b1 26 [.bool s,.slice p1 n1 c1]]) 100000 mixed (.block (.then (.block (.then (.then (.block (.then (.block (.then .ret))))))))) kr<|e_dm 0 rfl rfl rfl<|e_dm 1 rfl rfl rfl<|e_dm 2 rfl rfl rfl<|e_pv 3 rfl rfl (zTa (z:=(((q%r):Nat):Int)) rfl rfl om (remN om om))<|e_pv 4 rfl rfl (zb rfl)<|e_pv 5 rfl rfl (zb rfl)<|zX kr<|zM<|zaa (r,(q%r)) (show Nat.gcd r (q%r)=Nat.gcd a b∧r<1000000000000000000∧(q%r)<1000000000000000000 from by exact ⟨by rw [Big.gcd_rest,hgq],hr18,by omega⟩) (by exact Nat.mod_lt q om) ((.of rfl):SubM _ _) (ho:=((.of [0,0,0] rfl):PickO _ _ _)) ((.of [0,1,2,3,4,5] rfl):SelR _ _ _)
    ·
     have hrz:r=0:=by omega
     have hfin:q=Nat.gcd (yk s l1).natAbs (yk t l2).natAbs:=by rw [← hgc,←hgq,hrz,Nat.gcd_zero_right]
     refine zda<|zi<|zi<|zr<|zc<|ze<|za<|e_mv rfl<|zu rfl rfl (.c rfl .n) ce126 (zrb (n0:=q) (hn0:=cbo)) (.n) ?_
     rintro ⟨p210,c211⟩ -
     dsimp only [aq,nq,cq]
     refine zu rfl rfl (.c rfl (.c rfl .n)) ce125 (zxa (s:=false) (a:=q) (p:=p210) (cap:=c211)) (.c (j:=0) rfl .n) ?_
     rintro ⟨p212,c213⟩ -
     dsimp only [aq,nq,cq]
     refine zk 0 rfl rfl rfl rfl rfl sz26 rfl (.t2 .nil) .z<|zf<|zc<|zJ<|zm<|zS<|zm<|zS<|zm ?_
     exact zy Tryz.results117 (p212,c213) trivial (zp 0 ty26 rfl rfl (.t2 .nil)) (by rw [← hfin];rfl) (ho:=(.n:PickO _ _ _)) ((.e (j:=0) rfl (by rw [← hfin];rfl) .n):SelR _ _ _)
   ·
    refine zv<|zc<|ze<|za<|e_mv rfl<|e_mv rfl<|zu rfl rfl (.c rfl (.c rfl .n)) ce150 (zpe (a:=a) (b:=b) (p1:=pa) (c1:=ca) (p2:=pb) (c2:=cb) (hb1:=cbo) (hb2:=cbo) (hb0:=cbo)) (.c (j:=0) rfl (.c (j:=1) rfl .n)) ?_
    rintro ⟨p314,c315,p416,c417⟩ -
    dsimp only [aq,nq,cq]
    refine e_mv rfl<|e_p (zq rfl rfl)<|e_p (zq rfl rfl)<|e_p (zb rfl)<|e_p (zb rfl)<|zf<|zc<|za<|e_mv rfl<|e_mv rfl<|e_p (zb rfl)<|e_p (zb rfl)<|zf<|zM<|zaa (b,(a%b),pb,cb,p416,c417) (show Nat.gcd b (a%b)=Nat.gcd (yk s l1).natAbs (yk t l2).natAbs∧(yd b).length≤4398046511104∧(yd (a%b)).length≤4398046511104 from by exact ⟨by rw [Big.gcd_rest,hgc],hbb,Nat.le_trans (yN (Nat.le_of_lt (Nat.mod_lt a hb0))) hbb⟩) (by exact Nat.mod_lt a hb0) ((.e rfl (by first|rfl|(congr 1;omega)|simp_all) (.c rfl (.c rfl .n))):SubM _ _) (ho:=((.of [0,0,0] rfl):PickO _ _ _)) ((.c (j:=3) rfl (.e (j:=1) rfl (by first|rfl|simp_all) (.of [4,5,6,7] rfl))):SelR _ _ _)
 ·
  have hbz:b=0:=yI.1 om
  have hfin:a=Nat.gcd (yk s l1).natAbs (yk t l2).natAbs:=by rw [← hgc,hbz,Nat.gcd_zero_right]
  refine zda<|zi<|zi<|zr<|zc<|ze<|za<|e_mv rfl<|zu rfl rfl (.c rfl .n) ce151 (zkd (a:=a) (p:=pa) (cap:=ca) (hb:=cbo)) (.c (j:=0) rfl .n) ?_
  rintro ⟨p218,c219⟩ -
  dsimp only [aq,nq,cq]
  refine zu rfl rfl (.c rfl (.c rfl .n)) ce125 (zxa (s:=false) (a:=a) (p:=p218) (cap:=c219)) (.c (j:=0) rfl .n) ?_
  rintro ⟨p220,c221⟩ -
  dsimp only [aq,nq,cq]
  refine zk 0 rfl rfl rfl rfl rfl sz26 rfl (.t2 .nil) .z<|zf<|zc<|zJ ?_
  exact zy Tryz.results117 (p220,c221) trivial (zp 0 ty26 rfl rfl (.t2 .nil)) (by rw [← hfin];rfl) (ho:=(.n:PickO _ _ _)) ((.e (j:=0) rfl (by rw [← hfin];rfl) .n):SelR _ _ _)
theorem zWf {x1:Int} {x2:Int} {p1:Option Addr} {c1:Nat} {p2:Option Addr} {c2:Nat} (hb1:yq x1≤4398046511104) (hb2:yq x2≤4398046511104):Con yh 117 [.agg #[.bool (decide ((x1)<0)),.slice (p1) ((yd ((x1).natAbs)).length) (c1)],.agg #[.bool (decide ((x2)<0)),.slice (p2) ((yd ((x2).natAbs)).length) (c2)]] [] [slF (rI .u32) (p1) (c1) (yd ((x1).natAbs)),slF (rI .u32) (p2) (c2) (yd ((x2).natAbs))] (Y:=(Option Addr)×(Nat)) (fun y=>True) (fun y=> .agg #[.bool (decide ((((Nat.gcd x1.natAbs x2.natAbs:Nat):Int))<0)),.slice (y.1) ((yd ((((Nat.gcd x1.natAbs x2.natAbs:Nat):Int)).natAbs)).length) (y.2)]) (fun y=>[]) (fun y=>[slF (rI .u32) (y.1) (y.2) (yd ((((Nat.gcd x1.natAbs x2.natAbs:Nat):Int)).natAbs))]):=by
  have h:= @zwf (decide ((x1)<0)) p1 (yd (x1).natAbs).length c1 (yd (x1).natAbs) (decide ((x2)<0)) p2 (yd (x2).natAbs).length c2 (yd (x2).natAbs) rfl rfl (by rw [yr];exact hb1) (by rw [yr];exact hb2)
  rw [yr,yr] at h
  exact h
theorem zqe {w1:Wd} {w2:Wd} {x1:Int} {x2:Int} (hb1:yq x1≤4398046511104) (hb2:yq x2≤4398046511104):Con yh 117 [.agg #[w1.b,w1.l],.agg #[w2.b,w2.l]] [] [zF w1 (x1),zF w2 (x2)] (Y:=(Wd)) (fun y=>True) (fun y=> .agg #[y.b,y.l]) (fun y=>[]) (fun y=>[zF y (((Nat.gcd x1.natAbs x2.natAbs:Nat):Int))]):=by
  exact zMb (zWb (fun p1 c1 p2 c2=>zWf hb1 hb2))
end Go.Proofs.YtkohlohbogpooaaGreat.Sp
namespace Go.Proofs.YtkohlohbogpooaaGreat.Sp
open Go
set_option linter.unusedVariables false
set_option maxRecDepth 100000
set_option maxHeartbeats 8000000
theorem zSd {x1:Int} {x2:Int} {p1:Option Addr} {c1:Nat} {p2:Option Addr} {c2:Nat} (hb1:yq x1≤4398046511104) (hb2:yq x2≤4398046511104) (hy:x2≠0):Con yh 132 [.agg #[.bool (decide (x1<0)),.slice p1 ((yd ((x1).natAbs)).length) c1],.agg #[.bool (decide (x2<0)),.slice p2 ((yd ((x2).natAbs)).length) c2]] [] [slF (rI .u32) p1 c1 (yd ((x1).natAbs)),slF (rI .u32) p2 c2 (yd ((x2).natAbs))] (Y:=(Option Addr)×Nat×(Option Addr)×Nat) (fun y=>True) (fun y=> .tuple #[.agg #[.bool (decide ((Big.fq x1 x2)<0)),.slice (y.1) ((yd ((Big.fq x1 x2).natAbs)).length) (y.2.1)],.agg #[.bool (decide ((Big.fr x1 x2)<0)),.slice (y.2.2.1) ((yd ((Big.fr x1 x2).natAbs)).length) (y.2.2.2)],ya yb 0]) (fun y=>[]) (fun y=>[slF (rI .u32) (y.1) (y.2.1) (yd ((Big.fq x1 x2).natAbs)),slF (rI .u32) (y.2.2.1) (y.2.2.2) (yd ((Big.fr x1 x2).natAbs))]):=by
 refine zl Tryz.func132 rfl rfl rfl (fun c=> ?_)
 show RunC _ _ _ _ _ [(0,.agg #[.bool (decide (x1<0)),.slice p1 ((yd ((x1).natAbs)).length) c1]),(1,.agg #[.bool (decide (x2<0)),.slice p2 ((yd ((x2).natAbs)).length) c2])] [] [slF (rI .u32) p1 c1 (yd ((x1).natAbs)),slF (rI .u32) p2 c2 (yd ((x2).natAbs))]
 refine zY 0 rfl (fun hL0=> ?_)
 refine zY 1 rfl (fun hL1=> ?_)
 unfold yq at hb1 hb2
 have hd1:=Nat.div_le_self x1.natAbs x2.natAbs
 have hd2:=Nat.mod_lt x1.natAbs (show 0<x2.natAbs by omega)
 have hl1:=yN hd1
 have hl2:=yN (Nat.le_of_lt hd2)
 refine ze<|za<|zK rfl rfl (zU rfl rfl) (fun b1=> ?_)
 refine zK rfl rfl (zU rfl rfl) (fun b2=> ?_)
 refine zK rfl rfl (zw zr26 rfl) (fun b3=> ?_)
 refine zK rfl rfl (zw zr26 rfl) (fun b4=> ?_)
 refine e_p (zb rfl)<|zf<|zc<|ze<|zZ (OW:=[]) (O:=[boxA b4 26 [wz.b,wz.l],boxA b3 26 [wz.b,wz.l],boxA b2 26 [.bool (decide (x2<0)),.slice p2 ((yd ((x2).natAbs)).length) c2],boxA b1 26 [.bool (decide (x1<0)),.slice p1 ((yd ((x1).natAbs)).length) c1]]) 100000 mixed (.then .ret) kr<|e_u 0 rfl rfl (zd 3 ty26 rfl rfl (.t2 .nil))<|e_u 2 rfl rfl (zd 2 ty26 rfl rfl (.t2 .nil))<|e_one 1 (zC rfl rfl rfl rfl (.c rfl .n) ce130 (zhb (z:=x1) (p:=p1) (cap:=c1)) (.c (j:=0) rfl .n) ?_)
 rintro ⟨p25,c26⟩ -
 dsimp only [aq,nq,cq]
 refine e_one 3 (zC rfl rfl rfl rfl (.c rfl .n) ce130 (zhb (z:=x2) (p:=p2) (cap:=c2)) (.c (j:=2) rfl .n) ?_)
 rintro ⟨p27,c28⟩ -
 dsimp only [aq,nq,cq]
 refine e_pv 4 rfl rfl (zb rfl)<|e_pv 5 rfl rfl (zb rfl)<|zX kr<|zc<|ze<|ze<|za<|e_mv rfl<|e_p (zD ye rfl)<|e_p (zta rfl rfl)<|zf<|zc<|zB rfl (fun h9=> ?_) (fun h9=> ?_)
 ·
  exact absurd (yI.1 (show (yd x2.natAbs).length=0 by omega)) om
 ·
  refine zv<|zc<|ze<|za<|e_mv rfl<|e_mv rfl<|zu rfl rfl (.c rfl (.c rfl .n)) ce150 (zpe (a:=(x1).natAbs) (b:=(x2).natAbs) (p1:=p25) (c1:=c26) (p2:=p27) (c2:=c28) (hb1:=by first|rfl|assumption|omega|(decide +kernel)) (hb2:=by first|rfl|assumption|omega|(decide +kernel)) (hb0:=by first|rfl|assumption|omega|(decide +kernel))) (.c (j:=1) rfl (.c (j:=0) rfl .n)) ?_
  rintro ⟨p310,c311,p412,c413⟩ -
  dsimp only [aq,nq,cq]
  refine e_mv rfl<|e_p (zq rfl rfl)<|e_p (zq rfl rfl)<|e_p (zb rfl)<|e_p (zb rfl)<|zf<|zc<|ze<|za<|e_mv rfl<|zu rfl rfl (.c rfl .n) ce151 (zkd (a:=((x1).natAbs)%((x2).natAbs)) (p:=p412) (cap:=c413) (hb:=by first|rfl|assumption|omega|(decide +kernel))) (.c (j:=1) rfl .n) ?_
  rintro ⟨p214,c215⟩ -
  dsimp only [aq,nq,cq]
  refine e_p (zb rfl)<|zf<|zc<|ze<|ze<|za<|e_mv rfl<|e_p (zD ye rfl)<|e_p (zna rfl rfl)<|zW rfl rfl (zba rfl) (fun hpos=> ?_) (fun hpos=> ?_)
  ·
   refine e_p (zh yl rfl sz4 rfl rfl)<|e_ru (zg 3 ty4 rfl rfl rfl)<|e_p (zh yl rfl sz4 rfl rfl)<|e_ru (zg 2 ty4 rfl rfl rfl)<|e_p (zJa yC rfl rfl)<|e_p (zn rfl rfl)<|zf<|zc<|zB rfl (fun hadj=> ?_) (fun hadj=> ?_)
   ·
    have hsg:(decide (decide (x1<0)≠decide (x2<0)))=true:=decide_eq_true hadj
    have hr0:x1.natAbs%x2.natAbs≠0:=fun e=>by have h9:=hpos;rw [e,Big.digs_zero] at h9;exact absurd h9 dd
    refine za<|e_mv rfl<|zra rfl rfl (zR (enc:=fun z:Int=>[.int .u32 z]) (ok:=InK .u32) (h1:=fun _=>rfl) (h2:=fun _=>rfl) (k:=1) ye inf115 rfl dd dd dd (.c (x:=1) rfl rfl (fun _ _=>by exact zx.2 om) .n)) (fun b16 _=> ?_)
    refine zga 0 rfl .z ?_
    have e17:[1]=yd 1:=by exact (Big.digs_one (s:=1) dd dd).symm
    rw [e17]
    have e18:(.slice (some ⟨b16,0,none⟩) 1 1:Value)= .slice (some ⟨b16,0,none⟩) ((yd 1).length) 1:=by rfl
    rw [e18]
    refine zu rfl rfl (.c rfl (.c rfl .n)) ce158 (zFd (a:=((x1).natAbs) / ((x2).natAbs)) (b:=1) (p1:=p310) (c1:=c311) (p2:=some ⟨b16,0,none⟩) (c2:=1) (hb1:=by first|rfl|assumption|omega|(decide +kernel)) (hb2:=by first|rfl|assumption|omega|(decide +kernel))) (.c (j:=2) rfl (.c (j:=0) rfl .n)) ?_
    rintro ⟨p319,c320⟩ -
    dsimp only [aq,nq,cq]
    refine e_mv rfl<|e_mv rfl<|zu rfl rfl (.c rfl (.c rfl .n)) ce159 (zJc (a:=(x2).natAbs) (b:=(((x1).natAbs)%((x2).natAbs))) (p1:=p27) (c1:=c28) (p2:=p214) (c2:=c215) (hb1:=by first|rfl|assumption|omega|(decide +kernel)) (hb2:=by first|rfl|assumption|omega|(decide +kernel)) (hab:=by first|rfl|assumption|omega|(decide +kernel))) (.c (j:=5) rfl (.c (j:=2) rfl .n)) ?_
    rintro ⟨p321,c322⟩ -
    dsimp only [aq,nq,cq]
    refine e_p (zb rfl)<|e_p (zb rfl)<|zf<|zc<|ze<|zma (.c (i:=2) rfl (.c (i:=1) rfl (.c (i:=0) rfl (.c (i:=0) rfl (.c (i:=0) rfl .n)))))<|zZ (OW:=[boxA b3 26 [wz.b,wz.l],boxA b4 26 [wz.b,wz.l]]) (O:=[emA,boxA b2 26 [.bool (decide (x2<0)),.slice p2 ((yd ((x2).natAbs)).length) c2],boxA b1 26 [.bool (decide (x1<0)),.slice p1 ((yd ((x1).natAbs)).length) c1]]) 11 mixed (.then .ret) kr<|e_pv 0 rfl rfl (zh yl rfl sz4 rfl rfl)<|e_uw 1 rfl rfl (zg 4 ty4 rfl rfl rfl)<|e_pv 2 rfl rfl (zh yl rfl sz4 rfl rfl)<|e_uw 3 rfl rfl (zg 3 ty4 rfl rfl rfl)<|e_pv 4 rfl rfl (zJa yC rfl rfl)<|e_dm 5 rfl rfl rfl<|e_pv 7 rfl rfl (zh yl rfl sz4 rfl rfl)<|e_uw 8 rfl rfl (zg 3 ty4 rfl rfl rfl)<|e_dm 9 rfl rfl rfl<|e_one 6 (zC rfl rfl rfl rfl (.c rfl (.c rfl .n)) ce125 (zxa (s:=decide (decide (x1<0)≠decide (x2<0))) (a:=(((x1).natAbs) / ((x2).natAbs))+1) (p:=p319) (cap:=c320)) (.c (j:=1) rfl .n) ?_)
    rintro ⟨p223,c224⟩ -
    dsimp only [aq,nq,cq]
    refine e_one 10 (zC rfl rfl rfl rfl (.c rfl (.c rfl .n)) ce125 (zxa (s:=decide (x2<0)) (a:=((x2).natAbs) - (((x1).natAbs)%((x2).natAbs))) (p:=p321) (cap:=c322)) (.c (j:=1) rfl .n) ?_)
    rintro ⟨p225,c226⟩ -
    dsimp only [aq,nq,cq]
    refine e_one 11 (zG kr rfl rfl rfl rfl rfl sz26 rfl (.t2 .nil) ?_)
    refine zFa (zfa (i:=1) rfl)<|e_one 12 (zG kr rfl rfl rfl rfl rfl sz26 rfl (.t2 .nil) ?_)
    refine e_pv 13 rfl rfl (zb rfl)<|zX kr<|zc<|zJ ?_
    have hz1:yw (decide (decide (x1<0)≠decide (x2<0))) ((x1.natAbs / x2.natAbs+1:Nat):Int)=Big.fq x1 x2:=by rw [hsg];exact (Big.fq_odd hy hadj hr0).1
    have hz2:yw (decide (x2<0)) ((x2.natAbs - x1.natAbs%x2.natAbs:Nat):Int)=Big.fr x1 x2:=(Big.fq_odd hy hadj hr0).2
    exact zwc Tryz.results132 (p223,c224,p225,c226) trivial (zp 1 ty26 rfl rfl (.t2 .nil)) (zp 0 ty26 rfl rfl (.t2 .nil)) (zo rfl) (by rw [hz1,hz2]) (ho:=(.n:PickO _ _ _)) ((.e (j:=1) rfl (by rw [hz1]) (.e (j:=0) rfl (by rw [hz2]) .n)):SelR _ _ _)
   ·
    refine zv<|zc<|ze<|zma (.c (i:=1) rfl (.c (i:=0) rfl (.c (i:=0) rfl (.c (i:=0) rfl .n))))<|zZ (OW:=[boxA b3 26 [wz.b,wz.l],boxA b4 26 [wz.b,wz.l]]) (O:=[boxA b2 26 [.bool (decide (x2<0)),.slice p2 ((yd ((x2).natAbs)).length) c2],boxA b1 26 [.bool (decide (x1<0)),.slice p1 ((yd ((x1).natAbs)).length) c1]]) 11 mixed (.then .ret) kr<|e_pv 0 rfl rfl (zh yl rfl sz4 rfl rfl)<|e_uw 1 rfl rfl (zg 3 ty4 rfl rfl rfl)<|e_pv 2 rfl rfl (zh yl rfl sz4 rfl rfl)<|e_uw 3 rfl rfl (zg 2 ty4 rfl rfl rfl)<|e_pv 4 rfl rfl (zJa yC rfl rfl)<|e_dm 5 rfl rfl rfl<|e_pv 7 rfl rfl (zh yl rfl sz4 rfl rfl)<|e_uw 8 rfl rfl (zg 2 ty4 rfl rfl rfl)<|e_dm 9 rfl rfl rfl<|e_one 6 (zC rfl rfl rfl rfl (.c rfl (.c rfl .n)) ce125 (zxa (s:=decide (decide (x1<0)≠decide (x2<0))) (a:=((x1).natAbs) / ((x2).natAbs)) (p:=p310) (cap:=c311)) (.c (j:=1) rfl .n) ?_)
    rintro ⟨p227,c228⟩ -
    dsimp only [aq,nq,cq]
    refine e_one 10 (zC rfl rfl rfl rfl (.c rfl (.c rfl .n)) ce125 (zxa (s:=decide (x2<0)) (a:=(((x1).natAbs)%((x2).natAbs))) (p:=p214) (cap:=c215)) (.c (j:=1) rfl .n) ?_)
    rintro ⟨p229,c230⟩ -
    dsimp only [aq,nq,cq]
    refine e_one 11 (zG kr rfl rfl rfl rfl rfl sz26 rfl (.t2 .nil) ?_)
    refine zFa (zfa (i:=1) rfl)<|e_one 12 (zG kr rfl rfl rfl rfl rfl sz26 rfl (.t2 .nil) ?_)
    refine e_pv 13 rfl rfl (zb rfl)<|zX kr<|zc<|zJ ?_
    have hsg:(decide (decide (x1<0)≠decide (x2<0)))=false:=decide_eq_false hadj
    have hz1:yw (decide (decide (x1<0)≠decide (x2<0))) ((x1.natAbs / x2.natAbs:Nat):Int)=Big.fq x1 x2:=by rw [hsg];exact (Big.fq_same hy (Decidable.not_not.1 hadj)).1
    have hz2:yw (decide (x2<0)) ((x1.natAbs%x2.natAbs:Nat):Int)=Big.fr x1 x2:=(Big.fq_same hy (Decidable.not_not.1 hadj)).2
    exact zwc Tryz.results132 (p227,c228,p229,c230) trivial (zp 1 ty26 rfl rfl (.t2 .nil)) (zp 0 ty26 rfl rfl (.t2 .nil)) (zo rfl) (by rw [hz1,hz2]) (ho:=(.n:PickO _ _ _)) ((.e (j:=1) rfl (by rw [hz1]) (.e (j:=0) rfl (by rw [hz2]) .n)):SelR _ _ _)
  ·
   refine e_no<|e_no<|e_no<|e_no<|e_no<|e_p (zn rfl rfl)<|zf<|zc<|zua rfl rfl<|zv<|zc<|ze<|zma (.c (i:=1) rfl (.c (i:=0) rfl (.c (i:=0) rfl (.c (i:=0) rfl .n))))<|zZ (OW:=[boxA b3 26 [wz.b,wz.l],boxA b4 26 [wz.b,wz.l]]) (O:=[boxA b2 26 [.bool (decide (x2<0)),.slice p2 ((yd ((x2).natAbs)).length) c2],boxA b1 26 [.bool (decide (x1<0)),.slice p1 ((yd ((x1).natAbs)).length) c1]]) 11 mixed (.then .ret) kr<|e_pv 0 rfl rfl (zh yl rfl sz4 rfl rfl)<|e_uw 1 rfl rfl (zg 3 ty4 rfl rfl rfl)<|e_pv 2 rfl rfl (zh yl rfl sz4 rfl rfl)<|e_uw 3 rfl rfl (zg 2 ty4 rfl rfl rfl)<|e_pv 4 rfl rfl (zJa yC rfl rfl)<|e_dm 5 rfl rfl rfl<|e_pv 7 rfl rfl (zh yl rfl sz4 rfl rfl)<|e_uw 8 rfl rfl (zg 2 ty4 rfl rfl rfl)<|e_dm 9 rfl rfl rfl<|e_one 6 (zC rfl rfl rfl rfl (.c rfl (.c rfl .n)) ce125 (zxa (s:=decide (decide (x1<0)≠decide (x2<0))) (a:=((x1).natAbs) / ((x2).natAbs)) (p:=p310) (cap:=c311)) (.c (j:=1) rfl .n) ?_)
   rintro ⟨p231,c232⟩ -
   dsimp only [aq,nq,cq]
   refine e_one 10 (zC rfl rfl rfl rfl (.c rfl (.c rfl .n)) ce125 (zxa (s:=decide (x2<0)) (a:=(((x1).natAbs)%((x2).natAbs))) (p:=p214) (cap:=c215)) (.c (j:=1) rfl .n) ?_)
   rintro ⟨p233,c234⟩ -
   dsimp only [aq,nq,cq]
   refine e_one 11 (zG kr rfl rfl rfl rfl rfl sz26 rfl (.t2 .nil) ?_)
   refine zFa (zfa (i:=1) rfl)<|e_one 12 (zG kr rfl rfl rfl rfl rfl sz26 rfl (.t2 .nil) ?_)
   refine e_pv 13 rfl rfl (zb rfl)<|zX kr<|zc<|zJ ?_
   have hr0:x1.natAbs%x2.natAbs=0:=yI.1 om
   have hz:yw (decide (decide (x1<0)≠decide (x2<0))) ((x1.natAbs / x2.natAbs:Nat):Int)=Big.fq x1 x2∧yw (decide (x2<0)) ((x1.natAbs%x2.natAbs:Nat):Int)=Big.fr x1 x2:=by by_cases h:decide (x1<0)=decide (x2<0);rw [decide_eq_false (not_not_intro h)];exact Big.fq_same hy h;rw [decide_eq_true h];exact Big.fq_even hy h hr0
   exact zwc Tryz.results132 (p231,c232,p233,c234) trivial (zp 1 ty26 rfl rfl (.t2 .nil)) (zp 0 ty26 rfl rfl (.t2 .nil)) (zo rfl) (by rw [hz.1,hz.2]) (ho:=(.n:PickO _ _ _)) ((.e (j:=1) rfl (by rw [hz.1]) (.e (j:=0) rfl (by rw [hz.2]) .n)):SelR _ _ _)
theorem zib {w1:Wd} {w2:Wd} {x1:Int} {x2:Int} (hb1:yq x1≤4398046511104) (hb2:yq x2≤4398046511104) (hy:x2≠0):Con yh 132 [.agg #[w1.b,w1.l],.agg #[w2.b,w2.l]] [] [zF w1 (x1),zF w2 (x2)] (Y:=(Wd)×(Wd)) (fun y=>True) (fun y=> .tuple #[.agg #[y.1.b,y.1.l],.agg #[y.2.b,y.2.l],ya yb (0)]) (fun y=>[]) (fun y=>[zF y.1 (Big.fq x1 x2),zF y.2 (Big.fr x1 x2)]):=by
  exact znf (zWb (fun p1 c1 p2 c2=>zSd hb1 hb2 hy))
theorem znc {x1:Int} {x2:Int} {p1:Option Addr} {c1:Nat} {p2:Option Addr} {c2:Nat}:Con yh 88 [.agg #[.bool (decide (x1<0)),.slice p1 ((yd ((x1).natAbs)).length) c1],.agg #[.bool (decide (x2<0)),.slice p2 ((yd ((x2).natAbs)).length) c2]] [] [slF (rI .u32) p1 c1 (yd ((x1).natAbs)),slF (rI .u32) p2 c2 (yd ((x2).natAbs))] (Y:=Unit) (fun y=>True) (fun y=> ya yb (yH x1 x2)) (fun y=>[]) (fun y=>[]):=by
 refine zl Tryz.func88 rfl rfl rfl (fun c=> ?_)
 show RunC _ _ _ _ _ [(0,.agg #[.bool (decide (x1<0)),.slice p1 ((yd ((x1).natAbs)).length) c1]),(1,.agg #[.bool (decide (x2<0)),.slice p2 ((yd ((x2).natAbs)).length) c2])] [] [slF (rI .u32) p1 c1 (yd ((x1).natAbs)),slF (rI .u32) p2 c2 (yd ((x2).natAbs))]
 refine zY 0 rfl (fun hL0=> ?_)
 refine zY 1 rfl (fun hL1=> ?_)
 have hcb:=Big.cmp_b (x1.natAbs:Int) (x2.natAbs:Int)
 refine ze<|za<|zK rfl rfl (zU rfl rfl) (fun b1=> ?_)
 refine zK rfl rfl (zU rfl rfl) (fun b2=> ?_)
 refine e_p (zb rfl)<|zf<|zc<|ze<|ze<|zZ (OW:=[]) (O:=[boxA b2 26 [.bool (decide (x2<0)),.slice p2 ((yd ((x2).natAbs)).length) c2],boxA b1 26 [.bool (decide (x1<0)),.slice p1 ((yd ((x1).natAbs)).length) c1]]) 100000 mixed (.then (.then .ret)) kr<|e_u 0 rfl rfl (zd 1 ty26 rfl rfl (.t2 .nil))<|e_u 2 rfl rfl (zd 0 ty26 rfl rfl (.t2 .nil))<|e_one 1 (zMa rfl rfl rfl rfl (.c rfl .n) ce92 (zKc (z:=x1) (p:=p1) (cap:=c1)) (.c (j:=0) rfl .n) ?_)
 refine e_one 3 (zMa rfl rfl rfl rfl (.c rfl .n) ce92 (zKc (z:=x2) (p:=p2) (cap:=c2)) (.c (j:=1) rfl .n) ?_)
 refine e_pv 4 rfl rfl (zb rfl)<|e_pv 5 rfl rfl (zb rfl)<|zX kr<|zc<|ze<|za<|e_mv rfl<|e_mv rfl<|e_p (zAa rfl rfl)<|zf<|zc<|zB rfl (fun hs=> ?_) (fun hs=> ?_)
 ·
  refine ze<|za<|e_mv rfl<|e_mv rfl<|zQ rfl rfl (.c rfl (.c rfl .n)) ce128 (zIc (u:=(x1).sign) (v:=(x2).sign)) (.n)<|e_p (zb rfl)<|zf<|zc<|zJ<|zm ?_
  exact zy Tryz.results88 () trivial (zo rfl) (by rw [Big.cmp_signs hs]) (ho:=(.n:PickO _ _ _)) (.n:SelR _ _ _)
 ·
  refine zv<|zc<|ze<|zZ (OW:=[]) (O:=[boxA b2 26 [.bool (decide (x2<0)),.slice p2 ((yd ((x2).natAbs)).length) c2],boxA b1 26 [.bool (decide (x1<0)),.slice p1 ((yd ((x1).natAbs)).length) c1]]) 100000 mixed (.then .ret) kr<|e_u 0 rfl rfl (zd 1 ty26 rfl rfl (.t2 .nil))<|e_u 2 rfl rfl (zd 0 ty26 rfl rfl (.t2 .nil))<|e_one 1 (zC rfl rfl rfl rfl (.c rfl .n) ce130 (zhb (z:=x1) (p:=p1) (cap:=c1)) (.c (j:=0) rfl .n) ?_)
  rintro ⟨p23,c24⟩ -
  dsimp only [aq,nq,cq]
  refine e_one 3 (zC rfl rfl rfl rfl (.c rfl .n) ce130 (zhb (z:=x2) (p:=p2) (cap:=c2)) (.c (j:=2) rfl .n) ?_)
  rintro ⟨p25,c26⟩ -
  dsimp only [aq,nq,cq]
  refine e_one 4 (zMa rfl rfl rfl rfl (.c rfl (.c rfl .n)) ce129 (zRb (a:=(x1).natAbs) (b:=(x2).natAbs) (p1:=p23) (c1:=c24) (p2:=p25) (c2:=c26)) (.c (j:=1) rfl (.c (j:=0) rfl .n)) ?_)
  refine e_pv 5 rfl rfl (zb rfl)<|zX kr<|zc<|ze<|ze<|za<|e_p (zh yl rfl sz4 rfl rfl)<|e_ru (zg 1 ty4 rfl rfl rfl)<|zf<|zc<|zPb rfl (fun hn=> ?_) (fun hn=> ?_)
  ·
   refine ze<|za<|e_mv rfl<|e_p (zXe (z:=(-(yH (((x1).natAbs):Int) (((x2).natAbs):Int)))) rfl (w64 om))<|e_p (zb rfl)<|zf<|zc<|zJ<|zm ?_
   exact zy Tryz.results88 () trivial (zo rfl) (by rw [Big.cmp_neg hs (by simpa using hn)]) (ho:=(.n:PickO _ _ _)) (.n:SelR _ _ _)
  ·
   refine zv<|zc<|ze<|za<|e_mv rfl<|e_p (zb rfl)<|zf<|zc<|zJ ?_
   exact zy Tryz.results88 () trivial (zo rfl) (by rw [Big.cmp_pos hs (by simpa using hn)]) (ho:=(.n:PickO _ _ _)) (.n:SelR _ _ _)
theorem zId {w1:Wd} {w2:Wd} {x1:Int} {x2:Int}:Con yh 88 [.agg #[w1.b,w1.l],.agg #[w2.b,w2.l]] [] [zF w1 (x1),zF w2 (x2)] (Y:=Unit) (fun y=>True) (fun y=> ya yb (yH x1 x2)) (fun y=>[]) (fun y=>[]):=by
  exact zWb (fun p1 c1 p2 c2=>znc)
theorem zTd {s:Bool} {p:Option Addr} {n:Nat} {cap:Nat} {l:List Int} (hn:l.length=n) (hln:yq (yk s l)≤4398046511104):Con yh 134 [.agg #[.bool s,.slice p n cap]] [] [slF (rI .u32) p cap l] (Y:=(Option Addr)×Nat) (fun y=>True) (fun y=> .agg #[.bool (decide ((- yk s l)<0)),.slice (y.1) ((yd ((- yk s l).natAbs)).length) (y.2)]) (fun y=>[]) (fun y=>[slF (rI .u32) (y.1) (y.2) (yd ((- yk s l).natAbs))]):=by
 refine zl Tryz.func134 rfl rfl rfl (fun c=> ?_)
 show RunC _ _ _ _ _ [(0,.agg #[.bool s,.slice p n cap])] [] [slF (rI .u32) p cap l]
 refine zY 0 rfl (fun hL0=> ?_)
 refine zOa 0 rfl (fun hE0=> ?_)
 have hnn:yF l:=fun g hg=>(zx.1 (hE0 g hg)).1
 unfold yq at hln
 refine ze<|za<|zK rfl rfl (zU rfl rfl) (fun b1=> ?_)
 refine zK rfl rfl (zw zr26 rfl) (fun b2=> ?_)
 refine zf<|zc<|ze<|zZ (OW:=[boxA b2 26 [wz.b,wz.l]]) (O:=[boxA b1 26 [.bool s,.slice p n cap]]) 7 mixed (.then .ret) kr<|e_pv 0 rfl rfl (zh yl rfl sz4 rfl rfl)<|e_uw 1 rfl rfl (zg 1 ty4 rfl rfl rfl)<|e_pv 2 rfl rfl (zAb rfl)<|e_uw 3 rfl rfl (zd 1 ty26 rfl rfl (.t2 .nil))<|e_one 4 (zC rfl rfl rfl rfl (.c rfl .n) ce130 (zLa (s:=s) (p:=p) (n:=n) (cap:=cap) (l:=l) (hn:=ass)) (.c (j:=0) rfl .n) ?_)
 rintro ⟨p23,c24⟩ -
 dsimp only [aq,nq,cq]
 refine e_one 5 (zC rfl rfl rfl rfl (.c rfl .n) ce151 (zkd (a:=(yk s l).natAbs) (p:=p23) (cap:=c24) (hb:=cbb)) (.c (j:=0) rfl .n) ?_)
 rintro ⟨p25,c26⟩ -
 dsimp only [aq,nq,cq]
 refine e_one 6 (zC rfl rfl rfl rfl (.c rfl (.c rfl .n)) ce125 (zxa (s:= !s) (a:=((yk s l).natAbs)) (p:=p25) (cap:=c26)) (.c (j:=0) rfl .n) ?_)
 rintro ⟨p27,c28⟩ -
 dsimp only [aq,nq,cq]
 refine e_one 7 (zG kr rfl rfl rfl rfl rfl sz26 rfl (.t2 .nil) ?_)
 refine zX kr<|zc<|zJ ?_
 have hz:yw (!s) ((yk s l).natAbs:Int)= - yk s l:=by rw [Big.sg_not,yV hnn]
 exact zy Tryz.results134 (p27,c28) trivial (zp 0 ty26 rfl rfl (.t2 .nil)) (by rw [hz]) (ho:=(.n:PickO _ _ _)) ((.e (j:=0) rfl (by rw [hz]) .n):SelR _ _ _)
theorem zld {z:Int} {p:Option Addr} {cap:Nat} (hln:yq z≤4398046511104):Con yh 134 [.agg #[.bool (decide ((z)<0)),.slice (p) ((yd ((z).natAbs)).length) (cap)]] [] [slF (rI .u32) (p) (cap) (yd ((z).natAbs))] (Y:=(Option Addr)×(Nat)) (fun y=>True) (fun y=> .agg #[.bool (decide ((- z)<0)),.slice (y.1) ((yd ((- z).natAbs)).length) (y.2)]) (fun y=>[]) (fun y=>[slF (rI .u32) (y.1) (y.2) (yd ((- z).natAbs))]):=by
  have h:= @zTd (decide ((z)<0)) p (yd (z).natAbs).length cap (yd (z).natAbs) rfl (by rw [yr];exact hln)
  rw [yr] at h
  exact h
theorem zmd {w1:Wd} {x1:Int} (hln:yq x1≤4398046511104):Con yh 134 [.agg #[w1.b,w1.l]] [] [zF w1 (x1)] (Y:=(Wd)) (fun y=>True) (fun y=> .agg #[y.b,y.l]) (fun y=>[]) (fun y=>[zF y (- x1)]):=by
  exact zMb (zXc (fun p c=>zld hln))
end Go.Proofs.YtkohlohbogpooaaGreat.Sp
namespace Go.Proofs.YtkohlohbogpooaaGreat.Sp
open Go
set_option linter.unusedVariables false
set_option maxRecDepth 100000
set_option maxHeartbeats 8000000
theorem zic {s:Bool} {p1:Option Addr} {n1:Nat} {c1:Nat} {l1:List Int} {t:Bool} {p2:Option Addr} {n2:Nat} {c2:Nat} {l2:List Int} (hn1:l1.length=n1) (hn2:l2.length=n2) (hm1:n1≤1099511627776) (hm2:n2≤1099511627776):Con yh 79 [.agg #[.bool s,.slice p1 n1 c1,.bool t,.slice p2 n2 c2]] [] [slF (rI .u32) p1 c1 l1,slF (rI .u32) p2 c2 l2] (Y:=Unit) (fun y=>True) (fun y=> .bool (decide (Big.qok ((s,l1),(t,l2))))) (fun y=>[]) (fun y=>[]):=by
 refine zl Tryz.func79 rfl rfl rfl (fun c=> ?_)
 show RunC _ _ _ _ _ [(0,.agg #[.bool s,.slice p1 n1 c1,.bool t,.slice p2 n2 c2])] [] [slF (rI .u32) p1 c1 l1,slF (rI .u32) p2 c2 l2]
 refine zY 0 rfl (fun hL0=> ?_)
 refine zOa 0 rfl (fun hE0=> ?_)
 refine zY 1 rfl (fun hL1=> ?_)
 refine zOa 1 rfl (fun hE1=> ?_)
 have hnn1:yF l1:=fun g hg=>(zx.1 (hE0 g hg)).1
 have hnn2:yF l2:=fun g hg=>(zx.1 (hE1 g hg)).1
 have hb1:yq (yk s l1)≤n1:=by have:=yR (s:=s) hnn1;omega
 have hb2:yq (yk t l2)≤n2:=by have:=yR (s:=t) hnn2;omega
 refine ze<|za<|zK rfl rfl (zU rfl rfl) (fun b1=> ?_)
 refine e_p (zb rfl)<|zf<|zc<|ze<|zGa (X:=Unit) (fun x=>True) (fun x=>[(18,.bool (decide (¬(yT s l1∧yT t l2∧0<yk t l2)))),(2,.bool false),(1,yc (some ⟨b1,0,none⟩))]) (fun x=>[boxA b1 28 [.bool s,.slice p1 n1 c1,.bool t,.slice p2 n2 c2]]) (fun x=>[slF (rI .u32) p1 c1 l1,slF (rI .u32) p2 c2 l2]) ?_ ?_
 ·
  refine za<|e_p (zh yf rfl sz26 rfl rfl)<|e_ru (zd 0 ty26 rfl rfl (.t2 .nil))<|zQ rfl rfl (.c rfl .n) ce116 (zbc (s:=s) (p:=p1) (n:=n1) (cap:=c1) (l:=l1) (hn:=ass)) (.c (j:=0) rfl .n)<|e_p (znb rfl)<|zW rfl rfl (zba rfl) (fun h2=> ?_) (fun h2=> ?_)
  ·
   refine e_no<|e_no<|e_no<|e_no<|e_p (zn rfl rfl)<|e_mv rfl<|e_no<|e_no<|e_no<|e_no<|e_p (zn rfl rfl)<|zf ?_
   exact zia () (show True from by first|trivial|omega|simp_all) ((.e rfl (congrArg Value.bool (by simp_all)) (.c rfl (.c rfl .n))):SubM _ _) (ho:=((.c (i:=0) rfl .n):PickO _ _ _)) ((.of [0,1] rfl):SelR _ _ _)
  ·
   refine e_p (zh yf rfl sz26 rfl rfl)<|e_ru (zd 0 ty26 rfl rfl (.s2 (.t2 .nil)))<|zQ rfl rfl (.c rfl .n) ce116 (zbc (s:=t) (p:=p2) (n:=n2) (cap:=c2) (l:=l2) (hn:=ass)) (.c (j:=1) rfl .n)<|e_p (znb rfl)<|e_p (zn rfl rfl)<|zW rfl rfl (zba rfl) (fun h3=> ?_) (fun h3=> ?_)
   ·
    refine e_no<|e_no<|e_no<|e_no<|e_p (zn rfl rfl)<|zf ?_
    exact zia () (show True from by first|trivial|omega|simp_all) ((.e rfl (congrArg Value.bool (by simp_all)) (.c rfl (.c rfl .n))):SubM _ _) (ho:=((.c (i:=0) rfl .n):PickO _ _ _)) ((.of [0,1] rfl):SelR _ _ _)
   ·
    refine e_p (zh yf rfl sz26 rfl rfl)<|e_ru (zd 0 ty26 rfl rfl (.s2 (.t2 .nil)))<|zQ rfl rfl (.c rfl .n) ce92 (zoe (s:=t) (p:=p2) (n:=n2) (cap:=c2) (l:=l2) (hn:=ass)) (.c (j:=1) rfl .n)<|e_p (zWe rfl rfl)<|e_p (zn rfl rfl)<|zf ?_
    exact zia () (show True from by first|trivial|omega|simp_all) ((.e rfl (congrArg Value.bool (by exact decide_eq_decide.2 (Big.sgn_le (Decidable.not_not.1 ‹_›) (Decidable.not_not.1 ‹_›)))) (.c rfl (.c rfl .n))):SubM _ _) (ho:=((.c (i:=0) rfl .n):PickO _ _ _)) ((.of [0,1] rfl):SelR _ _ _)
 ·
  rintro ⟨⟩ -
  try dsimp only
  refine zB rfl (fun hc=> ?_) (fun hc=> ?_)
  ·
   refine ze<|za<|e_p (zb rfl)<|zf<|zc<|zJ<|zm ?_
   exact zy Tryz.results79 () trivial (zo rfl) (congrArg Value.bool (decide_eq_false (fun h=>hc ⟨h.1,h.2.1,h.2.2.1⟩))) (ho:=(.n:PickO _ _ _)) (.n:SelR _ _ _)
  ·
   refine zv<|zc<|ze<|za<|e_p (zh yf rfl sz26 rfl rfl)<|e_ru (zd 0 ty26 rfl rfl (.t2 .nil))<|e_p (zh yf rfl sz26 rfl rfl)<|e_ru (zd 0 ty26 rfl rfl (.s2 (.t2 .nil)))<|zu rfl rfl (.c rfl (.c rfl .n)) ce117 (zwf (s:=s) (p1:=p1) (n1:=n1) (c1:=c1) (l1:=l1) (t:=t) (p2:=p2) (n2:=n2) (c2:=c2) (l2:=l2) (hn1:=ass) (hn2:=ass) (hb1:=by first|rfl|assumption|omega|(rw [ym];omega)|(decide +kernel)) (hb2:=by first|rfl|assumption|omega|(rw [ym];omega)|(decide +kernel))) (.c (j:=0) rfl (.c (j:=1) rfl .n)) ?_
   rintro ⟨p34,c35⟩ -
   dsimp only [aq,nq,cq]
   refine zu rfl rfl (.c rfl .n) ce86 (zig (z:=1) (hz:=by first|rfl|assumption|omega|(rw [ym];omega)|(decide +kernel))) (.n) ?_
   rintro ⟨p26,c27⟩ -
   dsimp only [aq,nq,cq]
   refine zQ rfl rfl (.c rfl (.c rfl .n)) ce88 (znc (x1:=((Nat.gcd (yk s l1).natAbs (yk t l2).natAbs:Nat):Int)) (x2:=1) (p1:=p34) (c1:=c35) (p2:=p26) (c2:=c27)) (.c (j:=1) rfl (.c (j:=0) rfl .n))<|e_p (zta rfl rfl)<|e_p (zb rfl)<|zf<|zc<|zJ ?_
   exact zy Tryz.results79 () trivial (zo rfl) (congrArg Value.bool (decide_eq_decide.2 (Big.qok_gcd (x:=((s,l1),(t,l2))) (Decidable.not_not.1 hc)).symm)) (ho:=(.n:PickO _ _ _)) (.n:SelR _ _ _)
theorem zvb {w1:Wd} {w2:Wd} {x1:Int} {x2:Int} (hl1:yq x1≤1099511627776) (hl2:yq x2≤1099511627776) (hd:x2≠0):Con yh 94 [.agg #[w1.b,w1.l],.agg #[w2.b,w2.l]] [] [zF w1 x1,zF w2 x2] (Y:=Wd×Wd) (fun y=>True) (fun y=> .agg #[y.1.b,y.1.l,y.2.b,y.2.l]) (fun y=>[]) (fun y=>[qF true y.1 y.2 (Rat.divInt x1 x2)]):=by
 refine zl Tryz.func94 rfl rfl rfl (fun c=> ?_)
 show RunC _ _ _ _ _ [(0,.agg #[w1.b,w1.l]),(1,.agg #[w2.b,w2.l])] [] [zF w1 x1,zF w2 x2]
 refine ze<|za<|zK rfl rfl (zU rfl rfl) (fun b1=> ?_)
 refine zK rfl rfl (zU rfl rfl) (fun b2=> ?_)
 refine zK rfl rfl (zw zr28 rfl) (fun b3=> ?_)
 refine zf<|zc<|ze<|ze<|za<|e_ru (zd 1 ty26 rfl rfl (.t2 .nil))<|zQ rfl rfl (.c rfl .n) ce92 (zGb (w1:=w2) (x1:=x2)) (.c (j:=1) rfl .n)<|e_p (zT rfl rfl)<|zf<|zc<|zB rfl (fun hneg=> ?_) (fun hneg=> ?_)
 ·
  have hs:x2<0:=by rcases Big.sign_le (x:=x2) with h|h|h <;> omega
  have hgp:=yG (n:= -x1) (d:= -x2) om
  have hgl:=Big.zyd (n:= -x1) (d:= -x2) om
  rw [ym] at hgl
  obtain ⟨hr1,hr2⟩:=Big.red_flip (n:=x1) hs
  refine zma (.c (i:=2) rfl (.c (i:=1) rfl (.c (i:=0) rfl .n)))<|zZ (OW:=[boxA b1 26 [w1.b,w1.l],boxA b2 26 [w2.b,w2.l]]) (O:=[boxA b3 28 (cw [wz,wz])]) 4 mixed (.then .ret) kr<|e_uw 0 rfl rfl (zd 0 ty26 rfl rfl (.t2 .nil))<|e_uw 2 rfl rfl (zd 1 ty26 rfl rfl (.t2 .nil))<|e_one 1 (zC rfl rfl rfl rfl (.c rfl .n) ce134 (zmd (w1:=w1) (x1:=x1) (hln:=by first|rfl|assumption|omega|(rw [ym];omega)|(decide +kernel))) (.c (j:=0) rfl .n) ?_)
  rintro w34 -
  dsimp only [aq,nq,cq]
  refine e_one 3 (zC rfl rfl rfl rfl (.c rfl .n) ce134 (zmd (w1:=w2) (x1:=x2) (hln:=by first|rfl|assumption|omega|(rw [ym];omega)|(decide +kernel))) (.c (j:=2) rfl .n) ?_)
  rintro w35 -
  dsimp only [aq,nq,cq]
  refine e_one 4 (zG kr rfl rfl rfl rfl rfl sz26 rfl (.t2 .nil) ?_)
  refine zFa (zfa (i:=1) rfl)<|e_one 5 (zG kr rfl rfl rfl rfl rfl sz26 rfl (.t2 .nil) ?_)
  refine zX kr<|zc<|ze<|za<|e_ru (zd 1 ty26 rfl rfl (.t2 .nil))<|e_ru (zd 0 ty26 rfl rfl (.t2 .nil))<|zu rfl rfl (.c rfl (.c rfl .n)) ce117 (zqe (w1:=w34) (w2:=w35) (x1:= - x1) (x2:= - x2) (hb1:=by first|rfl|assumption|omega|(rw [ym];omega)|(decide +kernel)) (hb2:=by first|rfl|assumption|omega|(rw [ym];omega)|(decide +kernel))) (.c (j:=1) rfl (.c (j:=0) rfl .n)) ?_
  rintro w36 -
  dsimp only [aq,nq,cq]
  refine zK rfl rfl (zw zr26 rfl) (fun b7=> ?_)
  refine zk 0 rfl rfl rfl rfl rfl sz26 rfl (.t2 .nil) .z<|zf<|zc<|ze<|za<|e_ru (zd 2 ty26 rfl rfl (.t2 .nil))<|e_ru (zd 0 ty26 rfl rfl (.t2 .nil))<|zu rfl rfl (.c rfl (.c rfl .n)) ce132 (zib (w1:=w34) (w2:=w36) (x1:= - x1) (x2:=((Nat.gcd (- x1).natAbs (- x2).natAbs:Nat):Int)) (hb1:=by first|rfl|assumption|omega|(rw [ym];omega)|(decide +kernel)) (hb2:=by first|rfl|assumption|omega|(rw [ym];omega)|(decide +kernel)) (hy:=by first|rfl|assumption|omega|(rw [ym];omega)|(decide +kernel))) (.c (j:=2) rfl (.c (j:=0) rfl .n)) ?_
  rintro ⟨w38,w49⟩ -
  dsimp only [aq,nq,cq]
  refine e_mv rfl<|e_p (zq rfl rfl)<|e_p (zq rfl rfl)<|e_p (zq rfl rfl)<|zk 2 rfl rfl rfl rfl rfl sz26 rfl (.t2 .nil) (.s (.s .z))<|zf<|zc<|ze<|za<|e_ru (zd 1 ty26 rfl rfl (.t2 .nil))<|e_ru (zd 0 ty26 rfl rfl (.t2 .nil))<|zu rfl rfl (.c rfl (.c rfl .n)) ce132 (zib (w1:=w35) (w2:=w36) (x1:= - x2) (x2:=((Nat.gcd (- x1).natAbs (- x2).natAbs:Nat):Int)) (hb1:=by first|rfl|assumption|omega|(rw [ym];omega)|(decide +kernel)) (hb2:=by first|rfl|assumption|omega|(rw [ym];omega)|(decide +kernel)) (hy:=by first|rfl|assumption|omega|(rw [ym];omega)|(decide +kernel))) (.c (j:=3) rfl (.c (j:=2) rfl .n)) ?_
  rintro ⟨w310,w411⟩ -
  dsimp only [aq,nq,cq]
  refine e_mv rfl<|e_p (zq rfl rfl)<|e_p (zq rfl rfl)<|e_p (zq rfl rfl)<|zk 1 rfl rfl rfl rfl rfl sz26 rfl (.t2 .nil) (.s .z)<|zf<|zc<|ze<|za<|e_ru (zd 2 ty26 rfl rfl (.t2 .nil))<|e_ru (zd 1 ty26 rfl rfl (.t2 .nil))<|e_p (zN zr28 rfl yf (.c sz26 (.c sz26 .n)) (.c rfl (.c rfl .n)) (.c rfl rfl rfl (.t2 .nil) (.c rfl rfl rfl (.s2 (.t2 .nil)) .n)))<|zk 3 rfl rfl rfl rfl rfl sz28 rfl (.t4 .nil) (.s (.s (.s .z)))<|zf<|zc<|zJ<|zjb (qF true w38 w310 (Rat.divInt x1 x2)) (qF_close 2 0 rfl rfl (by exact ⟨hr1,hr2,Nat.le_trans (yS hd) om⟩)) ?_
  exact zy Tryz.results94 (w38,w310) trivial (zp 3 ty28 rfl rfl (.t4 .nil)) rfl (ho:=(.n:PickO _ _ _)) ((.c (j:=0) rfl .n):SelR _ _ _)
 ·
  have hs:0<x2:=by rcases Big.sign_le (x:=x2) with h|h|h <;> omega
  have hgp:=yG (n:=x1) (d:=x2) om
  have hgl:=Big.zyd (n:=x1) (d:=x2) om
  obtain ⟨hr1,hr2⟩:=Big.red_pos (n:=x1) hs
  refine zv<|zc<|ze<|za<|e_ru (zd 2 ty26 rfl rfl (.t2 .nil))<|e_ru (zd 1 ty26 rfl rfl (.t2 .nil))<|zu rfl rfl (.c rfl (.c rfl .n)) ce117 (zqe (w1:=w1) (w2:=w2) (x1:=x1) (x2:=x2) (hb1:=by first|rfl|assumption|omega|(rw [ym];omega)|(decide +kernel)) (hb2:=by first|rfl|assumption|omega|(rw [ym];omega)|(decide +kernel))) (.c (j:=0) rfl (.c (j:=1) rfl .n)) ?_
  rintro w312 -
  dsimp only [aq,nq,cq]
  refine zK rfl rfl (zw zr26 rfl) (fun b13=> ?_)
  refine zk 0 rfl rfl rfl rfl rfl sz26 rfl (.t2 .nil) .z<|zf<|zc<|ze<|za<|e_ru (zd 3 ty26 rfl rfl (.t2 .nil))<|e_ru (zd 0 ty26 rfl rfl (.t2 .nil))<|zu rfl rfl (.c rfl (.c rfl .n)) ce132 (zib (w1:=w1) (w2:=w312) (x1:=x1) (x2:=((Nat.gcd x1.natAbs x2.natAbs:Nat):Int)) (hb1:=by first|rfl|assumption|omega|(rw [ym];omega)|(decide +kernel)) (hb2:=by first|rfl|assumption|omega|(rw [ym];omega)|(decide +kernel)) (hy:=by first|rfl|assumption|omega|(rw [ym];omega)|(decide +kernel))) (.c (j:=1) rfl (.c (j:=0) rfl .n)) ?_
  rintro ⟨w314,w415⟩ -
  dsimp only [aq,nq,cq]
  refine e_mv rfl<|e_p (zq rfl rfl)<|e_p (zq rfl rfl)<|e_p (zq rfl rfl)<|zk 3 rfl rfl rfl rfl rfl sz26 rfl (.t2 .nil) (.s (.s (.s .z)))<|zf<|zc<|ze<|za<|e_ru (zd 2 ty26 rfl rfl (.t2 .nil))<|e_ru (zd 0 ty26 rfl rfl (.t2 .nil))<|zu rfl rfl (.c rfl (.c rfl .n)) ce132 (zib (w1:=w2) (w2:=w312) (x1:=x2) (x2:=((Nat.gcd x1.natAbs x2.natAbs:Nat):Int)) (hb1:=by first|rfl|assumption|omega|(rw [ym];omega)|(decide +kernel)) (hb2:=by first|rfl|assumption|omega|(rw [ym];omega)|(decide +kernel)) (hy:=by first|rfl|assumption|omega|(rw [ym];omega)|(decide +kernel))) (.c (j:=4) rfl (.c (j:=2) rfl .n)) ?_
  rintro ⟨w316,w417⟩ -
  dsimp only [aq,nq,cq]
  refine e_mv rfl<|e_p (zq rfl rfl)<|e_p (zq rfl rfl)<|e_p (zq rfl rfl)<|zk 2 rfl rfl rfl rfl rfl sz26 rfl (.t2 .nil) (.s (.s .z))<|zf<|zc<|ze<|za<|e_ru (zd 3 ty26 rfl rfl (.t2 .nil))<|e_ru (zd 2 ty26 rfl rfl (.t2 .nil))<|e_p (zN zr28 rfl yf (.c sz26 (.c sz26 .n)) (.c rfl (.c rfl .n)) (.c rfl rfl rfl (.t2 .nil) (.c rfl rfl rfl (.s2 (.t2 .nil)) .n)))<|zk 1 rfl rfl rfl rfl rfl sz28 rfl (.t4 .nil) (.s .z)<|zf<|zc<|zJ<|zjb (qF true w314 w316 (Rat.divInt x1 x2)) (qF_close 2 0 rfl rfl (by exact ⟨hr1,hr2,Nat.le_trans (yS hd) om⟩)) ?_
  exact zy Tryz.results94 (w314,w316) trivial (zp 1 ty28 rfl rfl (.t4 .nil)) rfl (ho:=(.n:PickO _ _ _)) ((.c (j:=0) rfl .n):SelR _ _ _)
theorem zBe {s:Bool} {p1:Option Addr} {n1:Nat} {c1:Nat} {l1:List Int} {t:Bool} {p2:Option Addr} {n2:Nat} {c2:Nat} {l2:List Int} (hn1:l1.length=n1) (hn2:l2.length=n2) (hm1:n1≤1099511627776) (hm2:n2≤1099511627776) (hq:Big.qok ((s,l1),(t,l2))):Con yh 127 [.agg #[.bool s,.slice p1 n1 c1,.bool t,.slice p2 n2 c2]] [] [slF (rI .u32) p1 c1 l1,slF (rI .u32) p2 c2 l2] (Y:=(Option Addr)×Nat×(Option Addr)×Nat) (fun y=>True) (fun y=> .agg #[.bool (decide (((yO ((s,l1),(t,l2))).num)<0)),.slice (y.1) ((yd (((yO ((s,l1),(t,l2))).num).natAbs)).length) (y.2.1),.bool (decide ((((yO ((s,l1),(t,l2))).den:Nat):Int)<0)),.slice (y.2.2.1) ((yd ((((yO ((s,l1),(t,l2))).den:Nat):Int).natAbs)).length) (y.2.2.2)]) (fun y=>[]) (fun y=>[slF (rI .u32) (y.1) (y.2.1) (yd (((yO ((s,l1),(t,l2))).num).natAbs)),slF (rI .u32) (y.2.2.1) (y.2.2.2) (yd ((((yO ((s,l1),(t,l2))).den:Nat):Int).natAbs))]):=by
 refine zl Tryz.func127 rfl rfl rfl (fun c=> ?_)
 show RunC _ _ _ _ _ [(0,.agg #[.bool s,.slice p1 n1 c1,.bool t,.slice p2 n2 c2])] [] [slF (rI .u32) p1 c1 l1,slF (rI .u32) p2 c2 l2]
 refine zY 0 rfl (fun hL0=> ?_)
 refine zOa 0 rfl (fun hE0=> ?_)
 refine zY 1 rfl (fun hL1=> ?_)
 refine zOa 1 rfl (fun hE1=> ?_)
 have hnn1:yF l1:=fun g hg=>(zx.1 (hE0 g hg)).1
 have hnn2:yF l2:=fun g hg=>(zx.1 (hE1 g hg)).1
 have hb1:yq (yk s l1)≤n1:=by have:=yR (s:=s) hnn1;omega
 have hb2:yq (yk t l2)≤n2:=by have:=yR (s:=t) hnn2;omega
 refine ze<|za<|zK rfl rfl (zU rfl rfl) (fun b1=> ?_)
 refine zK rfl rfl (zw zr28 rfl) (fun b2=> ?_)
 refine zf<|zc<|ze<|zZ (OW:=[boxA b2 28 (cw [wz,wz])]) (O:=[boxA b1 28 [.bool s,.slice p1 n1 c1,.bool t,.slice p2 n2 c2]]) 9 mixed (.then .ret) kr<|e_pv 0 rfl rfl (zh yf rfl sz26 rfl rfl)<|e_uw 1 rfl rfl (zd 1 ty26 rfl rfl (.t2 .nil))<|e_pv 4 rfl rfl (zh yf rfl sz26 rfl rfl)<|e_uw 5 rfl rfl (zd 1 ty26 rfl rfl (.s2 (.t2 .nil)))<|e_one 2 (zC rfl rfl rfl rfl (.c rfl .n) ce134 (zTd (s:=s) (p:=p1) (n:=n1) (cap:=c1) (l:=l1) (hn:=ass) (hln:=by first|rfl|assumption|omega|(rw [ym];omega)|(decide +kernel))) (.c (j:=0) rfl .n) ?_)
 rintro ⟨p23,c24⟩ -
 dsimp only [aq,nq,cq]
 refine e_one 3 (zC rfl rfl rfl rfl (.c rfl .n) ce134 (zld (z:= - yk s l1) (p:=p23) (cap:=c24) (hln:=by first|rfl|assumption|omega|(rw [ym];omega)|(decide +kernel))) (.c (j:=0) rfl .n) ?_)
 rintro ⟨p25,c26⟩ -
 dsimp only [aq,nq,cq]
 refine e_one 6 (zC rfl rfl rfl rfl (.c rfl .n) ce134 (zTd (s:=t) (p:=p2) (n:=n2) (cap:=c2) (l:=l2) (hn:=ass) (hln:=by first|rfl|assumption|omega|(rw [ym];omega)|(decide +kernel))) (.c (j:=3) rfl .n) ?_)
 rintro ⟨p27,c28⟩ -
 dsimp only [aq,nq,cq]
 refine e_one 7 (zC rfl rfl rfl rfl (.c rfl .n) ce134 (zld (z:= - yk t l2) (p:=p27) (cap:=c28) (hln:=by first|rfl|assumption|omega|(rw [ym];omega)|(decide +kernel))) (.c (j:=0) rfl .n) ?_)
 rintro ⟨p29,c210⟩ -
 dsimp only [aq,nq,cq]
 refine e_pv 8 rfl rfl (zN zr28 rfl yf (.c sz26 (.c sz26 .n)) (.c rfl (.c rfl .n)) (.c rfl rfl rfl (.t2 .nil) (.c rfl rfl rfl (.s2 (.t2 .nil)) .n)))<|e_one 9 (zG kr rfl rfl rfl rfl rfl sz28 rfl (.t4 .nil) ?_)
 refine zX kr<|zc<|zJ ?_
 have hz1: - - yk s l1=(yO ((s,l1),(t,l2))).num:=by rw [Int.neg_neg];exact (yU hq).1.symm
 have hz2: - - yk t l2=(((yO ((s,l1),(t,l2))).den:Nat):Int):=by rw [Int.neg_neg];exact (yU hq).2.symm
 exact zy Tryz.results127 (p25,c26,p29,c210) trivial (zp 0 ty28 rfl rfl (.t4 .nil)) (by rw [hz1,hz2]) (ho:=(.n:PickO _ _ _)) ((.e (j:=2) rfl (by rw [hz1]) (.e (j:=0) rfl (by rw [hz2]) .n)):SelR _ _ _)
theorem zUd {s:Bool} {p1:Option Addr} {n1:Nat} {c1:Nat} {l1:List Int} {t:Bool} {p2:Option Addr} {n2:Nat} {c2:Nat} {l2:List Int} (hn1:l1.length=n1) (hn2:l2.length=n2) (hm1:n1≤1099511627776) (hm2:n2≤1099511627776) (hq:Big.qok ((s,l1),(t,l2))) (hl:yB (yO ((s,l1),(t,l2)))≤1099511627776):Con yh 127 [.agg #[.bool (s),.slice (p1) (n1) (c1),.bool (t),.slice (p2) (n2) (c2)]] [] [slF (rI .u32) (p1) (c1) (l1),slF (rI .u32) (p2) (c2) (l2)] (Y:=(Wd)×(Wd)) (fun y=>True) (fun y=> .agg #[y.1.b,y.1.l,y.2.b,y.2.l]) (fun y=>[]) (fun y=>[qF true y.1 y.2 (yO ((s,l1),(t,l2)))]):=by
  exact con_qr (zBe hn1 hn2 hm1 hm2 hq) rfl rfl hl
theorem zQa {z:Int} (hz: -9223372036854775808≤z∧z≤9223372036854775807):Con yh 56 [ya yb z] [] [] (Y:=Wd×Wd) (fun y=>True) (fun y=> .agg #[y.1.b,y.1.l,y.2.b,y.2.l]) (fun y=>[]) (fun y=>[qF true y.1 y.2 ((z:Int):Rat)]):=by
 refine zl Tryz.func56 rfl rfl rfl (fun c=> ?_)
 show RunC _ _ _ _ _ [(0,ya yb z)] [] []
 refine ze<|za<|zK rfl rfl (zw zr28 rfl) (fun b1=> ?_)
 refine zf<|zc<|ze<|za<|e_mv rfl<|zu rfl rfl (.c rfl .n) ce86 (zjd (z:=z) (hz:=ass)) (.n) ?_
 rintro w32 -
 dsimp only [aq,nq,cq]
 refine zu rfl rfl (.c rfl .n) ce86 (zjd (z:=1) (hz:=by first|rfl|assumption|omega|(rw [ym];omega)|(decide +kernel))) (.n) ?_
 rintro w33 -
 dsimp only [aq,nq,cq]
 refine e_p (zN zr28 rfl yf (.c sz26 (.c sz26 .n)) (.c rfl (.c rfl .n)) (.c rfl rfl rfl (.t2 .nil) (.c rfl rfl rfl (.s2 (.t2 .nil)) .n)))<|zk 0 rfl rfl rfl rfl rfl sz28 rfl (.t4 .nil) .z<|zf<|zc<|zJ<|zjb (qF true w32 w33 ((z:Int):Rat)) (qF_close 1 0 rfl rfl (by exact ⟨(Rat.num_intCast z).symm,by rw [Rat.den_intCast];rfl,Nat.le_trans (Big.hq_64 hz.1 hz.2) dd⟩)) ?_
 exact zy Tryz.results56 (w32,w33) trivial (zp 0 ty28 rfl rfl (.t4 .nil)) rfl (ho:=(.n:PickO _ _ _)) ((.c (j:=0) rfl .n):SelR _ _ _)
theorem zCe {s:Bool} {p1:Option Addr} {n1:Nat} {c1:Nat} {l1:List Int} {t:Bool} {p2:Option Addr} {n2:Nat} {c2:Nat} {l2:List Int} (hn1:l1.length=n1) (hn2:l2.length=n2) (hm1:n1≤1099511627776) (hm2:n2≤1099511627776):Con yh 87 [.agg #[.bool s,.slice p1 n1 c1,.bool t,.slice p2 n2 c2]] [] [slF (rI .u32) p1 c1 l1,slF (rI .u32) p2 c2 l2] (Y:=Wd×Wd) (fun y=>True) (fun y=> .agg #[y.1.b,y.1.l,y.2.b,y.2.l]) (fun y=>[]) (fun y=>[qF true y.1 y.2 (yO ((s,l1),(t,l2)))]):=by
 refine zl Tryz.func87 rfl rfl rfl (fun c=> ?_)
 show RunC _ _ _ _ _ [(0,.agg #[.bool s,.slice p1 n1 c1,.bool t,.slice p2 n2 c2])] [] [slF (rI .u32) p1 c1 l1,slF (rI .u32) p2 c2 l2]
 refine zY 0 rfl (fun hL0=> ?_)
 refine zOa 0 rfl (fun hE0=> ?_)
 refine zY 1 rfl (fun hL1=> ?_)
 refine zOa 1 rfl (fun hE1=> ?_)
 have hnn1:yF l1:=fun g hg=>(zx.1 (hE0 g hg)).1
 have hnn2:yF l2:=fun g hg=>(zx.1 (hE1 g hg)).1
 have hb1:yq (yk s l1)≤n1:=by have:=yR (s:=s) hnn1;omega
 have hb2:yq (yk t l2)≤n2:=by have:=yR (s:=t) hnn2;omega
 refine ze<|za<|zK rfl rfl (zU rfl rfl) (fun b1=> ?_)
 refine zK rfl rfl (zw zr28 rfl) (fun b2=> ?_)
 refine zf<|zc<|ze<|ze<|za<|e_ru (zd 1 ty28 rfl rfl (.t4 .nil))<|zQ rfl rfl (.c rfl .n) ce79 (zic (s:=s) (p1:=p1) (n1:=n1) (c1:=c1) (l1:=l1) (t:=t) (p2:=p2) (n2:=n2) (c2:=c2) (l2:=l2) (hn1:=ass) (hn2:=ass) (hm1:=ass) (hm2:=ass)) (.c (j:=0) rfl (.c (j:=1) rfl .n))<|zf<|zc<|zB rfl (fun hq=> ?_) (fun hq=> ?_)
 ·
  have hrp:=Big.raw_parts (x:=((s,l1),(t,l2))) hnn1 hnn2 hq
  have hqp:=yU (x:=((s,l1),(t,l2))) hq
  have hl:yB (yO ((s,l1),(t,l2)))≤1099511627776:=by unfold yB;rw [hqp.1,hqp.2];dsimp only;omega
  refine ze<|za<|e_ru (zd 1 ty28 rfl rfl (.t4 .nil))<|zu rfl rfl (.c rfl .n) ce127 (zUd (s:=s) (p1:=p1) (n1:=n1) (c1:=c1) (l1:=l1) (t:=t) (p2:=p2) (n2:=n2) (c2:=c2) (l2:=l2) (hn1:=ass) (hn2:=ass) (hm1:=ass) (hm2:=ass) (hq:=by first|rfl|assumption|omega|(rw [ym];omega)|(decide +kernel)) (hl:=by first|rfl|assumption|omega|(rw [ym];omega)|(decide +kernel))) (.c (j:=0) rfl (.c (j:=1) rfl .n)) ?_
  rintro ⟨w33,w44⟩ -
  dsimp only [aq,nq,cq]
  refine zk 0 rfl rfl rfl rfl rfl sz28 rfl (.t4 .nil) .z<|zf<|zc<|zJ<|zm ?_
  exact zy Tryz.results87 (w33,w44) trivial (zp 0 ty28 rfl rfl (.t4 .nil)) rfl (ho:=(.n:PickO _ _ _)) ((.c (j:=0) rfl .n):SelR _ _ _)
 ·
  have hz:=Big.qv_not (x:=((s,l1),(t,l2))) hq
  refine zv<|zc<|ze<|za<|zu rfl rfl (.c rfl .n) ce56 (zQa (z:=0) (hz:=by first|rfl|assumption|omega|(rw [ym];omega)|(decide +kernel))) (.n) ?_
  rintro ⟨w35,w46⟩ -
  dsimp only [aq,nq,cq]
  refine zk 0 rfl rfl rfl rfl rfl sz28 rfl (.t4 .nil) .z<|zf<|zc<|zJ ?_
  exact zy Tryz.results87 (w35,w46) trivial (zp 0 ty28 rfl rfl (.t4 .nil)) rfl (ho:=(.n:PickO _ _ _)) ((.e (j:=0) rfl (by rw [hz];rfl) .n):SelR _ _ _)
theorem zya {k1:Bool} {u1:Wd} {v1:Wd} {q1:Rat}:Con yh 87 [.agg #[u1.b,u1.l,v1.b,v1.l]] [] [qF k1 u1 v1 (q1)] (Y:=(Wd)×(Wd)) (fun y=>True) (fun y=> .agg #[y.1.b,y.1.l,y.2.b,y.2.l]) (fun y=>[]) (fun y=>[qF true y.1 y.2 (q1)]):=by
  exact zmf (fun x hx hk h1 h2 hl=>by subst hx;exact zCe rfl rfl h1 h2)
theorem zcc {k1:Bool} {u1:Wd} {v1:Wd} {q1:Rat}:Con yh 110 [.agg #[u1.b,u1.l,v1.b,v1.l]] [] [qF k1 u1 v1 q1] (Y:=Unit) (fun y=>True) (fun y=> ya yb (Big.sgq q1)) (fun y=>[]) (fun y=>[]):=by
 refine zl Tryz.func110 rfl rfl rfl (fun c=> ?_)
 show RunC _ _ _ _ _ [(0,.agg #[u1.b,u1.l,v1.b,v1.l])] [] [qF k1 u1 v1 q1]
 refine ze<|za<|zK rfl rfl (zU rfl rfl) (fun b1=> ?_)
 refine e_p (zb rfl)<|zf<|zc<|ze<|za<|e_ru (zd 0 ty28 rfl rfl (.t4 .nil))<|zu rfl rfl (.c rfl .n) ce87 (zya (k1:=k1) (u1:=u1) (v1:=v1) (q1:=q1)) (.c (j:=0) rfl .n) ?_
 rintro ⟨w32,w43⟩ -
 dsimp only [aq,nq,cq]
 refine e_p (zkc yf rfl ty26 rfl (.t2 .nil))<|zCb (qF_open 0 rfl) (fun _ _=> ?_)
 refine zQ rfl rfl (.c rfl .n) ce92 (zGb (w1:=w32) (x1:=(q1).num)) (.c (j:=0) rfl .n)<|e_p (zb rfl)<|zf<|zc<|zJ ?_
 exact zy Tryz.results110 () trivial (zo rfl) rfl (ho:=(.n:PickO _ _ _)) (.n:SelR _ _ _)
theorem zXf {k1:Bool} {u1:Wd} {v1:Wd} {q1:Rat} (hl:yB q1≤1099511627776):Con yh 115 [.agg #[u1.b,u1.l,v1.b,v1.l]] [] [qF k1 u1 v1 q1] (Y:=Wd×Wd) (fun y=>True) (fun y=> .agg #[y.1.b,y.1.l,y.2.b,y.2.l]) (fun y=>[]) (fun y=>[qF true y.1 y.2 (- q1)]):=by
 refine zl Tryz.func115 rfl rfl rfl (fun c=> ?_)
 show RunC _ _ _ _ _ [(0,.agg #[u1.b,u1.l,v1.b,v1.l])] [] [qF k1 u1 v1 q1]
 have a1:=yt q1
 have a2:=yu q1
 refine ze<|za<|zK rfl rfl (zU rfl rfl) (fun b1=> ?_)
 refine zK rfl rfl (zw zr28 rfl) (fun b2=> ?_)
 refine zf<|zc<|ze<|za<|e_ru (zd 1 ty28 rfl rfl (.t4 .nil))<|zu rfl rfl (.c rfl .n) ce87 (zya (k1:=k1) (u1:=u1) (v1:=v1) (q1:=q1)) (.c (j:=0) rfl .n) ?_
 rintro ⟨w33,w44⟩ -
 dsimp only [aq,nq,cq]
 refine zk 1 rfl rfl rfl rfl rfl sz28 rfl (.t4 .nil) (.s .z)<|zf<|zc<|ze<|zZ (OW:=[boxA b2 28 (cw [wz,wz])]) (O:=[boxA b1 28 (cw [w33,w44])]) 6 mixed (.then .ret) kr<|e_pv 0 rfl rfl (zh yf rfl sz26 rfl rfl)<|e_uw 1 rfl rfl (zd 1 ty26 rfl rfl (.t2 .nil))<|e_pv 3 rfl rfl (zh yf rfl sz26 rfl rfl)<|e_uw 4 rfl rfl (zd 1 ty26 rfl rfl (.s2 (.t2 .nil)))<|zDb (qF_open 0 rfl) (fun _ _=> ?_)
 refine e_one 2 (zC rfl rfl rfl rfl (.c rfl .n) ce134 (zmd (w1:=w33) (x1:=(q1).num) (hln:=by first|rfl|assumption|omega|(rw [ym];omega)|(decide +kernel))) (.c (j:=0) rfl .n) ?_)
 rintro w35 -
 dsimp only [aq,nq,cq]
 refine e_pv 5 rfl rfl (zN zr28 rfl yf (.c sz26 (.c sz26 .n)) (.c rfl (.c rfl .n)) (.c rfl rfl rfl (.t2 .nil) (.c rfl rfl rfl (.s2 (.t2 .nil)) .n)))<|e_one 6 (zG kr rfl rfl rfl rfl rfl sz28 rfl (.t4 .nil) ?_)
 refine zX kr<|zc<|zJ<|zjb (qF true w35 w44 (- q1)) (qF_close 0 2 rfl rfl (by exact ⟨(Rat.neg_num q1).symm,by rw [Rat.neg_den],by rw [yP];exact hl⟩)) ?_
 exact zy Tryz.results115 (w35,w44) trivial (zp 0 ty28 rfl rfl (.t4 .nil)) rfl (ho:=(.n:PickO _ _ _)) ((.c (j:=0) rfl .n):SelR _ _ _)
theorem zre {k1:Bool} {u1:Wd} {v1:Wd} {q1:Rat} {k2:Bool} {u2:Wd} {v2:Wd} {q2:Rat} (hl:yB q1+yB q2+1≤1099511627776):Con yh 114 [.agg #[u1.b,u1.l,v1.b,v1.l],.agg #[u2.b,u2.l,v2.b,v2.l]] [] [qF k1 u1 v1 q1,qF k2 u2 v2 q2] (Y:=Wd×Wd) (fun y=>True) (fun y=> .agg #[y.1.b,y.1.l,y.2.b,y.2.l]) (fun y=>[]) (fun y=>[qF true y.1 y.2 (q1+q2)]):=by
 refine zl Tryz.func114 rfl rfl rfl (fun c=> ?_)
 show RunC _ _ _ _ _ [(0,.agg #[u1.b,u1.l,v1.b,v1.l]),(1,.agg #[u2.b,u2.l,v2.b,v2.l])] [] [qF k1 u1 v1 q1,qF k2 u2 v2 q2]
 have a1:=yt q1
 have a2:=yu q1
 have a3:=yt q2
 have a4:=yu q2
 have b1:=yD q1.num q2.den
 have b2:=yD q2.num q1.den
 have b3:=Big.zEc (q1.num*q2.den) (q2.num*q1.den)
 have b4:=yD (q1.den:Int) q2.den
 have b5:=yD q1.num q2.num
 refine ze<|za<|zK rfl rfl (zU rfl rfl) (fun b1=> ?_)
 refine zK rfl rfl (zU rfl rfl) (fun b2=> ?_)
 refine zK rfl rfl (zw zr28 rfl) (fun b3=> ?_)
 refine zf<|zc<|ze<|zma (.c (i:=2) rfl (.c (i:=1) rfl (.c (i:=0) rfl .n)))<|zZ (OW:=[boxA b1 28 (cw [u1,v1]),boxA b2 28 (cw [u2,v2])]) (O:=[boxA b3 28 (cw [wz,wz])]) 4 mixed (.then .ret) kr<|e_uw 0 rfl rfl (zd 0 ty28 rfl rfl (.t4 .nil))<|e_uw 2 rfl rfl (zd 1 ty28 rfl rfl (.t4 .nil))<|e_one 1 (zC rfl rfl rfl rfl (.c rfl .n) ce87 (zya (k1:=k1) (u1:=u1) (v1:=v1) (q1:=q1)) (.c (j:=0) rfl .n) ?_)
 rintro ⟨w34,w45⟩ -
 dsimp only [aq,nq,cq]
 refine e_one 3 (zC rfl rfl rfl rfl (.c rfl .n) ce87 (zya (k1:=k2) (u1:=u2) (v1:=v2) (q1:=q2)) (.c (j:=2) rfl .n) ?_)
 rintro ⟨w36,w47⟩ -
 dsimp only [aq,nq,cq]
 refine e_one 4 (zG kr rfl rfl rfl rfl rfl sz28 rfl (.t4 .nil) ?_)
 refine zFa (zfa (i:=1) rfl)<|e_one 5 (zG kr rfl rfl rfl rfl rfl sz28 rfl (.t4 .nil) ?_)
 refine zX kr<|zc<|ze<|zma (.c (i:=2) rfl (.c (i:=0) rfl (.c (i:=0) rfl .n)))<|zZ (OW:=[boxA b3 28 (cw [wz,wz])]) (O:=[boxA b2 28 (cw [w36,w47]),boxA b1 28 (cw [w34,w45])]) 17 mixed (.then .ret) kr<|e_pv 0 rfl rfl (zh yf rfl sz26 rfl rfl)<|e_uw 1 rfl rfl (zd 2 ty26 rfl rfl (.t2 .nil))<|e_pv 2 rfl rfl (zh yf rfl sz26 rfl rfl)<|e_uw 3 rfl rfl (zd 1 ty26 rfl rfl (.s2 (.t2 .nil)))<|e_pv 5 rfl rfl (zh yf rfl sz26 rfl rfl)<|e_uw 6 rfl rfl (zd 1 ty26 rfl rfl (.t2 .nil))<|e_pv 7 rfl rfl (zh yf rfl sz26 rfl rfl)<|e_uw 8 rfl rfl (zd 2 ty26 rfl rfl (.s2 (.t2 .nil)))<|e_pv 11 rfl rfl (zh yf rfl sz26 rfl rfl)<|e_uw 12 rfl rfl (zd 2 ty26 rfl rfl (.s2 (.t2 .nil)))<|e_pv 13 rfl rfl (zh yf rfl sz26 rfl rfl)<|e_uw 14 rfl rfl (zd 1 ty26 rfl rfl (.s2 (.t2 .nil)))<|zDb (qF_open 1 rfl) (fun _ _=> ?_)
 refine zDb (qF_open 2 rfl) (fun _ _=> ?_)
 refine e_one 4 (zC rfl rfl rfl rfl (.c rfl (.c rfl .n)) ce89 (zeb (w1:=w34) (w2:=w47) (x1:=(q1).num) (x2:=(((q2).den:Nat):Int)) (hb1:=by first|rfl|assumption|omega|(rw [ym];omega)|(decide +kernel)) (hb2:=by first|rfl|assumption|omega|(rw [ym];omega)|(decide +kernel))) (.c (j:=2) rfl (.c (j:=1) rfl .n)) ?_)
 rintro w38 -
 dsimp only [aq,nq,cq]
 refine e_one 9 (zC rfl rfl rfl rfl (.c rfl (.c rfl .n)) ce89 (zeb (w1:=w36) (w2:=w45) (x1:=(q2).num) (x2:=(((q1).den:Nat):Int)) (hb1:=by first|rfl|assumption|omega|(rw [ym];omega)|(decide +kernel)) (hb2:=by first|rfl|assumption|omega|(rw [ym];omega)|(decide +kernel))) (.c (j:=1) rfl (.c (j:=4) rfl .n)) ?_)
 rintro w39 -
 dsimp only [aq,nq,cq]
 refine e_one 10 (zC rfl rfl rfl rfl (.c rfl (.c rfl .n)) ce146 (zTf (w1:=w38) (w2:=w39) (x1:=((q1).num)*(((q2).den:Nat):Int)) (x2:=((q2).num)*(((q1).den:Nat):Int)) (hb1:=by first|rfl|assumption|omega|(rw [ym];omega)|(decide +kernel)) (hb2:=by first|rfl|assumption|omega|(rw [ym];omega)|(decide +kernel))) (.c (j:=1) rfl (.c (j:=0) rfl .n)) ?_)
 rintro w310 -
 dsimp only [aq,nq,cq]
 refine e_one 15 (zC rfl rfl rfl rfl (.c rfl (.c rfl .n)) ce89 (zeb (w1:=w45) (w2:=w47) (x1:=(((q1).den:Nat):Int)) (x2:=(((q2).den:Nat):Int)) (hb1:=by first|rfl|assumption|omega|(rw [ym];omega)|(decide +kernel)) (hb2:=by first|rfl|assumption|omega|(rw [ym];omega)|(decide +kernel))) (.c (j:=6) rfl (.c (j:=4) rfl .n)) ?_)
 rintro w311 -
 dsimp only [aq,nq,cq]
 refine e_one 16 (zC rfl rfl rfl rfl (.c rfl (.c rfl .n)) ce94 (zvb (w1:=w310) (w2:=w311) (x1:=(((q1).num)*(((q2).den:Nat):Int))+(((q2).num)*(((q1).den:Nat):Int))) (x2:=(((q1).den:Nat):Int)*(((q2).den:Nat):Int)) (hl1:=by first|rfl|assumption|omega|(rw [ym];omega)|(decide +kernel)) (hl2:=by first|rfl|assumption|omega|(rw [ym];omega)|(decide +kernel)) (hd:=by exact Int.mul_ne_zero (yJ q1) (yJ q2))) (.c (j:=1) rfl (.c (j:=0) rfl .n)) ?_)
 rintro ⟨w312,w413⟩ -
 dsimp only [aq,nq,cq]
 refine e_one 17 (zG kr rfl rfl rfl rfl rfl sz28 rfl (.t4 .nil) ?_)
 refine zX kr<|zc<|zJ ?_
 exact zy Tryz.results114 (w312,w413) trivial (zp 0 ty28 rfl rfl (.t4 .nil)) rfl (ho:=(.n:PickO _ _ _)) ((.e (j:=0) rfl (by rw [Big.add_parts]) .n):SelR _ _ _)
theorem zwb {k1:Bool} {u1:Wd} {v1:Wd} {q1:Rat} {k2:Bool} {u2:Wd} {v2:Wd} {q2:Rat} (hl:yB q1+yB q2+1≤1099511627776):Con yh 60 [.agg #[u1.b,u1.l,v1.b,v1.l],.agg #[u2.b,u2.l,v2.b,v2.l]] [] [qF k1 u1 v1 q1,qF k2 u2 v2 q2] (Y:=Wd×Wd) (fun y=>True) (fun y=> .agg #[y.1.b,y.1.l,y.2.b,y.2.l]) (fun y=>[]) (fun y=>[qF true y.1 y.2 (q1*q2)]):=by
 refine zl Tryz.func60 rfl rfl rfl (fun c=> ?_)
 show RunC _ _ _ _ _ [(0,.agg #[u1.b,u1.l,v1.b,v1.l]),(1,.agg #[u2.b,u2.l,v2.b,v2.l])] [] [qF k1 u1 v1 q1,qF k2 u2 v2 q2]
 have a1:=yt q1
 have a2:=yu q1
 have a3:=yt q2
 have a4:=yu q2
 have b1:=yD q1.num q2.den
 have b2:=yD q2.num q1.den
 have b3:=Big.zEc (q1.num*q2.den) (q2.num*q1.den)
 have b4:=yD (q1.den:Int) q2.den
 have b5:=yD q1.num q2.num
 refine ze<|za<|zK rfl rfl (zU rfl rfl) (fun b1=> ?_)
 refine zK rfl rfl (zU rfl rfl) (fun b2=> ?_)
 refine zK rfl rfl (zw zr28 rfl) (fun b3=> ?_)
 refine zf<|zc<|ze<|zma (.c (i:=2) rfl (.c (i:=1) rfl (.c (i:=0) rfl .n)))<|zZ (OW:=[boxA b1 28 (cw [u1,v1]),boxA b2 28 (cw [u2,v2])]) (O:=[boxA b3 28 (cw [wz,wz])]) 4 mixed (.then .ret) kr<|e_uw 0 rfl rfl (zd 0 ty28 rfl rfl (.t4 .nil))<|e_uw 2 rfl rfl (zd 1 ty28 rfl rfl (.t4 .nil))<|e_one 1 (zC rfl rfl rfl rfl (.c rfl .n) ce87 (zya (k1:=k1) (u1:=u1) (v1:=v1) (q1:=q1)) (.c (j:=0) rfl .n) ?_)
 rintro ⟨w34,w45⟩ -
 dsimp only [aq,nq,cq]
 refine e_one 3 (zC rfl rfl rfl rfl (.c rfl .n) ce87 (zya (k1:=k2) (u1:=u2) (v1:=v2) (q1:=q2)) (.c (j:=2) rfl .n) ?_)
 rintro ⟨w36,w47⟩ -
 dsimp only [aq,nq,cq]
 refine e_one 4 (zG kr rfl rfl rfl rfl rfl sz28 rfl (.t4 .nil) ?_)
 refine zFa (zfa (i:=1) rfl)<|e_one 5 (zG kr rfl rfl rfl rfl rfl sz28 rfl (.t4 .nil) ?_)
 refine zX kr<|zc<|ze<|zma (.c (i:=2) rfl (.c (i:=0) rfl (.c (i:=0) rfl .n)))<|zZ (OW:=[boxA b3 28 (cw [wz,wz])]) (O:=[boxA b2 28 (cw [w36,w47]),boxA b1 28 (cw [w34,w45])]) 11 mixed (.then .ret) kr<|e_pv 0 rfl rfl (zh yf rfl sz26 rfl rfl)<|e_uw 1 rfl rfl (zd 2 ty26 rfl rfl (.t2 .nil))<|e_pv 2 rfl rfl (zh yf rfl sz26 rfl rfl)<|e_uw 3 rfl rfl (zd 1 ty26 rfl rfl (.t2 .nil))<|e_pv 5 rfl rfl (zh yf rfl sz26 rfl rfl)<|e_uw 6 rfl rfl (zd 2 ty26 rfl rfl (.s2 (.t2 .nil)))<|e_pv 7 rfl rfl (zh yf rfl sz26 rfl rfl)<|e_uw 8 rfl rfl (zd 1 ty26 rfl rfl (.s2 (.t2 .nil)))<|zDb (qF_open 1 rfl) (fun _ _=> ?_)
 refine zDb (qF_open 2 rfl) (fun _ _=> ?_)
 refine e_one 4 (zC rfl rfl rfl rfl (.c rfl (.c rfl .n)) ce89 (zeb (w1:=w34) (w2:=w36) (x1:=(q1).num) (x2:=(q2).num) (hb1:=by first|rfl|assumption|omega|(rw [ym];omega)|(decide +kernel)) (hb2:=by first|rfl|assumption|omega|(rw [ym];omega)|(decide +kernel))) (.c (j:=2) rfl (.c (j:=0) rfl .n)) ?_)
 rintro w38 -
 dsimp only [aq,nq,cq]
 refine e_one 9 (zC rfl rfl rfl rfl (.c rfl (.c rfl .n)) ce89 (zeb (w1:=w45) (w2:=w47) (x1:=(((q1).den:Nat):Int)) (x2:=(((q2).den:Nat):Int)) (hb1:=by first|rfl|assumption|omega|(rw [ym];omega)|(decide +kernel)) (hb2:=by first|rfl|assumption|omega|(rw [ym];omega)|(decide +kernel))) (.c (j:=4) rfl (.c (j:=2) rfl .n)) ?_)
 rintro w39 -
 dsimp only [aq,nq,cq]
 refine e_one 10 (zC rfl rfl rfl rfl (.c rfl (.c rfl .n)) ce94 (zvb (w1:=w38) (w2:=w39) (x1:=((q1).num)*((q2).num)) (x2:=(((q1).den:Nat):Int)*(((q2).den:Nat):Int)) (hl1:=by first|rfl|assumption|omega|(rw [ym];omega)|(decide +kernel)) (hl2:=by first|rfl|assumption|omega|(rw [ym];omega)|(decide +kernel)) (hd:=by exact Int.mul_ne_zero (yJ q1) (yJ q2))) (.c (j:=1) rfl (.c (j:=0) rfl .n)) ?_)
 rintro ⟨w310,w411⟩ -
 dsimp only [aq,nq,cq]
 refine e_one 11 (zG kr rfl rfl rfl rfl rfl sz28 rfl (.t4 .nil) ?_)
 refine zX kr<|zc<|zJ ?_
 exact zy Tryz.results60 (w310,w411) trivial (zp 0 ty28 rfl rfl (.t4 .nil)) rfl (ho:=(.n:PickO _ _ _)) ((.e (j:=0) rfl (by rw [Big.mul_parts]) .n):SelR _ _ _)
theorem zse {k1:Bool} {u1:Wd} {v1:Wd} {q1:Rat} {k2:Bool} {u2:Wd} {v2:Wd} {q2:Rat} (hl:yB q1+yB q2+1≤1099511627776):Con yh 78 [.agg #[u1.b,u1.l,v1.b,v1.l],.agg #[u2.b,u2.l,v2.b,v2.l]] [] [qF k1 u1 v1 q1,qF k2 u2 v2 q2] (Y:=Wd×Wd) (fun y=>True) (fun y=> .agg #[y.1.b,y.1.l,y.2.b,y.2.l]) (fun y=>[]) (fun y=>[qF true y.1 y.2 (q1 - q2)]):=by
 refine zl Tryz.func78 rfl rfl rfl (fun c=> ?_)
 show RunC _ _ _ _ _ [(0,.agg #[u1.b,u1.l,v1.b,v1.l]),(1,.agg #[u2.b,u2.l,v2.b,v2.l])] [] [qF k1 u1 v1 q1,qF k2 u2 v2 q2]
 have a1:=yt q1
 have a2:=yu q1
 have a3:=yt q2
 have a4:=yu q2
 refine ze<|za<|zK rfl rfl (zU rfl rfl) (fun b1=> ?_)
 refine zK rfl rfl (zU rfl rfl) (fun b2=> ?_)
 refine zK rfl rfl (zw zr28 rfl) (fun b3=> ?_)
 refine zf<|zc<|ze<|zZ (OW:=[boxA b3 28 (cw [wz,wz])]) (O:=[boxA b2 28 (cw [u2,v2]),boxA b1 28 (cw [u1,v1])]) 4 mixed (.then .ret) kr<|e_uw 0 rfl rfl (zd 2 ty28 rfl rfl (.t4 .nil))<|e_uw 1 rfl rfl (zd 1 ty28 rfl rfl (.t4 .nil))<|e_one 2 (zC rfl rfl rfl rfl (.c rfl .n) ce115 (zXf (k1:=k2) (u1:=u2) (v1:=v2) (q1:=q2) (hl:=by first|rfl|assumption|omega|(rw [ym];omega)|(decide +kernel)|(rw [yP];omega))) (.c (j:=1) rfl .n) ?_)
 rintro ⟨w34,w45⟩ -
 dsimp only [aq,nq,cq]
 refine e_one 3 (zC rfl rfl rfl rfl (.c rfl (.c rfl .n)) ce114 (zre (k1:=k1) (u1:=u1) (v1:=v1) (q1:=q1) (k2:=true) (u2:=w34) (v2:=w45) (q2:= - q2) (hl:=by first|rfl|assumption|omega|(rw [ym];omega)|(decide +kernel)|(rw [yP];omega))) (.c (j:=1) rfl (.c (j:=0) rfl .n)) ?_)
 rintro ⟨w36,w47⟩ -
 dsimp only [aq,nq,cq]
 refine e_one 4 (zG kr rfl rfl rfl rfl rfl sz28 rfl (.t4 .nil) ?_)
 refine zX kr<|zc<|zJ ?_
 exact zy Tryz.results78 (w36,w47) trivial (zp 0 ty28 rfl rfl (.t4 .nil)) rfl (ho:=(.n:PickO _ _ _)) ((.e (j:=0) rfl (by rw [Rat.sub_eq_add_neg]) .n):SelR _ _ _)
theorem zoc {k1:Bool} {u1:Wd} {v1:Wd} {q1:Rat} {k2:Bool} {u2:Wd} {v2:Wd} {q2:Rat} (hl:yB q1+yB q2+1≤1099511627776):Con yh 55 [.agg #[u1.b,u1.l,v1.b,v1.l],.agg #[u2.b,u2.l,v2.b,v2.l]] [] [qF k1 u1 v1 q1,qF k2 u2 v2 q2] (Y:=Unit) (fun y=>True) (fun y=> ya yb (Big.sgq (q1 - q2))) (fun y=>[]) (fun y=>[]):=by
 refine zl Tryz.func55 rfl rfl rfl (fun c=> ?_)
 show RunC _ _ _ _ _ [(0,.agg #[u1.b,u1.l,v1.b,v1.l]),(1,.agg #[u2.b,u2.l,v2.b,v2.l])] [] [qF k1 u1 v1 q1,qF k2 u2 v2 q2]
 have a1:=yt q1
 have a2:=yu q1
 have a3:=yt q2
 have a4:=yu q2
 have b1:=yD q1.num q2.den
 have b2:=yD q2.num q1.den
 have b3:=Big.zEc (q1.num*q2.den) (q2.num*q1.den)
 have b4:=yD (q1.den:Int) q2.den
 have b5:=yD q1.num q2.num
 refine ze<|za<|zK rfl rfl (zU rfl rfl) (fun b1=> ?_)
 refine zK rfl rfl (zU rfl rfl) (fun b2=> ?_)
 refine e_p (zb rfl)<|zf<|zc<|ze<|zma (.c (i:=1) rfl (.c (i:=0) rfl .n))<|zZ (OW:=[boxA b1 28 (cw [u1,v1]),boxA b2 28 (cw [u2,v2])]) (O:=[]) 4 mixed (.then .ret) kr<|e_uw 0 rfl rfl (zd 0 ty28 rfl rfl (.t4 .nil))<|e_uw 2 rfl rfl (zd 1 ty28 rfl rfl (.t4 .nil))<|e_one 1 (zC rfl rfl rfl rfl (.c rfl .n) ce87 (zya (k1:=k1) (u1:=u1) (v1:=v1) (q1:=q1)) (.c (j:=0) rfl .n) ?_)
 rintro ⟨w33,w44⟩ -
 dsimp only [aq,nq,cq]
 refine e_one 3 (zC rfl rfl rfl rfl (.c rfl .n) ce87 (zya (k1:=k2) (u1:=u2) (v1:=v2) (q1:=q2)) (.c (j:=2) rfl .n) ?_)
 rintro ⟨w35,w46⟩ -
 dsimp only [aq,nq,cq]
 refine e_one 4 (zG kr rfl rfl rfl rfl rfl sz28 rfl (.t4 .nil) ?_)
 refine zFa (zfa (i:=1) rfl)<|e_one 5 (zG kr rfl rfl rfl rfl rfl sz28 rfl (.t4 .nil) ?_)
 refine zX kr<|zc<|ze<|zZ (OW:=[]) (O:=[boxA b2 28 (cw [w35,w46]),boxA b1 28 (cw [w33,w44])]) 100000 mixed (.then .ret) kr<|e_pv 0 rfl rfl (zh yf rfl sz26 rfl rfl)<|e_u 1 rfl rfl (zd 1 ty26 rfl rfl (.t2 .nil))<|e_pv 2 rfl rfl (zh yf rfl sz26 rfl rfl)<|e_u 3 rfl rfl (zd 0 ty26 rfl rfl (.s2 (.t2 .nil)))<|e_pv 5 rfl rfl (zh yf rfl sz26 rfl rfl)<|e_u 6 rfl rfl (zd 0 ty26 rfl rfl (.t2 .nil))<|e_pv 7 rfl rfl (zh yf rfl sz26 rfl rfl)<|e_u 8 rfl rfl (zd 1 ty26 rfl rfl (.s2 (.t2 .nil)))<|zDb (qF_open 1 rfl) (fun _ _=> ?_)
 refine zDb (qF_open 2 rfl) (fun _ _=> ?_)
 refine e_one 4 (zC rfl rfl rfl rfl (.c rfl (.c rfl .n)) ce89 (zeb (w1:=w33) (w2:=w46) (x1:=(q1).num) (x2:=(((q2).den:Nat):Int)) (hb1:=by first|rfl|assumption|omega|(rw [ym];omega)|(decide +kernel)) (hb2:=by first|rfl|assumption|omega|(rw [ym];omega)|(decide +kernel))) (.c (j:=2) rfl (.c (j:=1) rfl .n)) ?_)
 rintro w37 -
 dsimp only [aq,nq,cq]
 refine e_one 9 (zC rfl rfl rfl rfl (.c rfl (.c rfl .n)) ce89 (zeb (w1:=w35) (w2:=w44) (x1:=(q2).num) (x2:=(((q1).den:Nat):Int)) (hb1:=by first|rfl|assumption|omega|(rw [ym];omega)|(decide +kernel)) (hb2:=by first|rfl|assumption|omega|(rw [ym];omega)|(decide +kernel))) (.c (j:=1) rfl (.c (j:=4) rfl .n)) ?_)
 rintro w38 -
 dsimp only [aq,nq,cq]
 refine e_one 10 (zMa rfl rfl rfl rfl (.c rfl (.c rfl .n)) ce88 (zId (w1:=w37) (w2:=w38) (x1:=((q1).num)*(((q2).den:Nat):Int)) (x2:=((q2).num)*(((q1).den:Nat):Int))) (.c (j:=1) rfl (.c (j:=0) rfl .n)) ?_)
 refine e_pv 11 rfl rfl (zb rfl)<|zX kr<|zc<|zJ ?_
 exact zy Tryz.results55 () trivial (zo rfl) (by rw [Big.cmp_rat]) (ho:=(.n:PickO _ _ _)) (.n:SelR _ _ _)
theorem zLc {w1:Wd} {x1:Int}:Con yh 124 [.agg #[w1.b,w1.l]] [] [zF w1 x1] (Y:=Wd) (fun y=>True) (fun y=> .agg #[y.b,y.l]) (fun y=>[]) (fun y=>[zF y x1]):=by
 refine zl Tryz.func124 rfl rfl rfl (fun c=> ?_)
 show RunC _ _ _ _ _ [(0,.agg #[w1.b,w1.l])] [] [zF w1 x1]
 refine ze<|za<|zK rfl rfl (zU rfl rfl) (fun b1=> ?_)
 refine zK rfl rfl (zw zr26 rfl) (fun b2=> ?_)
 refine zf<|zc<|ze<|ze<|za<|e_ru (zd 1 ty26 rfl rfl (.t2 .nil))<|zQ rfl rfl (.c rfl .n) ce116 (zze (w1:=w1) (x1:=x1)) (.c (j:=0) rfl .n)<|zf<|zc<|zfe rfl rfl<|ze<|za<|e_ru (zd 1 ty26 rfl rfl (.t2 .nil))<|zk 0 rfl rfl rfl rfl rfl sz26 rfl (.t2 .nil) .z<|zf<|zc<|zJ<|zm ?_
 exact zy Tryz.results124 w1 trivial (zp 0 ty26 rfl rfl (.t2 .nil)) rfl (ho:=(.n:PickO _ _ _)) ((.c (j:=0) rfl .n):SelR _ _ _)
theorem zug {w1:Wd} {w2:Wd} {x1:Int} {x2:Int} (hl1:yq x1≤1099511627776) (hl2:yq x2≤1099511627776):Con yh 85 [.agg #[w1.b,w1.l],.agg #[w2.b,w2.l]] [] [zF w1 x1,zF w2 x2] (Y:=Wd×Wd) (fun y=>True) (fun y=> .tuple #[.agg #[y.1.b,y.1.l,y.2.b,y.2.l],ya yb (if x2=0 then 14 else 0)]) (fun y=>[]) (fun y=>[qF (decide (x2≠0)) y.1 y.2 (Rat.divInt x1 x2)]):=by
 refine zl Tryz.func85 rfl rfl rfl (fun c=> ?_)
 show RunC _ _ _ _ _ [(0,.agg #[w1.b,w1.l]),(1,.agg #[w2.b,w2.l])] [] [zF w1 x1,zF w2 x2]
 refine ze<|za<|zK rfl rfl (zU rfl rfl) (fun b1=> ?_)
 refine zK rfl rfl (zU rfl rfl) (fun b2=> ?_)
 refine zK rfl rfl (zw zr28 rfl) (fun b3=> ?_)
 refine e_p (zb rfl)<|zf<|zc<|ze<|zma (.c (i:=2) rfl (.c (i:=1) rfl (.c (i:=0) rfl .n)))<|zZ (OW:=[boxA b1 26 [w1.b,w1.l],boxA b2 26 [w2.b,w2.l]]) (O:=[boxA b3 28 (cw [wz,wz])]) 4 mixed (.then .ret) kr<|e_uw 0 rfl rfl (zd 0 ty26 rfl rfl (.t2 .nil))<|e_uw 2 rfl rfl (zd 1 ty26 rfl rfl (.t2 .nil))<|e_one 1 (zC rfl rfl rfl rfl (.c rfl .n) ce124 (zLc (w1:=w1) (x1:=x1)) (.c (j:=0) rfl .n) ?_)
 rintro w34 -
 dsimp only [aq,nq,cq]
 refine e_one 3 (zC rfl rfl rfl rfl (.c rfl .n) ce124 (zLc (w1:=w2) (x1:=x2)) (.c (j:=2) rfl .n) ?_)
 rintro w35 -
 dsimp only [aq,nq,cq]
 refine e_one 4 (zG kr rfl rfl rfl rfl rfl sz26 rfl (.t2 .nil) ?_)
 refine zFa (zfa (i:=1) rfl)<|e_one 5 (zG kr rfl rfl rfl rfl rfl sz26 rfl (.t2 .nil) ?_)
 refine zX kr<|zc<|ze<|ze<|za<|e_ru (zd 0 ty26 rfl rfl (.t2 .nil))<|zQ rfl rfl (.c rfl .n) ce92 (zGb (w1:=w35) (x1:=x2)) (.c (j:=0) rfl .n)<|e_p (zta rfl rfl)<|zf<|zc<|zB rfl (fun hz0=> ?_) (fun hz0=> ?_)
 ·
  have hx0:x2=0:=yE.1 hz0
  refine ze<|za<|e_p (zN zr28 rfl yf (.c sz26 (.c sz26 .n)) .n .n)<|zk 2 rfl rfl rfl rfl rfl sz28 rfl (.t4 .nil) (.s (.s .z))<|e_p (zb rfl)<|zf<|zc<|zJ<|zm<|zjb (qF false wz wz 0) (fun g _=>qF_none g) ?_
  exact zqa Tryz.results85 (wz,wz) trivial (zp 2 ty28 rfl rfl (.t4 .nil)) (zo rfl) (by rw [if_pos hx0];rfl) (ho:=(.n:PickO _ _ _)) ((.e (j:=0) rfl (by rw [Big.divInt_nil hx0,decide_eq_false (not_not_intro hx0)]) .n):SelR _ _ _)
 ·
  have hx0:x2≠0:=fun e=>hz0 (yE.2 e)
  refine zv<|zc<|ze<|za<|e_ru (zd 1 ty26 rfl rfl (.t2 .nil))<|e_ru (zd 0 ty26 rfl rfl (.t2 .nil))<|zu rfl rfl (.c rfl (.c rfl .n)) ce94 (zvb (w1:=w34) (w2:=w35) (x1:=x1) (x2:=x2) (hl1:=ass) (hl2:=ass) (hd:=by first|rfl|assumption|omega|(rw [ym];omega)|(decide +kernel))) (.c (j:=1) rfl (.c (j:=0) rfl .n)) ?_
  rintro ⟨w36,w47⟩ -
  dsimp only [aq,nq,cq]
  refine zk 2 rfl rfl rfl rfl rfl sz28 rfl (.t4 .nil) (.s (.s .z))<|e_p (zb rfl)<|zf<|zc<|zJ ?_
  exact zqa Tryz.results85 (w36,w47) trivial (zp 2 ty28 rfl rfl (.t4 .nil)) (zo rfl) (by rw [if_neg hx0]) (ho:=(.n:PickO _ _ _)) ((.e (j:=0) rfl (by rw [decide_eq_true hx0]) .n):SelR _ _ _)
theorem zvg {z1:Int} {z2:Int} (hz1: -9223372036854775808≤z1∧z1≤9223372036854775807) (hz2: -9223372036854775808≤z2∧z2≤9223372036854775807):Con yh 54 [ya yb z1,ya yb z2] [] [] (Y:=Wd×Wd) (fun y=>True) (fun y=> .tuple #[.agg #[y.1.b,y.1.l,y.2.b,y.2.l],ya yb (if z2=0 then 14 else 0)]) (fun y=>[]) (fun y=>[qF (decide (z2≠0)) y.1 y.2 (Rat.divInt z1 z2)]):=by
 refine zl Tryz.func54 rfl rfl rfl (fun c=> ?_)
 show RunC _ _ _ _ _ [(0,ya yb z1),(1,ya yb z2)] [] []
 have g1:=Big.zgd hz1.1 hz1.2
 have g2:=Big.zgd hz2.1 hz2.2
 refine ze<|za<|zK rfl rfl (zw zr28 rfl) (fun b1=> ?_)
 refine e_p (zb rfl)<|zf<|zc<|ze<|za<|e_mv rfl<|zu rfl rfl (.c rfl .n) ce86 (zjd (z:=z1) (hz:=ass)) (.n) ?_
 rintro w32 -
 dsimp only [aq,nq,cq]
 refine e_mv rfl<|zu rfl rfl (.c rfl .n) ce86 (zjd (z:=z2) (hz:=ass)) (.n) ?_
 rintro w33 -
 dsimp only [aq,nq,cq]
 refine zu rfl rfl (.c rfl (.c rfl .n)) ce85 (zug (w1:=w32) (w2:=w33) (x1:=z1) (x2:=z2) (hl1:=by first|rfl|assumption|omega|(rw [ym];omega)|(decide +kernel)) (hl2:=by first|rfl|assumption|omega|(rw [ym];omega)|(decide +kernel))) (.c (j:=1) rfl (.c (j:=0) rfl .n)) ?_
 rintro ⟨w34,w45⟩ -
 dsimp only [aq,nq,cq]
 refine e_p (zq rfl rfl)<|e_p (zq rfl rfl)<|zk 0 rfl rfl rfl rfl rfl sz28 rfl (.t4 .nil) .z<|e_p (zb rfl)<|zf<|zc<|zJ ?_
 exact zqa Tryz.results54 (w34,w45) trivial (zp 0 ty28 rfl rfl (.t4 .nil)) (zo rfl) rfl (ho:=(.n:PickO _ _ _)) ((.c (j:=0) rfl .n):SelR _ _ _)
theorem zsb {z1:Int} {z2:Int} (hz1: -9223372036854775808≤z1∧z1≤9223372036854775807) (hz2: -9223372036854775808≤z2∧z2≤9223372036854775807) (hy:z2≠0):Con yh 54 [ya yb (z1),ya yb (z2)] [] [] (Y:=(Wd)×(Wd)) (fun y=>True) (fun y=> .tuple #[.agg #[y.1.b,y.1.l,y.2.b,y.2.l],ya yb (0)]) (fun y=>[]) (fun y=>[qF true y.1 y.2 (Rat.divInt z1 z2)]):=by
  have h:=zvg hz1 hz2
  rw [if_neg hy,decide_eq_true hy] at h
  exact h
theorem zVd {k1:Bool} {u1:Wd} {v1:Wd} {q1:Rat} {k2:Bool} {u2:Wd} {v2:Wd} {q2:Rat} (hl:yB q1+yB q2+1≤1099511627776):Con yh 165 [.agg #[u1.b,u1.l,v1.b,v1.l],.agg #[u2.b,u2.l,v2.b,v2.l]] [] [qF k1 u1 v1 q1,qF k2 u2 v2 q2] (Y:=Wd×Wd) (fun y=>True) (fun y=> .tuple #[.agg #[y.1.b,y.1.l,y.2.b,y.2.l],ya yb (if q2=0 then 14 else 0)]) (fun y=>[]) (fun y=>[qF (decide (q2≠0)) y.1 y.2 (q1 / q2)]):=by
 refine zl Tryz.func165 rfl rfl rfl (fun c=> ?_)
 show RunC _ _ _ _ _ [(0,.agg #[u1.b,u1.l,v1.b,v1.l]),(1,.agg #[u2.b,u2.l,v2.b,v2.l])] [] [qF k1 u1 v1 q1,qF k2 u2 v2 q2]
 have a1:=yt q1
 have a2:=yu q1
 have a3:=yt q2
 have a4:=yu q2
 have b1:=yD q1.num q2.den
 have b2:=yD (q1.den:Int) q2.num
 refine ze<|za<|zK rfl rfl (zU rfl rfl) (fun b1=> ?_)
 refine zK rfl rfl (zU rfl rfl) (fun b2=> ?_)
 refine zK rfl rfl (zw zr28 rfl) (fun b3=> ?_)
 refine e_p (zb rfl)<|zf<|zc<|ze<|zma (.c (i:=2) rfl (.c (i:=1) rfl (.c (i:=0) rfl .n)))<|zZ (OW:=[boxA b1 28 (cw [u1,v1]),boxA b2 28 (cw [u2,v2])]) (O:=[boxA b3 28 (cw [wz,wz])]) 4 mixed (.then .ret) kr<|e_uw 0 rfl rfl (zd 0 ty28 rfl rfl (.t4 .nil))<|e_uw 2 rfl rfl (zd 1 ty28 rfl rfl (.t4 .nil))<|e_one 1 (zC rfl rfl rfl rfl (.c rfl .n) ce87 (zya (k1:=k1) (u1:=u1) (v1:=v1) (q1:=q1)) (.c (j:=0) rfl .n) ?_)
 rintro ⟨w34,w45⟩ -
 dsimp only [aq,nq,cq]
 refine e_one 3 (zC rfl rfl rfl rfl (.c rfl .n) ce87 (zya (k1:=k2) (u1:=u2) (v1:=v2) (q1:=q2)) (.c (j:=2) rfl .n) ?_)
 rintro ⟨w36,w47⟩ -
 dsimp only [aq,nq,cq]
 refine e_one 4 (zG kr rfl rfl rfl rfl rfl sz28 rfl (.t4 .nil) ?_)
 refine zFa (zfa (i:=1) rfl)<|e_one 5 (zG kr rfl rfl rfl rfl rfl sz28 rfl (.t4 .nil) ?_)
 refine zX kr<|zc<|ze<|ze<|za<|e_p (zh yf rfl sz26 rfl rfl)<|e_ru (zd 0 ty26 rfl rfl (.t2 .nil))<|zCb (qF_open 0 rfl) (fun _ _=> ?_)
 refine zQ rfl rfl (.c rfl .n) ce92 (zGb (w1:=w36) (x1:=(q2).num)) (.c (j:=0) rfl .n)<|e_p (zta rfl rfl)<|zf<|zc<|zB rfl (fun hz0=> ?_) (fun hz0=> ?_)
 ·
  have hx0:q2=0:=Rat.num_eq_zero.1 (yE.1 hz0)
  refine ze<|za<|e_p (zN zr28 rfl yf (.c sz26 (.c sz26 .n)) .n .n)<|zk 2 rfl rfl rfl rfl rfl sz28 rfl (.t4 .nil) (.s (.s .z))<|e_p (zb rfl)<|zf<|zc<|zJ<|zm<|zjb (qF false wz wz 0) (fun g _=>qF_none g) ?_
  exact zqa Tryz.results165 (wz,wz) trivial (zp 2 ty28 rfl rfl (.t4 .nil)) (zo rfl) (by rw [if_pos hx0];rfl) (ho:=(.n:PickO _ _ _)) ((.e (j:=0) rfl (by rw [Big.div_nil hx0,decide_eq_false (not_not_intro hx0)]) .n):SelR _ _ _)
 ·
  have hx1:q2.num≠0:=fun e=>hz0 (yE.2 e)
  have hx0:q2≠0:=fun e=>hx1 (Rat.num_eq_zero.2 e)
  refine zv<|zc<|ze<|zma (.c (i:=2) rfl (.c (i:=0) rfl (.c (i:=0) rfl .n)))<|zZ (OW:=[boxA b3 28 (cw [wz,wz])]) (O:=[boxA b2 28 (cw [w36,w47]),boxA b1 28 (cw [w34,w45])]) 11 mixed (.then .ret) kr<|e_pv 0 rfl rfl (zh yf rfl sz26 rfl rfl)<|e_uw 1 rfl rfl (zd 2 ty26 rfl rfl (.t2 .nil))<|e_pv 2 rfl rfl (zh yf rfl sz26 rfl rfl)<|e_uw 3 rfl rfl (zd 1 ty26 rfl rfl (.s2 (.t2 .nil)))<|e_pv 5 rfl rfl (zh yf rfl sz26 rfl rfl)<|e_uw 6 rfl rfl (zd 2 ty26 rfl rfl (.s2 (.t2 .nil)))<|e_pv 7 rfl rfl (zh yf rfl sz26 rfl rfl)<|e_uw 8 rfl rfl (zd 1 ty26 rfl rfl (.t2 .nil))<|zDb (qF_open 3 rfl) (fun _ _=> ?_)
  refine e_one 4 (zC rfl rfl rfl rfl (.c rfl (.c rfl .n)) ce89 (zeb (w1:=w34) (w2:=w47) (x1:=(q1).num) (x2:=(((q2).den:Nat):Int)) (hb1:=by first|rfl|assumption|omega|(rw [ym];omega)|(decide +kernel)) (hb2:=by first|rfl|assumption|omega|(rw [ym];omega)|(decide +kernel))) (.c (j:=0) rfl (.c (j:=3) rfl .n)) ?_)
  rintro w38 -
  dsimp only [aq,nq,cq]
  refine e_one 9 (zC rfl rfl rfl rfl (.c rfl (.c rfl .n)) ce89 (zeb (w1:=w45) (w2:=w36) (x1:=(((q1).den:Nat):Int)) (x2:=(q2).num) (hb1:=by first|rfl|assumption|omega|(rw [ym];omega)|(decide +kernel)) (hb2:=by first|rfl|assumption|omega|(rw [ym];omega)|(decide +kernel))) (.c (j:=2) rfl (.c (j:=3) rfl .n)) ?_)
  rintro w39 -
  dsimp only [aq,nq,cq]
  refine e_one 10 (zC rfl rfl rfl rfl (.c rfl (.c rfl .n)) ce94 (zvb (w1:=w38) (w2:=w39) (x1:=((q1).num)*(((q2).den:Nat):Int)) (x2:=(((q1).den:Nat):Int)*((q2).num)) (hl1:=by first|rfl|assumption|omega|(rw [ym];omega)|(decide +kernel)) (hl2:=by first|rfl|assumption|omega|(rw [ym];omega)|(decide +kernel)) (hd:=by exact Int.mul_ne_zero (yJ q1) hx1)) (.c (j:=1) rfl (.c (j:=0) rfl .n)) ?_)
  rintro ⟨w310,w411⟩ -
  dsimp only [aq,nq,cq]
  refine e_one 11 (zG kr rfl rfl rfl rfl rfl sz28 rfl (.t4 .nil) ?_)
  refine e_pv 12 rfl rfl (zb rfl)<|zX kr<|zc<|zJ ?_
  exact zqa Tryz.results165 (w310,w411) trivial (zp 0 ty28 rfl rfl (.t4 .nil)) (zo rfl) (by rw [if_neg hx0]) (ho:=(.n:PickO _ _ _)) ((.e (j:=0) rfl (by rw [decide_eq_true hx0,Big.div_parts hx1]) .n):SelR _ _ _)
theorem znd {k1:Bool} {u1:Wd} {v1:Wd} {q1:Rat} {k2:Bool} {u2:Wd} {v2:Wd} {q2:Rat} (hl:yB q1+yB q2+1≤1099511627776) (hy:q2≠0):Con yh 165 [.agg #[u1.b,u1.l,v1.b,v1.l],.agg #[u2.b,u2.l,v2.b,v2.l]] [] [qF k1 u1 v1 (q1),qF k2 u2 v2 (q2)] (Y:=(Wd)×(Wd)) (fun y=>True) (fun y=> .tuple #[.agg #[y.1.b,y.1.l,y.2.b,y.2.l],ya yb (0)]) (fun y=>[]) (fun y=>[qF true y.1 y.2 (q1 / q2)]):=by
  have h:= @zVd k1 u1 v1 q1 k2 u2 v2 q2 hl
  rw [if_neg hy,decide_eq_true hy] at h
  exact h
end Go.Proofs.YtkohlohbogpooaaGreat.Sp
namespace Go.Proofs.YtkohlohbogpooaaGreat.Sp
open Go
set_option linter.unusedVariables false
set_option maxRecDepth 100000
set_option maxHeartbeats 8000000
theorem zbd {z:Int} (hz: -9223372036854775808≤z∧z≤9223372036854775807):Con yh 84 [ya yb z] [] [] (Y:=(Option Addr)×Nat) (fun y=>True) (fun y=> .agg #[.bool (decide (z<0)),.slice (y.1) ((yd ((z).natAbs)).length) (y.2)]) (fun y=>[]) (fun y=>[slF (rI .u32) (y.1) (y.2) (yd ((z).natAbs))]):=by
 refine zl Tryz.func84 rfl rfl rfl (fun c=> ?_)
 show RunC _ _ _ _ _ [(0,ya yb z)] [] []
 refine ze<|za<|zK rfl rfl (zw zr26 rfl) (fun b1=> ?_)
 refine zf<|zc<|ze<|za<|e_mv rfl<|zu rfl rfl (.c rfl .n) ce123 (zof (z:=z) (hz:=ass)) (.n) ?_
 rintro ⟨p22,c23⟩ -
 dsimp only [aq,nq,cq]
 refine zk 0 rfl rfl rfl rfl rfl sz26 rfl (.t2 .nil) .z<|zf<|zc<|zJ ?_
 exact zy Tryz.results84 (p22,c23) trivial (zp 0 ty26 rfl rfl (.t2 .nil)) rfl (ho:=(.n:PickO _ _ _)) ((.c (j:=0) rfl .n):SelR _ _ _)
theorem zxb {z:Int} (hz: -9223372036854775808≤z∧z≤9223372036854775807):Con yh 84 [ya yb (z)] [] [] (Y:=(Wd)) (fun y=>True) (fun y=> .agg #[y.b,y.l]) (fun y=>[]) (fun y=>[zF y (z)]):=by
  exact zMb (zbd hz)
theorem zDe {z:Int} (hz: -9223372036854775808≤z∧z≤9223372036854775807):Con yh 99 [ya yb z] [] [] (Y:=Wd×Wd) (fun y=>True) (fun y=> .agg #[y.1.b,y.1.l,y.2.b,y.2.l]) (fun y=>[]) (fun y=>[qF true y.1 y.2 ((z:Int):Rat)]):=by
 refine zl Tryz.func99 rfl rfl rfl (fun c=> ?_)
 show RunC _ _ _ _ _ [(0,ya yb z)] [] []
 refine ze<|za<|zK rfl rfl (zw zr28 rfl) (fun b1=> ?_)
 refine zf<|zc<|ze<|za<|e_mv rfl<|zu rfl rfl (.c rfl .n) ce84 (zxb (z:=z) (hz:=ass)) (.n) ?_
 rintro w32 -
 dsimp only [aq,nq,cq]
 refine zu rfl rfl (.c rfl .n) ce84 (zxb (z:=1) (hz:=by first|rfl|assumption|omega|(rw [ym];omega)|(decide +kernel))) (.n) ?_
 rintro w33 -
 dsimp only [aq,nq,cq]
 refine e_p (zN zr28 rfl yf (.c sz26 (.c sz26 .n)) (.c rfl (.c rfl .n)) (.c rfl rfl rfl (.t2 .nil) (.c rfl rfl rfl (.s2 (.t2 .nil)) .n)))<|zk 0 rfl rfl rfl rfl rfl sz28 rfl (.t4 .nil) .z<|zf<|zc<|zJ<|zjb (qF true w32 w33 ((z:Int):Rat)) (qF_close 1 0 rfl rfl (by exact ⟨(Rat.num_intCast z).symm,by rw [Rat.den_intCast];rfl,Nat.le_trans (Big.hq_64 hz.1 hz.2) dd⟩)) ?_
 exact zy Tryz.results99 (w32,w33) trivial (zp 0 ty28 rfl rfl (.t4 .nil)) rfl (ho:=(.n:PickO _ _ _)) ((.c (j:=0) rfl .n):SelR _ _ _)
theorem zMc {s:Bool} {p1:Option Addr} {n1:Nat} {c1:Nat} {l1:List Int} {t:Bool} {p2:Option Addr} {n2:Nat} {c2:Nat} {l2:List Int} (hn1:l1.length=n1) (hn2:l2.length=n2) (hm1:n1≤1099511627776) (hm2:n2≤1099511627776):Con yh 53 [.agg #[.bool s,.slice p1 n1 c1,.bool t,.slice p2 n2 c2]] [] [slF (rI .u32) p1 c1 l1,slF (rI .u32) p2 c2 l2] (Y:=Unit) (fun y=>True) (fun y=> .bool (decide (Big.qok ((s,l1),(t,l2))))) (fun y=>[]) (fun y=>[]):=by
 refine zl Tryz.func53 rfl rfl rfl (fun c=> ?_)
 show RunC _ _ _ _ _ [(0,.agg #[.bool s,.slice p1 n1 c1,.bool t,.slice p2 n2 c2])] [] [slF (rI .u32) p1 c1 l1,slF (rI .u32) p2 c2 l2]
 refine zY 0 rfl (fun hL0=> ?_)
 refine zOa 0 rfl (fun hE0=> ?_)
 refine zY 1 rfl (fun hL1=> ?_)
 refine zOa 1 rfl (fun hE1=> ?_)
 have hnn1:yF l1:=fun g hg=>(zx.1 (hE0 g hg)).1
 have hnn2:yF l2:=fun g hg=>(zx.1 (hE1 g hg)).1
 have hb1:yq (yk s l1)≤n1:=by have:=yR (s:=s) hnn1;omega
 have hb2:yq (yk t l2)≤n2:=by have:=yR (s:=t) hnn2;omega
 refine ze<|za<|zK rfl rfl (zU rfl rfl) (fun b1=> ?_)
 refine e_p (zb rfl)<|zf<|zc<|ze<|zGa (X:=Unit) (fun x=>True) (fun x=>[(18,.bool (decide (¬(yT s l1∧yT t l2∧0<yk t l2)))),(2,.bool false),(1,yc (some ⟨b1,0,none⟩))]) (fun x=>[boxA b1 28 [.bool s,.slice p1 n1 c1,.bool t,.slice p2 n2 c2]]) (fun x=>[slF (rI .u32) p1 c1 l1,slF (rI .u32) p2 c2 l2]) ?_ ?_
 ·
  refine za<|e_p (zh yf rfl sz26 rfl rfl)<|e_ru (zd 0 ty26 rfl rfl (.t2 .nil))<|zQ rfl rfl (.c rfl .n) ce81 (zfc (s:=s) (p:=p1) (n:=n1) (cap:=c1) (l:=l1) (hn:=ass)) (.c (j:=0) rfl .n)<|e_p (znb rfl)<|zW rfl rfl (zba rfl) (fun h2=> ?_) (fun h2=> ?_)
  ·
   refine e_no<|e_no<|e_no<|e_no<|e_p (zn rfl rfl)<|e_mv rfl<|e_no<|e_no<|e_no<|e_no<|e_p (zn rfl rfl)<|zf ?_
   exact zia () (show True from by first|trivial|omega|simp_all) ((.e rfl (congrArg Value.bool (by simp_all)) (.c rfl (.c rfl .n))):SubM _ _) (ho:=((.c (i:=0) rfl .n):PickO _ _ _)) ((.of [0,1] rfl):SelR _ _ _)
  ·
   refine e_p (zh yf rfl sz26 rfl rfl)<|e_ru (zd 0 ty26 rfl rfl (.s2 (.t2 .nil)))<|zQ rfl rfl (.c rfl .n) ce81 (zfc (s:=t) (p:=p2) (n:=n2) (cap:=c2) (l:=l2) (hn:=ass)) (.c (j:=1) rfl .n)<|e_p (znb rfl)<|e_p (zn rfl rfl)<|zW rfl rfl (zba rfl) (fun h3=> ?_) (fun h3=> ?_)
   ·
    refine e_no<|e_no<|e_no<|e_no<|e_p (zn rfl rfl)<|zf ?_
    exact zia () (show True from by first|trivial|omega|simp_all) ((.e rfl (congrArg Value.bool (by simp_all)) (.c rfl (.c rfl .n))):SubM _ _) (ho:=((.c (i:=0) rfl .n):PickO _ _ _)) ((.of [0,1] rfl):SelR _ _ _)
   ·
    refine e_p (zh yf rfl sz26 rfl rfl)<|e_ru (zd 0 ty26 rfl rfl (.s2 (.t2 .nil)))<|zQ rfl rfl (.c rfl .n) ce72 (zAd (s:=t) (p:=p2) (n:=n2) (cap:=c2) (l:=l2) (hn:=ass) (hln:=by first|rfl|assumption|omega|(rw [ym];omega)|(decide +kernel))) (.c (j:=1) rfl .n)<|e_p (zWe rfl rfl)<|e_p (zn rfl rfl)<|zf ?_
    exact zia () (show True from by first|trivial|omega|simp_all) ((.e rfl (congrArg Value.bool (by exact decide_eq_decide.2 (Big.sgn_le (Decidable.not_not.1 ‹_›) (Decidable.not_not.1 ‹_›)))) (.c rfl (.c rfl .n))):SubM _ _) (ho:=((.c (i:=0) rfl .n):PickO _ _ _)) ((.of [0,1] rfl):SelR _ _ _)
 ·
  rintro ⟨⟩ -
  try dsimp only
  refine zB rfl (fun hc=> ?_) (fun hc=> ?_)
  ·
   refine ze<|za<|e_p (zb rfl)<|zf<|zc<|zJ<|zm ?_
   exact zy Tryz.results53 () trivial (zo rfl) (congrArg Value.bool (decide_eq_false (fun h=>hc ⟨h.1,h.2.1,h.2.2.1⟩))) (ho:=(.n:PickO _ _ _)) (.n:SelR _ _ _)
  ·
   have hcc:=Decidable.not_not.1 hc
   have hgl:=Big.zyd (n:=yk s l1) (d:=yk t l2) om
   refine zv<|zc<|ze<|za<|e_p (zh yf rfl sz26 rfl rfl)<|e_ru (zd 0 ty26 rfl rfl (.t2 .nil))<|e_p (zh yf rfl sz26 rfl rfl)<|e_ru (zd 0 ty26 rfl rfl (.s2 (.t2 .nil)))<|zu rfl rfl (.c rfl (.c rfl .n)) ce83 (zme (s:=s) (p1:=p1) (n1:=n1) (c1:=c1) (l1:=l1) (t:=t) (p2:=p2) (n2:=n2) (c2:=c2) (l2:=l2) (hn1:=ass) (hn2:=ass) (hm1:=by first|rfl|assumption|omega|(rw [ym];omega)|(decide +kernel)) (hm2:=by first|rfl|assumption|omega|(rw [ym];omega)|(decide +kernel))) (.c (j:=0) rfl (.c (j:=1) rfl .n)) ?_
   rintro ⟨p34,c35⟩ -
   dsimp only [aq,nq,cq]
   refine zu rfl rfl (.c rfl .n) ce84 (zbd (z:=1) (hz:=by first|rfl|assumption|omega|(rw [ym];omega)|(decide +kernel))) (.n) ?_
   rintro ⟨p26,c27⟩ -
   dsimp only [aq,nq,cq]
   refine zQ rfl rfl (.c rfl (.c rfl .n)) ce82 (zid (x1:=((Nat.gcd (yk s l1).natAbs (yk t l2).natAbs:Nat):Int)) (x2:=1) (p1:=p34) (c1:=c35) (p2:=p26) (c2:=c27) (hb1:=by first|rfl|assumption|omega|(rw [ym];omega)|(decide +kernel)) (hb2:=by first|rfl|assumption|omega|(rw [ym];omega)|(decide +kernel))) (.c (j:=1) rfl (.c (j:=0) rfl .n))<|e_p (zta rfl rfl)<|e_p (zb rfl)<|zf<|zc<|zJ ?_
   exact zy Tryz.results53 () trivial (zo rfl) (congrArg Value.bool (decide_eq_decide.2 (Big.qok_sub (x:=((s,l1),(t,l2))) (Decidable.not_not.1 hc)).symm)) (ho:=(.n:PickO _ _ _)) (.n:SelR _ _ _)
theorem zpc {u1:Wd} {v1:Wd} {q1:Rat}:Con yh 53 [.agg #[u1.b,u1.l,v1.b,v1.l]] [] [qF true u1 v1 (q1)] (Y:=Unit) (fun y=>True) (fun y=> .bool true) (fun y=>[]) (fun y=>[]):=by
  exact zlf (fun x hx hk h1 h2=>by have h:= @zMc x.1.1 u1.p _ u1.c x.1.2 x.2.1 v1.p _ v1.c x.2.2 rfl rfl h1 h2;rw [decide_eq_true (hk rfl)] at h;exact h)
theorem zWd {s:Bool} {p1:Option Addr} {n1:Nat} {c1:Nat} {l1:List Int} {t:Bool} {p2:Option Addr} {n2:Nat} {c2:Nat} {l2:List Int} (hn1:l1.length=n1) (hn2:l2.length=n2) (hm1:n1≤1099511627776) (hm2:n2≤1099511627776):Con yh 64 [.agg #[.bool s,.slice p1 n1 c1,.bool t,.slice p2 n2 c2]] [] [slF (rI .u32) p1 c1 l1,slF (rI .u32) p2 c2 l2] (Y:=Wd×Wd) (fun y=>True) (fun y=> .agg #[y.1.b,y.1.l,y.2.b,y.2.l]) (fun y=>[]) (fun y=>[qF true y.1 y.2 (yO ((s,l1),(t,l2)))]):=by
 refine zl Tryz.func64 rfl rfl rfl (fun c=> ?_)
 show RunC _ _ _ _ _ [(0,.agg #[.bool s,.slice p1 n1 c1,.bool t,.slice p2 n2 c2])] [] [slF (rI .u32) p1 c1 l1,slF (rI .u32) p2 c2 l2]
 refine zY 0 rfl (fun hL0=> ?_)
 refine zOa 0 rfl (fun hE0=> ?_)
 refine zY 1 rfl (fun hL1=> ?_)
 refine zOa 1 rfl (fun hE1=> ?_)
 have hnn1:yF l1:=fun g hg=>(zx.1 (hE0 g hg)).1
 have hnn2:yF l2:=fun g hg=>(zx.1 (hE1 g hg)).1
 have hb1:yq (yk s l1)≤n1:=by have:=yR (s:=s) hnn1;omega
 have hb2:yq (yk t l2)≤n2:=by have:=yR (s:=t) hnn2;omega
 refine ze<|za<|zK rfl rfl (zU rfl rfl) (fun b1=> ?_)
 refine zK rfl rfl (zw zr28 rfl) (fun b2=> ?_)
 refine zf<|zc<|ze<|ze<|za<|e_ru (zd 1 ty28 rfl rfl (.t4 .nil))<|zQ rfl rfl (.c rfl .n) ce53 (zMc (s:=s) (p1:=p1) (n1:=n1) (c1:=c1) (l1:=l1) (t:=t) (p2:=p2) (n2:=n2) (c2:=c2) (l2:=l2) (hn1:=ass) (hn2:=ass) (hm1:=ass) (hm2:=ass)) (.c (j:=0) rfl (.c (j:=1) rfl .n))<|zf<|zc<|zB rfl (fun hq=> ?_) (fun hq=> ?_)
 ·
  have hrp:=Big.raw_parts (x:=((s,l1),(t,l2))) hnn1 hnn2 hq
  have hqp:=yU (x:=((s,l1),(t,l2))) hq
  have hl:yB (yO ((s,l1),(t,l2)))≤1099511627776:=by unfold yB;rw [hqp.1,hqp.2];dsimp only;omega
  refine ze<|za<|e_ru (zd 1 ty28 rfl rfl (.t4 .nil))<|zk 0 rfl rfl rfl rfl rfl sz28 rfl (.t4 .nil) .z<|zf<|zc<|zJ<|zm<|zjb (qF true ⟨s,p1,n1,c1⟩ ⟨t,p2,n2,c2⟩ (yO ((s,l1),(t,l2)))) (fun g r=>qF_rawI 0 1 rfl rfl hn1 hn2 hm1 hm2 hq g r) ?_
  exact zy Tryz.results64 (⟨s,p1,n1,c1⟩,⟨t,p2,n2,c2⟩) trivial (zp 0 ty28 rfl rfl (.t4 .nil)) rfl (ho:=(.n:PickO _ _ _)) ((.c (j:=0) rfl .n):SelR _ _ _)
 ·
  have hz:=Big.qv_not (x:=((s,l1),(t,l2))) hq
  refine zv<|zc<|ze<|za<|zu rfl rfl (.c rfl .n) ce99 (zDe (z:=0) (hz:=by first|rfl|assumption|omega|(rw [ym];omega)|(decide +kernel))) (.n) ?_
  rintro ⟨w33,w44⟩ -
  dsimp only [aq,nq,cq]
  refine zk 0 rfl rfl rfl rfl rfl sz28 rfl (.t4 .nil) .z<|zf<|zc<|zJ ?_
  exact zy Tryz.results64 (w33,w44) trivial (zp 0 ty28 rfl rfl (.t4 .nil)) rfl (ho:=(.n:PickO _ _ _)) ((.e (j:=0) rfl (by rw [hz];rfl) .n):SelR _ _ _)
theorem zmb {k1:Bool} {u1:Wd} {v1:Wd} {q1:Rat}:Con yh 64 [.agg #[u1.b,u1.l,v1.b,v1.l]] [] [qF k1 u1 v1 (q1)] (Y:=(Wd)×(Wd)) (fun y=>True) (fun y=> .agg #[y.1.b,y.1.l,y.2.b,y.2.l]) (fun y=>[]) (fun y=>[qF true y.1 y.2 (q1)]):=by
  exact zmf (fun x hx hk h1 h2 hl=>by subst hx;exact zWd rfl rfl h1 h2)
theorem zqc {w1:Wd} {w2:Wd} {x1:Int} {x2:Int} (hl1:yq x1≤1099511627776) (hl2:yq x2≤1099511627776) (hd:x2≠0):Con yh 95 [.agg #[w1.b,w1.l],.agg #[w2.b,w2.l]] [] [zF w1 x1,zF w2 x2] (Y:=Wd×Wd) (fun y=>True) (fun y=> .agg #[y.1.b,y.1.l,y.2.b,y.2.l]) (fun y=>[]) (fun y=>[qF true y.1 y.2 (Rat.divInt x1 x2)]):=by
 refine zl Tryz.func95 rfl rfl rfl (fun c=> ?_)
 show RunC _ _ _ _ _ [(0,.agg #[w1.b,w1.l]),(1,.agg #[w2.b,w2.l])] [] [zF w1 x1,zF w2 x2]
 refine ze<|za<|zK rfl rfl (zU rfl rfl) (fun b1=> ?_)
 refine zK rfl rfl (zU rfl rfl) (fun b2=> ?_)
 refine zK rfl rfl (zw zr28 rfl) (fun b3=> ?_)
 refine zf<|zc<|ze<|za<|e_ru (zd 2 ty26 rfl rfl (.t2 .nil))<|e_ru (zd 1 ty26 rfl rfl (.t2 .nil))<|zu rfl rfl (.c rfl (.c rfl .n)) ce83 (zuf (w1:=w1) (w2:=w2) (x1:=x1) (x2:=x2) (hb1:=by first|rfl|assumption|omega|(rw [ym];omega)|(decide +kernel)) (hb2:=by first|rfl|assumption|omega|(rw [ym];omega)|(decide +kernel))) (.c (j:=0) rfl (.c (j:=1) rfl .n)) ?_
 rintro w34 -
 dsimp only [aq,nq,cq]
 refine zK rfl rfl (zw zr26 rfl) (fun b5=> ?_)
 refine zk 0 rfl rfl rfl rfl rfl sz26 rfl (.t2 .nil) .z<|zf<|zc<|ze<|ze<|za<|e_ru (zd 2 ty26 rfl rfl (.t2 .nil))<|zQ rfl rfl (.c rfl .n) ce72 (zgc (w1:=w2) (x1:=x2) (hln:=by first|rfl|assumption|omega|(rw [ym];omega)|(decide +kernel))) (.c (j:=2) rfl .n)<|e_p (zT rfl rfl)<|zf<|zc<|zB rfl (fun hneg=> ?_) (fun hneg=> ?_)
 ·
  have hs:x2<0:=by rcases Big.sign_le (x:=x2) with h|h|h <;> omega
  have hgp:=yG (n:=x1) (d:=x2) om
  have hgl:=Big.zyd (n:=x1) (d:=x2) om
  obtain ⟨hr1,hr2⟩:=Big.red_neg (n:=x1) hs
  refine za<|e_ru (zd 0 ty26 rfl rfl (.t2 .nil))<|zu rfl rfl (.c rfl .n) ce98 (zzd (w1:=w34) (x1:=((Nat.gcd x1.natAbs x2.natAbs:Nat):Int)) (hln:=by first|rfl|assumption|omega|(rw [ym];omega)|(decide +kernel))) (.c (j:=0) rfl .n) ?_
  rintro w36 -
  dsimp only [aq,nq,cq]
  refine zk 0 rfl rfl rfl rfl rfl sz26 rfl (.t2 .nil) .z<|zf<|zc<|ze<|za<|e_ru (zd 3 ty26 rfl rfl (.t2 .nil))<|e_ru (zd 0 ty26 rfl rfl (.t2 .nil))<|zu rfl rfl (.c rfl (.c rfl .n)) ce135 (zkb (w1:=w1) (w2:=w36) (x1:=x1) (x2:= - ((Nat.gcd x1.natAbs x2.natAbs:Nat):Int)) (hb1:=by first|rfl|assumption|omega|(rw [ym];omega)|(decide +kernel)) (hb2:=by first|rfl|assumption|omega|(rw [ym];omega)|(decide +kernel)) (hy:=by first|rfl|assumption|omega|(rw [ym];omega)|(decide +kernel))) (.c (j:=2) rfl (.c (j:=0) rfl .n)) ?_
  rintro ⟨w37,w48⟩ -
  dsimp only [aq,nq,cq]
  refine e_mv rfl<|e_p (zq rfl rfl)<|e_p (zq rfl rfl)<|e_p (zq rfl rfl)<|zK rfl rfl (zw zr26 rfl) (fun b9=> ?_)
  refine zK rfl rfl (zw zr26 rfl) (fun b10=> ?_)
  refine zk 1 rfl rfl rfl rfl rfl sz26 rfl (.t2 .nil) (.s .z)<|zk 0 rfl rfl rfl rfl rfl sz26 rfl (.t2 .nil) .z<|e_p (zb rfl)<|zf<|zc<|ze<|za<|e_ru (zd 4 ty26 rfl rfl (.t2 .nil))<|e_ru (zd 2 ty26 rfl rfl (.t2 .nil))<|zu rfl rfl (.c rfl (.c rfl .n)) ce135 (zkb (w1:=w2) (w2:=w36) (x1:=x2) (x2:= - ((Nat.gcd x1.natAbs x2.natAbs:Nat):Int)) (hb1:=by first|rfl|assumption|omega|(rw [ym];omega)|(decide +kernel)) (hb2:=by first|rfl|assumption|omega|(rw [ym];omega)|(decide +kernel)) (hy:=by first|rfl|assumption|omega|(rw [ym];omega)|(decide +kernel))) (.c (j:=5) rfl (.c (j:=2) rfl .n)) ?_
  rintro ⟨w311,w412⟩ -
  dsimp only [aq,nq,cq]
  refine e_mv rfl<|e_p (zq rfl rfl)<|e_p (zq rfl rfl)<|e_p (zq rfl rfl)<|zK rfl rfl (zw zr26 rfl) (fun b13=> ?_)
  refine zK rfl rfl (zw zr26 rfl) (fun b14=> ?_)
  refine zk 1 rfl rfl rfl rfl rfl sz26 rfl (.t2 .nil) (.s .z)<|zk 0 rfl rfl rfl rfl rfl sz26 rfl (.t2 .nil) .z<|e_p (zb rfl)<|zf<|zc<|ze<|za<|e_ru (zd 3 ty26 rfl rfl (.t2 .nil))<|e_ru (zd 1 ty26 rfl rfl (.t2 .nil))<|e_p (zN zr28 rfl yf (.c sz26 (.c sz26 .n)) (.c rfl (.c rfl .n)) (.c rfl rfl rfl (.t2 .nil) (.c rfl rfl rfl (.s2 (.t2 .nil)) .n)))<|zk 5 rfl rfl rfl rfl rfl sz28 rfl (.t4 .nil) (.s (.s (.s (.s (.s .z)))))<|zf<|zc<|zJ<|zjb (qF true w37 w311 (Rat.divInt x1 x2)) (qF_close 2 0 rfl rfl (by exact ⟨hr1,hr2,Nat.le_trans (yS hd) om⟩)) ?_
  exact zy Tryz.results95 (w37,w311) trivial (zp 5 ty28 rfl rfl (.t4 .nil)) rfl (ho:=(.n:PickO _ _ _)) ((.c (j:=0) rfl .n):SelR _ _ _)
 ·
  have hs:0<x2:=by rcases Big.sign_le (x:=x2) with h|h|h <;> omega
  have hgp:=yG (n:=x1) (d:=x2) om
  have hgl:=Big.zyd (n:=x1) (d:=x2) om
  obtain ⟨hr1,hr2⟩:=Big.red_pos (n:=x1) hs
  refine zv<|zc<|ze<|za<|e_ru (zd 3 ty26 rfl rfl (.t2 .nil))<|e_ru (zd 0 ty26 rfl rfl (.t2 .nil))<|zu rfl rfl (.c rfl (.c rfl .n)) ce135 (zkb (w1:=w1) (w2:=w34) (x1:=x1) (x2:=((Nat.gcd x1.natAbs x2.natAbs:Nat):Int)) (hb1:=by first|rfl|assumption|omega|(rw [ym];omega)|(decide +kernel)) (hb2:=by first|rfl|assumption|omega|(rw [ym];omega)|(decide +kernel)) (hy:=by first|rfl|assumption|omega|(rw [ym];omega)|(decide +kernel))) (.c (j:=1) rfl (.c (j:=0) rfl .n)) ?_
  rintro ⟨w315,w416⟩ -
  dsimp only [aq,nq,cq]
  refine e_mv rfl<|e_p (zq rfl rfl)<|e_p (zq rfl rfl)<|e_p (zq rfl rfl)<|zK rfl rfl (zw zr26 rfl) (fun b17=> ?_)
  refine zK rfl rfl (zw zr26 rfl) (fun b18=> ?_)
  refine zk 1 rfl rfl rfl rfl rfl sz26 rfl (.t2 .nil) (.s .z)<|zk 0 rfl rfl rfl rfl rfl sz26 rfl (.t2 .nil) .z<|e_p (zb rfl)<|zf<|zc<|ze<|za<|e_ru (zd 4 ty26 rfl rfl (.t2 .nil))<|e_ru (zd 2 ty26 rfl rfl (.t2 .nil))<|zu rfl rfl (.c rfl (.c rfl .n)) ce135 (zkb (w1:=w2) (w2:=w34) (x1:=x2) (x2:=((Nat.gcd x1.natAbs x2.natAbs:Nat):Int)) (hb1:=by first|rfl|assumption|omega|(rw [ym];omega)|(decide +kernel)) (hb2:=by first|rfl|assumption|omega|(rw [ym];omega)|(decide +kernel)) (hy:=by first|rfl|assumption|omega|(rw [ym];omega)|(decide +kernel))) (.c (j:=4) rfl (.c (j:=2) rfl .n)) ?_
  rintro ⟨w319,w420⟩ -
  dsimp only [aq,nq,cq]
  refine e_mv rfl<|e_p (zq rfl rfl)<|e_p (zq rfl rfl)<|e_p (zq rfl rfl)<|zK rfl rfl (zw zr26 rfl) (fun b21=> ?_)
  refine zK rfl rfl (zw zr26 rfl) (fun b22=> ?_)
  refine zk 1 rfl rfl rfl rfl rfl sz26 rfl (.t2 .nil) (.s .z)<|zk 0 rfl rfl rfl rfl rfl sz26 rfl (.t2 .nil) .z<|e_p (zb rfl)<|zf<|zc<|ze<|za<|e_ru (zd 3 ty26 rfl rfl (.t2 .nil))<|e_ru (zd 1 ty26 rfl rfl (.t2 .nil))<|e_p (zN zr28 rfl yf (.c sz26 (.c sz26 .n)) (.c rfl (.c rfl .n)) (.c rfl rfl rfl (.t2 .nil) (.c rfl rfl rfl (.s2 (.t2 .nil)) .n)))<|zk 5 rfl rfl rfl rfl rfl sz28 rfl (.t4 .nil) (.s (.s (.s (.s (.s .z)))))<|zf<|zc<|zJ<|zjb (qF true w315 w319 (Rat.divInt x1 x2)) (qF_close 2 0 rfl rfl (by exact ⟨hr1,hr2,Nat.le_trans (yS hd) om⟩)) ?_
  exact zy Tryz.results95 (w315,w319) trivial (zp 5 ty28 rfl rfl (.t4 .nil)) rfl (ho:=(.n:PickO _ _ _)) ((.c (j:=0) rfl .n):SelR _ _ _)
theorem zYf {w1:Wd} {w2:Wd} {x1:Int} {x2:Int} (hl1:yq x1≤1099511627776) (hl2:yq x2≤1099511627776):Con yh 97 [.agg #[w1.b,w1.l],.agg #[w2.b,w2.l]] [] [zF w1 x1,zF w2 x2] (Y:=Wd×Wd) (fun y=>True) (fun y=> .tuple #[.agg #[y.1.b,y.1.l,y.2.b,y.2.l],ya yb (if x2=0 then 14 else 0)]) (fun y=>[]) (fun y=>[qF (decide (x2≠0)) y.1 y.2 (Rat.divInt x1 x2)]):=by
 refine zl Tryz.func97 rfl rfl rfl (fun c=> ?_)
 show RunC _ _ _ _ _ [(0,.agg #[w1.b,w1.l]),(1,.agg #[w2.b,w2.l])] [] [zF w1 x1,zF w2 x2]
 refine ze<|za<|zK rfl rfl (zU rfl rfl) (fun b1=> ?_)
 refine zK rfl rfl (zU rfl rfl) (fun b2=> ?_)
 refine zK rfl rfl (zw zr28 rfl) (fun b3=> ?_)
 refine e_p (zb rfl)<|zf<|zc<|ze<|ze<|za<|e_ru (zd 1 ty26 rfl rfl (.t2 .nil))<|zQ rfl rfl (.c rfl .n) ce72 (zgc (w1:=w2) (x1:=x2) (hln:=by first|rfl|assumption|omega|(rw [ym];omega)|(decide +kernel))) (.c (j:=1) rfl .n)<|e_p (zta rfl rfl)<|zf<|zc<|zB rfl (fun hz0=> ?_) (fun hz0=> ?_)
 ·
  have hx0:x2=0:=yE.1 hz0
  refine ze<|za<|e_p (zN zr28 rfl yf (.c sz26 (.c sz26 .n)) .n .n)<|zk 0 rfl rfl rfl rfl rfl sz28 rfl (.t4 .nil) .z<|e_p (zb rfl)<|zf<|zc<|zJ<|zm<|zjb (qF false wz wz 0) (fun g _=>qF_none g) ?_
  exact zqa Tryz.results97 (wz,wz) trivial (zp 0 ty28 rfl rfl (.t4 .nil)) (zo rfl) (by rw [if_pos hx0];rfl) (ho:=(.n:PickO _ _ _)) ((.e (j:=0) rfl (by rw [Big.divInt_nil hx0,decide_eq_false (not_not_intro hx0)]) .n):SelR _ _ _)
 ·
  have hx0:x2≠0:=fun e=>hz0 (yE.2 e)
  refine zv<|zc<|ze<|za<|e_ru (zd 2 ty26 rfl rfl (.t2 .nil))<|e_ru (zd 1 ty26 rfl rfl (.t2 .nil))<|zu rfl rfl (.c rfl (.c rfl .n)) ce95 (zqc (w1:=w1) (w2:=w2) (x1:=x1) (x2:=x2) (hl1:=ass) (hl2:=ass) (hd:=by first|rfl|assumption|omega|(rw [ym];omega)|(decide +kernel))) (.c (j:=0) rfl (.c (j:=1) rfl .n)) ?_
  rintro ⟨w34,w45⟩ -
  dsimp only [aq,nq,cq]
  refine zk 0 rfl rfl rfl rfl rfl sz28 rfl (.t4 .nil) .z<|e_p (zb rfl)<|zf<|zc<|zJ ?_
  exact zqa Tryz.results97 (w34,w45) trivial (zp 0 ty28 rfl rfl (.t4 .nil)) (zo rfl) (by rw [if_neg hx0]) (ho:=(.n:PickO _ _ _)) ((.e (j:=0) rfl (by rw [decide_eq_true hx0]) .n):SelR _ _ _)
theorem zZf {z1:Int} {z2:Int} (hz1: -9223372036854775808≤z1∧z1≤9223372036854775807) (hz2: -9223372036854775808≤z2∧z2≤9223372036854775807):Con yh 62 [ya yb z1,ya yb z2] [] [] (Y:=Wd×Wd) (fun y=>True) (fun y=> .tuple #[.agg #[y.1.b,y.1.l,y.2.b,y.2.l],ya yb (if z2=0 then 14 else 0)]) (fun y=>[]) (fun y=>[qF (decide (z2≠0)) y.1 y.2 (Rat.divInt z1 z2)]):=by
 refine zl Tryz.func62 rfl rfl rfl (fun c=> ?_)
 show RunC _ _ _ _ _ [(0,ya yb z1),(1,ya yb z2)] [] []
 have g1:=Big.zgd hz1.1 hz1.2
 have g2:=Big.zgd hz2.1 hz2.2
 refine ze<|za<|zK rfl rfl (zw zr28 rfl) (fun b1=> ?_)
 refine e_p (zb rfl)<|zf<|zc<|ze<|za<|e_mv rfl<|zu rfl rfl (.c rfl .n) ce84 (zxb (z:=z1) (hz:=ass)) (.n) ?_
 rintro w32 -
 dsimp only [aq,nq,cq]
 refine e_mv rfl<|zu rfl rfl (.c rfl .n) ce84 (zxb (z:=z2) (hz:=ass)) (.n) ?_
 rintro w33 -
 dsimp only [aq,nq,cq]
 refine zu rfl rfl (.c rfl (.c rfl .n)) ce97 (zYf (w1:=w32) (w2:=w33) (x1:=z1) (x2:=z2) (hl1:=by first|rfl|assumption|omega|(rw [ym];omega)|(decide +kernel)) (hl2:=by first|rfl|assumption|omega|(rw [ym];omega)|(decide +kernel))) (.c (j:=1) rfl (.c (j:=0) rfl .n)) ?_
 rintro ⟨w34,w45⟩ -
 dsimp only [aq,nq,cq]
 refine e_p (zq rfl rfl)<|e_p (zq rfl rfl)<|zk 0 rfl rfl rfl rfl rfl sz28 rfl (.t4 .nil) .z<|e_p (zb rfl)<|zf<|zc<|zJ ?_
 exact zqa Tryz.results62 (w34,w45) trivial (zp 0 ty28 rfl rfl (.t4 .nil)) (zo rfl) rfl (ho:=(.n:PickO _ _ _)) ((.c (j:=0) rfl .n):SelR _ _ _)
theorem zEe {z1:Int} {z2:Int} (hz1: -9223372036854775808≤z1∧z1≤9223372036854775807) (hz2: -9223372036854775808≤z2∧z2≤9223372036854775807) (hy:z2≠0):Con yh 62 [ya yb (z1),ya yb (z2)] [] [] (Y:=(Wd)×(Wd)) (fun y=>True) (fun y=> .tuple #[.agg #[y.1.b,y.1.l,y.2.b,y.2.l],ya yb (0)]) (fun y=>[]) (fun y=>[qF true y.1 y.2 (Rat.divInt z1 z2)]):=by
  have h:=zZf hz1 hz2
  rw [if_neg hy,decide_eq_true hy] at h
  exact h
theorem zcd {k1:Bool} {u1:Wd} {v1:Wd} {q1:Rat} (hl:yB q1≤1099511627776):Con yh 35 [.agg #[u1.b,u1.l,v1.b,v1.l]] [] [qF k1 u1 v1 q1] (Y:=Unit) (fun y=>True) (fun y=> ya yb (Big.sgq q1)) (fun y=>[]) (fun y=>[]):=by
 refine zl Tryz.func35 rfl rfl rfl (fun c=> ?_)
 show RunC _ _ _ _ _ [(0,.agg #[u1.b,u1.l,v1.b,v1.l])] [] [qF k1 u1 v1 q1]
 have a1:=yt q1
 have a2:=yu q1
 refine ze<|za<|zK rfl rfl (zU rfl rfl) (fun b1=> ?_)
 refine e_p (zb rfl)<|zf<|zc<|ze<|za<|e_ru (zd 0 ty28 rfl rfl (.t4 .nil))<|zu rfl rfl (.c rfl .n) ce64 (zmb (k1:=k1) (u1:=u1) (v1:=v1) (q1:=q1)) (.c (j:=0) rfl .n) ?_
 rintro ⟨w32,w43⟩ -
 dsimp only [aq,nq,cq]
 refine e_p (zkc yf rfl ty26 rfl (.t2 .nil))<|zCb (qF_open 0 rfl) (fun _ _=> ?_)
 refine zQ rfl rfl (.c rfl .n) ce72 (zgc (w1:=w32) (x1:=(q1).num) (hln:=by first|rfl|assumption|omega|(rw [ym];omega)|(decide +kernel))) (.c (j:=0) rfl .n)<|e_p (zb rfl)<|zf<|zc<|zJ ?_
 exact zy Tryz.results35 () trivial (zo rfl) rfl (ho:=(.n:PickO _ _ _)) (.n:SelR _ _ _)
theorem zxf {k1:Bool} {u1:Wd} {v1:Wd} {q1:Rat} (hl:yB q1≤1099511627776):Con yh 63 [.agg #[u1.b,u1.l,v1.b,v1.l]] [] [qF k1 u1 v1 q1] (Y:=Wd×Wd) (fun y=>True) (fun y=> .agg #[y.1.b,y.1.l,y.2.b,y.2.l]) (fun y=>[]) (fun y=>[qF true y.1 y.2 (- q1)]):=by
 refine zl Tryz.func63 rfl rfl rfl (fun c=> ?_)
 show RunC _ _ _ _ _ [(0,.agg #[u1.b,u1.l,v1.b,v1.l])] [] [qF k1 u1 v1 q1]
 have a1:=yt q1
 have a2:=yu q1
 refine ze<|za<|zK rfl rfl (zU rfl rfl) (fun b1=> ?_)
 refine zK rfl rfl (zw zr28 rfl) (fun b2=> ?_)
 refine zf<|zc<|ze<|za<|e_ru (zd 1 ty28 rfl rfl (.t4 .nil))<|zu rfl rfl (.c rfl .n) ce64 (zmb (k1:=k1) (u1:=u1) (v1:=v1) (q1:=q1)) (.c (j:=0) rfl .n) ?_
 rintro ⟨w33,w44⟩ -
 dsimp only [aq,nq,cq]
 refine zK rfl rfl (zw zr28 rfl) (fun b5=> ?_)
 refine zk 0 rfl rfl rfl rfl rfl sz28 rfl (.t4 .nil) .z<|zf<|zc<|ze<|zma (.c (i:=1) rfl (.c (i:=0) rfl (.c (i:=0) rfl .n)))<|zZ (OW:=[boxA b2 28 (cw [wz,wz])]) (O:=[boxA b5 28 (cw [w33,w44]),boxA b1 28 (cw [u1,v1])]) 6 mixed (.then .ret) kr<|e_pv 0 rfl rfl (zh yf rfl sz26 rfl rfl)<|e_uw 1 rfl rfl (zd 1 ty26 rfl rfl (.t2 .nil))<|e_pv 3 rfl rfl (zh yf rfl sz26 rfl rfl)<|e_uw 4 rfl rfl (zd 1 ty26 rfl rfl (.s2 (.t2 .nil)))<|zDb (qF_open 0 rfl) (fun _ _=> ?_)
 refine e_one 2 (zC rfl rfl rfl rfl (.c rfl .n) ce98 (zzd (w1:=w33) (x1:=(q1).num) (hln:=by first|rfl|assumption|omega|(rw [ym];omega)|(decide +kernel))) (.c (j:=0) rfl .n) ?_)
 rintro w36 -
 dsimp only [aq,nq,cq]
 refine e_pv 5 rfl rfl (zN zr28 rfl yf (.c sz26 (.c sz26 .n)) (.c rfl (.c rfl .n)) (.c rfl rfl rfl (.t2 .nil) (.c rfl rfl rfl (.s2 (.t2 .nil)) .n)))<|e_one 6 (zG kr rfl rfl rfl rfl rfl sz28 rfl (.t4 .nil) ?_)
 refine zX kr<|zc<|zJ<|zjb (qF true w36 w44 (- q1)) (qF_close 0 2 rfl rfl (by exact ⟨(Rat.neg_num q1).symm,by rw [Rat.neg_den],by rw [yP];exact hl⟩)) ?_
 exact zy Tryz.results63 (w36,w44) trivial (zp 0 ty28 rfl rfl (.t4 .nil)) rfl (ho:=(.n:PickO _ _ _)) ((.c (j:=0) rfl .n):SelR _ _ _)
theorem zJd {k1:Bool} {u1:Wd} {v1:Wd} {q1:Rat} {k2:Bool} {u2:Wd} {v2:Wd} {q2:Rat} (hl:yB q1+yB q2+1≤1099511627776):Con yh 65 [.agg #[u1.b,u1.l,v1.b,v1.l],.agg #[u2.b,u2.l,v2.b,v2.l]] [] [qF k1 u1 v1 q1,qF k2 u2 v2 q2] (Y:=Wd×Wd) (fun y=>True) (fun y=> .agg #[y.1.b,y.1.l,y.2.b,y.2.l]) (fun y=>[]) (fun y=>[qF true y.1 y.2 (q1+q2)]):=by
 refine zl Tryz.func65 rfl rfl rfl (fun c=> ?_)
 show RunC _ _ _ _ _ [(0,.agg #[u1.b,u1.l,v1.b,v1.l]),(1,.agg #[u2.b,u2.l,v2.b,v2.l])] [] [qF k1 u1 v1 q1,qF k2 u2 v2 q2]
 have a1:=yt q1
 have a2:=yu q1
 have a3:=yt q2
 have a4:=yu q2
 have b1:=yD q1.num q2.den
 have b2:=yD q2.num q1.den
 have b3:=Big.zEc (q1.num*q2.den) (q2.num*q1.den)
 have b4:=yD (q1.den:Int) q2.den
 have b5:=yD q1.num q2.num
 refine ze<|za<|zK rfl rfl (zU rfl rfl) (fun b1=> ?_)
 refine zK rfl rfl (zU rfl rfl) (fun b2=> ?_)
 refine zK rfl rfl (zw zr28 rfl) (fun b3=> ?_)
 refine zf<|zc<|ze<|za<|e_ru (zd 2 ty28 rfl rfl (.t4 .nil))<|zu rfl rfl (.c rfl .n) ce64 (zmb (k1:=k1) (u1:=u1) (v1:=v1) (q1:=q1)) (.c (j:=0) rfl .n) ?_
 rintro ⟨w34,w45⟩ -
 dsimp only [aq,nq,cq]
 refine zK rfl rfl (zw zr28 rfl) (fun b6=> ?_)
 refine zk 0 rfl rfl rfl rfl rfl sz28 rfl (.t4 .nil) .z<|zf<|zc<|ze<|za<|e_ru (zd 2 ty28 rfl rfl (.t4 .nil))<|zu rfl rfl (.c rfl .n) ce64 (zmb (k1:=k2) (u1:=u2) (v1:=v2) (q1:=q2)) (.c (j:=2) rfl .n) ?_
 rintro ⟨w37,w48⟩ -
 dsimp only [aq,nq,cq]
 refine zK rfl rfl (zw zr28 rfl) (fun b9=> ?_)
 refine zk 0 rfl rfl rfl rfl rfl sz28 rfl (.t4 .nil) .z<|zf<|zc<|ze<|zma (.c (i:=2) rfl (.c (i:=0) rfl (.c (i:=0) rfl (.c (i:=0) rfl (.c (i:=0) rfl .n)))))<|zZ (OW:=[boxA b3 28 (cw [wz,wz])]) (O:=[boxA b9 28 (cw [w37,w48]),boxA b6 28 (cw [w34,w45]),boxA b2 28 (cw [u2,v2]),boxA b1 28 (cw [u1,v1])]) 17 mixed (.then .ret) kr<|e_pv 0 rfl rfl (zh yf rfl sz26 rfl rfl)<|e_uw 1 rfl rfl (zd 2 ty26 rfl rfl (.t2 .nil))<|e_pv 2 rfl rfl (zh yf rfl sz26 rfl rfl)<|e_uw 3 rfl rfl (zd 1 ty26 rfl rfl (.s2 (.t2 .nil)))<|e_pv 5 rfl rfl (zh yf rfl sz26 rfl rfl)<|e_uw 6 rfl rfl (zd 1 ty26 rfl rfl (.t2 .nil))<|e_pv 7 rfl rfl (zh yf rfl sz26 rfl rfl)<|e_uw 8 rfl rfl (zd 2 ty26 rfl rfl (.s2 (.t2 .nil)))<|e_pv 11 rfl rfl (zh yf rfl sz26 rfl rfl)<|e_uw 12 rfl rfl (zd 2 ty26 rfl rfl (.s2 (.t2 .nil)))<|e_pv 13 rfl rfl (zh yf rfl sz26 rfl rfl)<|e_uw 14 rfl rfl (zd 1 ty26 rfl rfl (.s2 (.t2 .nil)))<|zDb (qF_open 1 rfl) (fun _ _=> ?_)
 refine zDb (qF_open 2 rfl) (fun _ _=> ?_)
 refine e_one 4 (zC rfl rfl rfl rfl (.c rfl (.c rfl .n)) ce96 (zHc (w1:=w34) (w2:=w48) (x1:=(q1).num) (x2:=(((q2).den:Nat):Int)) (hb1:=by first|rfl|assumption|omega|(rw [ym];omega)|(decide +kernel)) (hb2:=by first|rfl|assumption|omega|(rw [ym];omega)|(decide +kernel))) (.c (j:=2) rfl (.c (j:=1) rfl .n)) ?_)
 rintro w310 -
 dsimp only [aq,nq,cq]
 refine e_one 9 (zC rfl rfl rfl rfl (.c rfl (.c rfl .n)) ce96 (zHc (w1:=w37) (w2:=w45) (x1:=(q2).num) (x2:=(((q1).den:Nat):Int)) (hb1:=by first|rfl|assumption|omega|(rw [ym];omega)|(decide +kernel)) (hb2:=by first|rfl|assumption|omega|(rw [ym];omega)|(decide +kernel))) (.c (j:=1) rfl (.c (j:=4) rfl .n)) ?_)
 rintro w311 -
 dsimp only [aq,nq,cq]
 refine e_one 10 (zC rfl rfl rfl rfl (.c rfl (.c rfl .n)) ce100 (zsf (w1:=w310) (w2:=w311) (x1:=((q1).num)*(((q2).den:Nat):Int)) (x2:=((q2).num)*(((q1).den:Nat):Int)) (hb1:=by first|rfl|assumption|omega|(rw [ym];omega)|(decide +kernel)) (hb2:=by first|rfl|assumption|omega|(rw [ym];omega)|(decide +kernel))) (.c (j:=1) rfl (.c (j:=0) rfl .n)) ?_)
 rintro w312 -
 dsimp only [aq,nq,cq]
 refine e_one 15 (zC rfl rfl rfl rfl (.c rfl (.c rfl .n)) ce96 (zHc (w1:=w45) (w2:=w48) (x1:=(((q1).den:Nat):Int)) (x2:=(((q2).den:Nat):Int)) (hb1:=by first|rfl|assumption|omega|(rw [ym];omega)|(decide +kernel)) (hb2:=by first|rfl|assumption|omega|(rw [ym];omega)|(decide +kernel))) (.c (j:=6) rfl (.c (j:=4) rfl .n)) ?_)
 rintro w313 -
 dsimp only [aq,nq,cq]
 refine e_one 16 (zC rfl rfl rfl rfl (.c rfl (.c rfl .n)) ce95 (zqc (w1:=w312) (w2:=w313) (x1:=(((q1).num)*(((q2).den:Nat):Int))+(((q2).num)*(((q1).den:Nat):Int))) (x2:=(((q1).den:Nat):Int)*(((q2).den:Nat):Int)) (hl1:=by first|rfl|assumption|omega|(rw [ym];omega)|(decide +kernel)) (hl2:=by first|rfl|assumption|omega|(rw [ym];omega)|(decide +kernel)) (hd:=by exact Int.mul_ne_zero (yJ q1) (yJ q2))) (.c (j:=1) rfl (.c (j:=0) rfl .n)) ?_)
 rintro ⟨w314,w415⟩ -
 dsimp only [aq,nq,cq]
 refine e_one 17 (zG kr rfl rfl rfl rfl rfl sz28 rfl (.t4 .nil) ?_)
 refine zX kr<|zc<|zJ ?_
 exact zy Tryz.results65 (w314,w415) trivial (zp 0 ty28 rfl rfl (.t4 .nil)) rfl (ho:=(.n:PickO _ _ _)) ((.e (j:=0) rfl (by rw [Big.add_parts]) .n):SelR _ _ _)
theorem zKd {k1:Bool} {u1:Wd} {v1:Wd} {q1:Rat} {k2:Bool} {u2:Wd} {v2:Wd} {q2:Rat} (hl:yB q1+yB q2+1≤1099511627776):Con yh 28 [.agg #[u1.b,u1.l,v1.b,v1.l],.agg #[u2.b,u2.l,v2.b,v2.l]] [] [qF k1 u1 v1 q1,qF k2 u2 v2 q2] (Y:=Wd×Wd) (fun y=>True) (fun y=> .agg #[y.1.b,y.1.l,y.2.b,y.2.l]) (fun y=>[]) (fun y=>[qF true y.1 y.2 (q1 - q2)]):=by
 refine zl Tryz.func28 rfl rfl rfl (fun c=> ?_)
 show RunC _ _ _ _ _ [(0,.agg #[u1.b,u1.l,v1.b,v1.l]),(1,.agg #[u2.b,u2.l,v2.b,v2.l])] [] [qF k1 u1 v1 q1,qF k2 u2 v2 q2]
 have a1:=yt q1
 have a2:=yu q1
 have a3:=yt q2
 have a4:=yu q2
 refine ze<|za<|zK rfl rfl (zU rfl rfl) (fun b1=> ?_)
 refine zK rfl rfl (zU rfl rfl) (fun b2=> ?_)
 refine zK rfl rfl (zw zr28 rfl) (fun b3=> ?_)
 refine zf<|zc<|ze<|zZ (OW:=[boxA b3 28 (cw [wz,wz])]) (O:=[boxA b2 28 (cw [u2,v2]),boxA b1 28 (cw [u1,v1])]) 4 mixed (.then .ret) kr<|e_uw 0 rfl rfl (zd 2 ty28 rfl rfl (.t4 .nil))<|e_uw 1 rfl rfl (zd 1 ty28 rfl rfl (.t4 .nil))<|e_one 2 (zC rfl rfl rfl rfl (.c rfl .n) ce63 (zxf (k1:=k2) (u1:=u2) (v1:=v2) (q1:=q2) (hl:=by first|rfl|assumption|omega|(rw [ym];omega)|(decide +kernel)|(rw [yP];omega))) (.c (j:=1) rfl .n) ?_)
 rintro ⟨w34,w45⟩ -
 dsimp only [aq,nq,cq]
 refine e_one 3 (zC rfl rfl rfl rfl (.c rfl (.c rfl .n)) ce65 (zJd (k1:=k1) (u1:=u1) (v1:=v1) (q1:=q1) (k2:=true) (u2:=w34) (v2:=w45) (q2:= - q2) (hl:=by first|rfl|assumption|omega|(rw [ym];omega)|(decide +kernel)|(rw [yP];omega))) (.c (j:=1) rfl (.c (j:=0) rfl .n)) ?_)
 rintro ⟨w36,w47⟩ -
 dsimp only [aq,nq,cq]
 refine e_one 4 (zG kr rfl rfl rfl rfl rfl sz28 rfl (.t4 .nil) ?_)
 refine zX kr<|zc<|zJ ?_
 exact zy Tryz.results28 (w36,w47) trivial (zp 0 ty28 rfl rfl (.t4 .nil)) rfl (ho:=(.n:PickO _ _ _)) ((.e (j:=0) rfl (by rw [Rat.sub_eq_add_neg]) .n):SelR _ _ _)
theorem zod {k1:Bool} {u1:Wd} {v1:Wd} {q1:Rat} {k2:Bool} {u2:Wd} {v2:Wd} {q2:Rat} (hl:yB q1+yB q2+1≤1099511627776):Con yh 29 [.agg #[u1.b,u1.l,v1.b,v1.l],.agg #[u2.b,u2.l,v2.b,v2.l]] [] [qF k1 u1 v1 q1,qF k2 u2 v2 q2] (Y:=Unit) (fun y=>True) (fun y=> ya yb (Big.sgq (q1 - q2))) (fun y=>[]) (fun y=>[]):=by
 refine zl Tryz.func29 rfl rfl rfl (fun c=> ?_)
 show RunC _ _ _ _ _ [(0,.agg #[u1.b,u1.l,v1.b,v1.l]),(1,.agg #[u2.b,u2.l,v2.b,v2.l])] [] [qF k1 u1 v1 q1,qF k2 u2 v2 q2]
 have hsb:=Big.hq_sub q1 q2
 refine ze<|za<|zK rfl rfl (zU rfl rfl) (fun b1=> ?_)
 refine zK rfl rfl (zU rfl rfl) (fun b2=> ?_)
 refine e_p (zb rfl)<|zf<|zc<|ze<|za<|e_ru (zd 1 ty28 rfl rfl (.t4 .nil))<|e_ru (zd 0 ty28 rfl rfl (.t4 .nil))<|zu rfl rfl (.c rfl (.c rfl .n)) ce28 (zKd (k1:=k1) (u1:=u1) (v1:=v1) (q1:=q1) (k2:=k2) (u2:=u2) (v2:=v2) (q2:=q2) (hl:=ass)) (.c (j:=0) rfl (.c (j:=1) rfl .n)) ?_
 rintro ⟨w33,w44⟩ -
 dsimp only [aq,nq,cq]
 refine zQ rfl rfl (.c rfl .n) ce35 (zcd (k1:=true) (u1:=w33) (v1:=w44) (q1:=q1 - q2) (hl:=by first|rfl|assumption|omega|(rw [ym];omega)|(decide +kernel))) (.c (j:=0) rfl .n)<|e_p (zb rfl)<|zf<|zc<|zJ ?_
 exact zy Tryz.results29 () trivial (zo rfl) rfl (ho:=(.n:PickO _ _ _)) (.n:SelR _ _ _)
theorem zKb {u1:Wd} {v1:Wd} {q1:Rat} {u2:Wd} {v2:Wd} {q2:Rat} (hl:yB q1+yB q2+1≤1099511627776):Con yh 18 [.agg #[u1.b,u1.l,v1.b,v1.l],.agg #[u2.b,u2.l,v2.b,v2.l]] [] [qF true u1 v1 q1,qF true u2 v2 q2] (Y:=Unit) (fun y=>True) (fun y=> .bool (decide (q1=q2))) (fun y=>[]) (fun y=>[]):=by
 refine zl Tryz.func18 rfl rfl rfl (fun c=> ?_)
 show RunC _ _ _ _ _ [(0,.agg #[u1.b,u1.l,v1.b,v1.l]),(1,.agg #[u2.b,u2.l,v2.b,v2.l])] [] [qF true u1 v1 q1,qF true u2 v2 q2]
 refine ze<|za<|zK rfl rfl (zU rfl rfl) (fun b1=> ?_)
 refine zK rfl rfl (zU rfl rfl) (fun b2=> ?_)
 refine e_p (zb rfl)<|zf<|zc<|zGa (X:=Unit) (fun x=>True) (fun x=>[(4,.bool (decide (Big.sgq (q1 - q2)=0)))]) (fun x=>[boxA b2 28 (cw [u2,v2]),boxA b1 28 (cw [u1,v1])]) (fun x=>[qF true u1 v1 q1,qF true u2 v2 q2]) ?_ ?_
 ·
  refine za<|e_ru (zd 1 ty28 rfl rfl (.t4 .nil))<|zQ rfl rfl (.c rfl .n) ce53 (zpc (u1:=u1) (v1:=v1) (q1:=q1)) (.c (j:=0) rfl .n)<|e_mv rfl<|e_ru (zd 0 ty28 rfl rfl (.t4 .nil))<|zQ rfl rfl (.c rfl .n) ce53 (zpc (u1:=u2) (v1:=v2) (q1:=q2)) (.c (j:=1) rfl .n)<|e_p (zn rfl rfl)<|e_mv rfl<|e_ru (zd 1 ty28 rfl rfl (.t4 .nil))<|e_ru (zd 0 ty28 rfl rfl (.t4 .nil))<|zQ rfl rfl (.c rfl (.c rfl .n)) ce29 (zod (k1:=true) (u1:=u1) (v1:=v1) (q1:=q1) (k2:=true) (u2:=u2) (v2:=v2) (q2:=q2) (hl:=ass)) (.c (j:=0) rfl (.c (j:=1) rfl .n))<|e_p (zta rfl rfl)<|e_p (zn rfl rfl)<|e_p (zb rfl)<|zf ?_
  exact zia () (show True from by first|trivial|omega|simp_all) ((.c rfl .n):SubM _ _) (ho:=((.of [0,0] rfl):PickO _ _ _)) ((.of [0,1] rfl):SelR _ _ _)
 ·
  rintro ⟨⟩ -
  try dsimp only [cw]
  refine zJ ?_
  exact zy Tryz.results18 () trivial (zo rfl) (congrArg Value.bool (decide_eq_decide.2 Big.sgq_sub_zero.symm)) (ho:=(.n:PickO _ _ _)) (.n:SelR _ _ _)
end Go.Proofs.YtkohlohbogpooaaGreat.Sp
