/- Lemmas on the walk and plain lemmas that the claim of this folder uses; each states its own conditions. Lines were printed by a program of ours. -/
import Derived.Test.YtalfgjpbbongcaaZ10B
set_option linter.unusedVariables false
set_option linter.unusedSimpArgs false
set_option linter.unusedSectionVars false
namespace Go.Proofs.Ytalfgjpbbongcaa.Sp
open Go
set_option linter.unusedVariables false
set_option maxRecDepth 100000
set_option maxHeartbeats 1000000
theorem zmc {p:Option Addr} {n:Nat} {cap:Nat} {l:List Int} (hn:l.length=n):Con Try.prog 109 [.slice p n cap] [] [slF (rI .u32) p cap l] (Y:=Unit) (fun y=>True) (fun y=> .slice p ((Big.trimL l).length) cap) (fun y=>[]) (fun y=>[slF (rI .u32) p cap (Big.trimL l)]):=by
 refine zB Try.func109 rfl rfl rfl (fun c=> ?_)
 show RunC _ _ _ _ _ [(0,.slice p n cap)] [] [slF (rI .u32) p cap l]
 refine zoa 0 rfl (fun hL0=> ?_)
 refine zh<|za<|r_pv rfl rfl (ze rfl)<|zj<|zc<|zh<|zr<|zua (X:=Nat) (fun x:Nat=>x≤l.length∧Big.trimL (l.take x)=Big.trimL l) (fun x=>[(0,.slice p x cap),(2,.slice none 0 0)]) (fun x=>[]) (fun x=>[slF (rI .u32) p cap (l.take x),slF (rI .u32) p cap l]) (fun x:Nat=>x) n (show n≤l.length∧Big.trimL (l.take n)=Big.trimL l from by exact ⟨by omega,by rw [List.take_of_length_le (by omega)]⟩) ((.c rfl (.c rfl .n)):SubM _ _) (ho:=(.n:PickO _ _ _)) ((.e (j:=0) rfl (by rw [List.take_of_length_le (by omega)]) (.c (j:=0) rfl .n)):SelR _ _ _) ?_
 rintro k hI
 replace hI:k≤l.length∧Big.trimL (l.take k)=Big.trimL l:=hI
 try dsimp only
 obtain ⟨hk,hT⟩:=hI
 have hlt:(l.take k).length=k:=by rw [List.length_take];omega
 refine zh<|zLa (X:=Unit) (fun x=>True) (fun x=>[(14,.bool (decide (0<k∧l.getD (k - 1) 0=0))),(0,.slice p k cap),(2,.slice none 0 0)]) (fun x=>[]) (fun x=>[slF (rI .u32) p cap (l.take k),slF (rI .u32) p cap l]) ?_ ?_
 ·
  refine za<|r_pv rfl rfl (zb rfl)<|r_pv rfl rfl (zX Try.underlying32 rfl)<|r_pv rfl rfl (zRa rfl rfl)<|zZ rfl rfl (zb rfl) (fun h1=> ?_) (fun h1=> ?_)
  ·
   refine r_pv rfl rfl (zb rfl)<|r_pv rfl rfl (zb rfl)<|r_pv rfl rfl (zX Try.underlying32 rfl)<|r_pv rfl rfl (zOa (z:=(((k:Nat):Int) - 1)) rfl rfl (w64 (by omega)))<|zW (x0:=((l.take k).getD ((((k:Nat):Int) - 1).toNat) 0)) 0 ((((k:Nat):Int) - 1).toNat) rfl Try.underlying32 sz95 rfl rfl rfl (by first|rfl|assumption|(simp_all;done)|omega) rfl (by omega) (gD (d:=0) (by omega)) (fun b2 o3 hok4=> ?_)
   replace hok4:=zda.1 hok4
   refine r_u rfl rfl (zH (j:=0) 0 ty95 rfl rfl rfl rfl)<|r_pv rfl rfl (zxa rfl rfl)<|r_pv rfl rfl (zy rfl rfl)<|zj ?_
   exact zfa () (show True from by first|trivial|omega|simp_all) ((.e rfl (congrArg Value.bool (by rw [Big.getD_take l (by omega)];have h1:0<k:=(by omega);have h2:((k:Int) - 1).toNat=k - 1:=(by omega);simp [h1,h2])) (.c rfl (.c rfl .n))):SubM _ _) (ho:=(.n:PickO _ _ _)) ((.of [1,2] rfl):SelR _ _ _)
  ·
   refine zi rfl rfl<|zi rfl rfl<|zi rfl rfl<|zi rfl rfl<|zi rfl rfl<|zi rfl rfl<|zi rfl rfl<|r_pv rfl rfl (zy rfl rfl)<|zj ?_
   exact zfa () (show True from by first|trivial|omega|simp_all) ((.e rfl (congrArg Value.bool (by have h1:¬0<k:=(by omega);simp [h1])) (.c rfl (.c rfl .n))):SubM _ _) (ho:=(.n:PickO _ _ _)) ((.of [0,1] rfl):SelR _ _ _)
 ·
  rintro ⟨⟩ -
  try dsimp only
  refine zI rfl (fun hc=> ?_) (fun hc=> ?_)
  ·
   refine zw<|zc<|zr<|za<|r_pv rfl rfl (zb rfl)<|r_pv rfl rfl (zb rfl)<|r_pv rfl rfl (zX Try.underlying32 rfl)<|r_pv rfl rfl (zOa (z:=(((k - 1):Nat):Int)) rfl rfl (w64 (by omega)))<|r_pv rfl rfl (zBb (hi:=(k - 1)) Try.underlying32 sz95 rfl (.s rfl) (.inr ⟨_,rfl⟩) (by omega))<|zIc (zXb 0 rfl (k - 1) (by omega)) (fun _ _=> ?_)
   refine r_pv rfl rfl (ze rfl)<|zj<|zA<|zga (k - 1) (show (k - 1)≤l.length∧Big.trimL (l.take (k - 1))=Big.trimL l from by exact ⟨by omega,by rw [← hT,Big.trim_go l hc.1 hk hc.2]⟩) (by show k - 1<k;omega) ((.e rfl (by first|rfl|(congr 1;omega)|simp_all) (.c rfl .n)):SubM _ _) (ho:=(.n:PickO _ _ _)) ((.e (j:=0) rfl (by rw [List.take_take];congr 2;omega) (.c (j:=2) rfl .n)):SelR _ _ _)
  ·
   refine zaa<|zk<|zk<|zt<|zc<|zh<|za<|r_pv rfl rfl (zb rfl)<|r_pv rfl rfl (ze rfl)<|zj<|zc<|zP ?_
   have hfin:Big.trimL l=l.take k:=by rw [← hT];exact Big.trim_stop l hk hc
   exact zG Try.results109 () trivial (zz rfl) (by rw [hfin,hlt]) (ho:=(.n:PickO _ _ _)) ((.e (j:=0) rfl (by rw [hfin]) .n):SelR _ _ _)
theorem zie {p:Option Addr} {n:Nat} {cap:Nat} {l:List Int} {i:Nat} (hn:l.length=n) (hi:i≤4611686018427387904):Con Try.prog 117 [.slice p n cap,.int .i64 ((i:Nat):Int)] [] [slF (rI .u32) p cap l] (Y:=Unit) (fun y=>True) (fun y=> .int .u32 (l.getD i 0)) (fun y=>[]) (fun y=>[]):=by
 refine zB Try.func117 rfl rfl rfl (fun c=> ?_)
 show RunC _ _ _ _ _ [(0,.slice p n cap),(1,.int .i64 ((i:Nat):Int))] [] [slF (rI .u32) p cap l]
 refine zoa 0 rfl (fun hL0=> ?_)
 refine zh<|za<|r_pv rfl rfl (ze rfl)<|zj<|zc<|zh<|zh<|za<|r_pv rfl rfl (zb rfl)<|r_pv rfl rfl (zb rfl)<|r_pv rfl rfl (zX Try.underlying32 rfl)<|r_pv rfl rfl (zD rfl rfl)<|zj<|zc<|zI rfl (fun h1=> ?_) (fun h1=> ?_)
 ·
  refine zh<|za<|r_pv rfl rfl (zb rfl)<|r_pv rfl rfl (zb rfl)<|zW (x0:=(l.getD i 0)) 0 i rfl Try.underlying32 sz95 rfl rfl rfl (by first|rfl|assumption|(simp_all;done)|omega) rfl rfl (gD (d:=0) (by omega)) (fun b2 o3 hok4=> ?_)
  replace hok4:=zda.1 hok4
  refine r_u rfl rfl (zH (j:=0) 0 ty95 rfl rfl rfl rfl)<|r_pv rfl rfl (ze rfl)<|zj<|zc<|zP<|zl ?_
  exact zG Try.results117 () trivial (zz rfl) rfl (ho:=(.n:PickO _ _ _)) (.n:SelR _ _ _)
 ·
  refine zw<|zc<|zh<|za<|r_pv rfl rfl (ze rfl)<|zj<|zc<|zP ?_
  exact zG Try.results117 () trivial (zz rfl) (by rw [show l.getD i 0=0 by simp [List.getD,List.getElem?_eq_none (show l.length≤i by omega)]]) (ho:=(.n:PickO _ _ _)) (.n:SelR _ _ _)
theorem zJe {p1:Option Addr} {n1:Nat} {c1:Nat} {l1:List Int} {p2:Option Addr} {n2:Nat} {c2:Nat} {l2:List Int} (hn1:l1.length=n1) (hn2:l2.length=n2) (hb1:n1≤1099511627776) (hb2:n2≤1099511627776) (ho1:Big.okL l1) (ho2:Big.okL l2):Con Try.prog 110 [.slice p1 n1 c1,.slice p2 n2 c2] [] [slF (rI .u32) p1 c1 l1,slF (rI .u32) p2 c2 l2] (Y:=(Option Addr)×Nat) (fun y=>True) (fun y=> .slice (y.1) ((Big.digs (Big.valL l1+Big.valL l2).toNat).length) (y.2)) (fun y=>[]) (fun y=>[slF (rI .u32) (y.1) (y.2) (Big.digs (Big.valL l1+Big.valL l2).toNat)]):=by
 refine zB Try.func110 rfl rfl rfl (fun c=> ?_)
 show RunC _ _ _ _ _ [(0,.slice p1 n1 c1),(1,.slice p2 n2 c2)] [] [slF (rI .u32) p1 c1 l1,slF (rI .u32) p2 c2 l2]
 refine zoa 0 rfl (fun hL0=> ?_)
 refine zoa 1 rfl (fun hL1=> ?_)
 refine zh<|za<|r_pv rfl rfl (ze rfl)<|zj<|zc<|zh<|za<|r_pv rfl rfl (zb rfl)<|r_pv rfl rfl (zX Try.underlying32 rfl)<|r_pv rfl rfl (zb rfl)<|r_pv rfl rfl (zX Try.underlying32 rfl)<|r_pv rfl rfl (v:= .int .i64 (((max n1 n2):Nat):Int)) (by rw [show ((((max n1 n2):Nat):Int):Int)=max ((n1:Nat):Int) ((n2:Nat):Int) by omega];exact zUd rfl rfl)<|r_pv rfl rfl (zC (z:=((((max n1 n2)+1):Nat):Int)) rfl rfl (w64 (by omega)))<|zKa rfl rfl (zsc (r:=rI .u32) (k:=((max n1 n2)+1)) (x0:=0) (γ0:=()) Try.underlying32 inf95 rfl rfl rfl rfl (by omega) (by omega) rfl (fun _ _=>by exact zda.2 (by decide)) (by decide)) (fun b1 _=> ?_)
 refine r_pv rfl rfl (ze rfl)<|zj<|zc<|zh<|za<|r_pv rfl rfl (ze rfl)<|zj<|zc<|zh<|zh<|za<|r_pv rfl rfl (zb rfl)<|r_pv rfl rfl (zX Try.underlying32 rfl)<|r_pv rfl rfl (zb rfl)<|zj<|zc<|zr<|zua (X:=Nat×(List Int)×Int) (fun x:Nat×(List Int)×Int=>x.1≤max n1 n2+1∧x.2.1.length=x.1∧0≤x.2.2∧x.2.2≤1∧Big.okL x.2.1∧Big.valL x.2.1+Big.pw x.1*x.2.2=Big.valL (l1.take x.1)+Big.valL (l2.take x.1)) (fun x=>[(6,.int .u32 (x.2.2)),(18,.int .i64 ((x.1:Nat):Int)),(17,.int .i64 ((((max n1 n2)+1):Nat):Int)),(5,.slice (some ⟨b1,0,none⟩) ((max n1 n2)+1) ((max n1 n2)+1)),(4,.slice none 0 0),(0,.slice p1 n1 c1),(1,.slice p2 n2 c2)]) (fun x=>[rowA 95 (rI .u32) (some ⟨b1,0,none⟩) ((max n1 n2)+1) (x.2.1++List.replicate (max n1 n2+1 - x.1) 0)]) (fun x=>[slF (rI .u32) p1 c1 l1,slF (rI .u32) p2 c2 l2]) (fun x:Nat×(List Int)×Int=>max n1 n2+1 - x.1) (0,[],0) (show 0≤max n1 n2+1∧([]).length=0∧0≤0∧0≤1∧Big.okL ([])∧Big.valL ([])+Big.pw 0*0=Big.valL (l1.take 0)+Big.valL (l2.take 0) from by exact ⟨by omega,rfl,by decide,by decide,Big.okL_nil,by simp [Big.valL]⟩) ((.c rfl (.e rfl (by first|rfl|(congr 1;omega)|simp_all) (.of rfl))):SubM _ _) (ho:=((.e (i:=0) rfl (by simp) .n):PickO _ _ _)) ((.of [0,1] rfl):SelR _ _ _) ?_
 rintro ⟨i,os,cy⟩ hI
 replace hI:i≤max n1 n2+1∧os.length=i∧0≤cy∧cy≤1∧Big.okL os∧Big.valL os+Big.pw i*cy=Big.valL (l1.take i)+Big.valL (l2.take i):=hI
 try dsimp only
 obtain ⟨hi,hol,hc0,hc1,hok,hv⟩:=hI
 have hg1:=Big.okL_getD ho1 i
 have hg2:=Big.okL_getD ho2 i
 refine zh<|za<|r_pv rfl rfl (zD rfl rfl)<|zj<|zc<|zh<|zI rfl (fun h2=> ?_) (fun h2=> ?_)
 ·
  refine zw<|zc<|zh<|zr<|zh<|za<|r_pv rfl rfl (zb rfl)<|r_pv rfl rfl (ze rfl)<|zj<|zc<|zh<|za<|r_pv rfl rfl (zb rfl)<|r_pv rfl rfl (zb rfl)<|zY rfl rfl (.c rfl (.c rfl .n)) ce117 (zie (p:=p1) (n:=n1) (cap:=c1) (l:=l1) (i:=i) (hn:=by assumption) (hi:=by first|rfl|assumption|omega|(simp;done)|(simp;omega)|(simp_all;done))) (.c (j:=0) rfl .n)<|r_pv rfl rfl (zb rfl)<|r_pv rfl rfl (zb rfl)<|zY rfl rfl (.c rfl (.c rfl .n)) ce117 (zie (p:=p2) (n:=n2) (cap:=c2) (l:=l2) (i:=i) (hn:=by assumption) (hi:=by first|rfl|assumption|omega|(simp;done)|(simp;omega)|(simp_all;done))) (.c (j:=1) rfl .n)<|r_pv rfl rfl (zC (z:=(l1.getD i 0+l2.getD i 0)) rfl rfl (wu32 (by omega)))<|r_pv rfl rfl (zb rfl)<|r_pv rfl rfl (zC (z:=((l1.getD i 0+l2.getD i 0)+cy)) rfl rfl (wu32 (by omega)))<|r_pv rfl rfl (ze rfl)<|zj<|zc<|zh<|za<|r_pv rfl rfl (ze rfl)<|zj<|zc<|zh<|zh<|za<|r_pv rfl rfl (zb rfl)<|r_pv rfl rfl (zeb rfl rfl)<|zj<|zc<|zI rfl (fun hc=> ?_) (fun hc=> ?_)
  ·
   refine za<|r_pv rfl rfl (zb rfl)<|r_pv rfl rfl (zOa (z:=(((l1.getD i 0+l2.getD i 0)+cy) - 1000000000)) rfl rfl (wu32 (by omega)))<|r_pv rfl rfl (ze rfl)<|r_pv rfl rfl (ze rfl)<|zj<|zc<|za<|r_pv rfl rfl (zb rfl)<|r_pv rfl rfl (zb rfl)<|r_pv rfl rfl (zb rfl)<|r_pv rfl rfl (zBa (j:=i) Try.underlying32 sz95 rfl rfl rfl (by omega))<|zJa 0 rfl rfl rfl (zIa (j:=i) (x0:=(((l1.getD i 0+l2.getD i 0)+cy) - 1000000000)) (γ0:=()) rfl rfl (by first|omega|(rw [List.length_map];omega)|(simp only [List.length_set];omega)|(simp;omega)) rfl rfl sz95 (fun _ _=>by exact zda.2 (by omega))) (fun _=> .z) (fun _ _=> ?_)
   refine zj<|zA<|zc<|za<|r_pv rfl rfl (zC (z:=(((i+1):Nat):Int)) rfl rfl (w64 (by omega)))<|r_pv rfl rfl (zb rfl)<|zj<|zga ((i+1),os++[l1.getD i 0+l2.getD i 0+cy - 1000000000],1) (show (i+1)≤max n1 n2+1∧(os++[l1.getD i 0+l2.getD i 0+cy - 1000000000]).length=(i+1)∧0≤1∧1≤1∧Big.okL (os++[l1.getD i 0+l2.getD i 0+cy - 1000000000])∧Big.valL (os++[l1.getD i 0+l2.getD i 0+cy - 1000000000])+Big.pw (i+1)*1=Big.valL (l1.take (i+1))+Big.valL (l2.take (i+1)) from by exact ⟨by omega,by simp [hol],by decide,by decide,Big.okL_snoc hok (by omega) (by omega),Big.plus_step hol hv (by omega)⟩) (by show max n1 n2+1 - (i+1)<max n1 n2+1 - i;omega) ((.of rfl):SubM _ _) (ho:=((.e (i:=0) rfl (by rw [Big.set_pad hol (by omega)]) .n):PickO _ _ _)) ((.of [0,1] rfl):SelR _ _ _)
  ·
   refine zw<|zc<|za<|r_pv rfl rfl (zb rfl)<|r_pv rfl rfl (zb rfl)<|r_pv rfl rfl (zb rfl)<|r_pv rfl rfl (zBa (j:=i) Try.underlying32 sz95 rfl rfl rfl (by omega))<|zJa 0 rfl rfl rfl (zIa (j:=i) (x0:=((l1.getD i 0+l2.getD i 0)+cy)) (γ0:=()) rfl rfl (by first|omega|(rw [List.length_map];omega)|(simp only [List.length_set];omega)|(simp;omega)) rfl rfl sz95 (fun _ _=>by exact zda.2 (by omega))) (fun _=> .z) (fun _ _=> ?_)
   refine zj<|zA<|zc<|za<|r_pv rfl rfl (zC (z:=(((i+1):Nat):Int)) rfl rfl (w64 (by omega)))<|r_pv rfl rfl (zb rfl)<|zj<|zga ((i+1),os++[l1.getD i 0+l2.getD i 0+cy],0) (show (i+1)≤max n1 n2+1∧(os++[l1.getD i 0+l2.getD i 0+cy]).length=(i+1)∧0≤0∧0≤1∧Big.okL (os++[l1.getD i 0+l2.getD i 0+cy])∧Big.valL (os++[l1.getD i 0+l2.getD i 0+cy])+Big.pw (i+1)*0=Big.valL (l1.take (i+1))+Big.valL (l2.take (i+1)) from by exact ⟨by omega,by simp [hol],by decide,by decide,Big.okL_snoc hok (by omega) (by omega),Big.plus_step hol hv (by omega)⟩) (by show max n1 n2+1 - (i+1)<max n1 n2+1 - i;omega) ((.of rfl):SubM _ _) (ho:=((.e (i:=0) rfl (by rw [Big.set_pad hol (by omega)]) .n):PickO _ _ _)) ((.of [0,1] rfl):SelR _ _ _)
 ·
  have e3:os++List.replicate (max n1 n2+1 - i) 0=os:=by rw [show max n1 n2+1 - i=0 by omega];simp
  rw [e3]
  have hfin:=Big.plus_fin ho1 ho2 hok hc0 hol (by omega) hv
  have htr:Big.trimL os=Big.digs (Big.valL l1+Big.valL l2).toNat:=by rw [Big.digs_valL hok,hfin]
  refine zaa<|zk<|zk<|zt<|zc<|zh<|za<|r_pv rfl rfl (zb rfl)<|zEa 0 rfl .z<|zea rfl rfl (.c rfl .n) ce109 (zmc (p:=some ⟨b1,0,none⟩) (n:=((max n1 n2)+1)) (cap:=((max n1 n2)+1)) (l:=os) (hn:=by first|rfl|assumption|omega|(simp;done)|(simp;omega)|(simp_all;done))) (.c (j:=0) rfl .n) ?_
  rintro ⟨⟩ -
  dsimp only [List.append_eq,List.nil_append,List.cons_append]
  refine r_pv rfl rfl (ze rfl)<|zj<|zc<|zP ?_
  exact zG Try.results110 ((some ⟨b1,0,none⟩),((max n1 n2)+1)) trivial (zz rfl) (by rw [htr]) (ho:=(.n:PickO _ _ _)) ((.e (j:=0) rfl (by rw [htr]) .n):SelR _ _ _)
theorem zje {a:Nat} {b:Nat} {p1:Option Addr} {c1:Nat} {p2:Option Addr} {c2:Nat} (hb1:(Big.digs (a)).length≤1099511627776) (hb2:(Big.digs (b)).length≤1099511627776):Con Try.prog 110 [.slice (p1) ((Big.digs (a)).length) (c1),.slice (p2) ((Big.digs (b)).length) (c2)] [] [slF (rI .u32) (p1) (c1) (Big.digs (a)),slF (rI .u32) (p2) (c2) (Big.digs (b))] (Y:=(Option Addr)×(Nat)) (fun y=>True) (fun y=> .slice (y.1) ((Big.digs (a+b)).length) (y.2)) (fun y=>[]) (fun y=>[slF (rI .u32) (y.1) (y.2) (Big.digs (a+b))]):=by
  have h:= @zJe p1 (Big.digs a).length c1 (Big.digs a) p2 (Big.digs b).length c2 (Big.digs b) rfl rfl hb1 hb2 (Big.digs_ok a) (Big.digs_ok b)
  rw [Big.valL_digs,Big.valL_digs,show ((a:Int)+(b:Int)).toNat=a+b by omega] at h
  exact h
theorem zac {x:Int}:Con Try.prog 123 [.int .i64 x] [] [] (Y:=Unit) (fun y=>True) (fun y=> .bool false) (fun y=>[]) (fun y=>[]):=by
 refine zB Try.func123 rfl rfl rfl (fun c=> ?_)
 show RunC _ _ _ _ _ [(0,.int .i64 x)] [] []
 refine zh<|za<|r_pv rfl rfl (ze rfl)<|zj<|zc<|zh<|za<|r_pv rfl rfl (zb rfl)<|r_pv rfl rfl (zb rfl)<|r_pv rfl rfl (zZa rfl rfl)<|r_pv rfl rfl (ze rfl)<|zj<|zc<|zP ?_
 exact zG Try.results123 () trivial (zz rfl) (by simp) (ho:=(.n:PickO _ _ _)) (.n:SelR _ _ _)
theorem zbc {x:Int}:Con Try.prog 125 [.int .u32 x] [] [] (Y:=Unit) (fun y=>True) (fun y=> .bool false) (fun y=>[]) (fun y=>[]):=by
 refine zB Try.func125 rfl rfl rfl (fun c=> ?_)
 show RunC _ _ _ _ _ [(0,.int .u32 x)] [] []
 refine zh<|za<|r_pv rfl rfl (ze rfl)<|zj<|zc<|zh<|za<|r_pv rfl rfl (zb rfl)<|r_pv rfl rfl (zb rfl)<|r_pv rfl rfl (zZa rfl rfl)<|r_pv rfl rfl (ze rfl)<|zj<|zc<|zP ?_
 exact zG Try.results125 () trivial (zz rfl) (by simp) (ho:=(.n:PickO _ _ _)) (.n:SelR _ _ _)
theorem znd {u:Int} {v:Int}:Con Try.prog 118 [.int .i64 u,.int .i64 v] [] [] (Y:=Unit) (fun y=>True) (fun y=> .int .i64 (Big.cmp u v)) (fun y=>[]) (fun y=>[]):=by
 refine zB Try.func118 rfl rfl rfl (fun c=> ?_)
 show RunC _ _ _ _ _ [(0,.int .i64 u),(1,.int .i64 v)] [] []
 refine zh<|za<|r_pv rfl rfl (ze rfl)<|zj<|zc<|zh<|za<|r_pv rfl rfl (zb rfl)<|zY rfl rfl (.c rfl .n) ce123 (zac (x:=u)) (.n)<|r_pv rfl rfl (ze rfl)<|zj<|zc<|zh<|za<|r_pv rfl rfl (zb rfl)<|zY rfl rfl (.c rfl .n) ce123 (zac (x:=v)) (.n)<|r_pv rfl rfl (ze rfl)<|zj<|zc<|zh<|zh<|za<|r_pv rfl rfl (zb rfl)<|zj<|zc<|zva rfl rfl<|zw<|zc<|zh<|zh<|za<|r_pv rfl rfl (zb rfl)<|zj<|zc<|zva rfl rfl<|zw<|zc<|zh<|zh<|za<|r_pv rfl rfl (zb rfl)<|r_pv rfl rfl (zb rfl)<|r_pv rfl rfl (zD rfl rfl)<|zj<|zc<|zI rfl (fun h1=> ?_) (fun h1=> ?_)
 ·
  refine zh<|za<|r_pv rfl rfl (ze rfl)<|zj<|zc<|zP<|zl ?_
  exact zG Try.results118 () trivial (zz rfl) (by rw [Big.cmp_lt (by omega)]) (ho:=(.n:PickO _ _ _)) (.n:SelR _ _ _)
 ·
  refine zw<|zc<|zh<|zh<|za<|r_pv rfl rfl (zb rfl)<|r_pv rfl rfl (zb rfl)<|r_pv rfl rfl (zRa rfl rfl)<|zj<|zc<|zI rfl (fun h2=> ?_) (fun h2=> ?_)
  ·
   refine zh<|za<|r_pv rfl rfl (ze rfl)<|zj<|zc<|zP<|zl ?_
   exact zG Try.results118 () trivial (zz rfl) (by rw [Big.cmp_gt (by omega)]) (ho:=(.n:PickO _ _ _)) (.n:SelR _ _ _)
  ·
   refine zw<|zc<|zh<|za<|r_pv rfl rfl (ze rfl)<|zj<|zc<|zP ?_
   exact zG Try.results118 () trivial (zz rfl) (by rw [show Big.cmp u v=0 by simp [Big.cmp];omega]) (ho:=(.n:PickO _ _ _)) (.n:SelR _ _ _)
theorem zod {u:Int} {v:Int}:Con Try.prog 120 [.int .u32 u,.int .u32 v] [] [] (Y:=Unit) (fun y=>True) (fun y=> .int .i64 (Big.cmp u v)) (fun y=>[]) (fun y=>[]):=by
 refine zB Try.func120 rfl rfl rfl (fun c=> ?_)
 show RunC _ _ _ _ _ [(0,.int .u32 u),(1,.int .u32 v)] [] []
 refine zh<|za<|r_pv rfl rfl (ze rfl)<|zj<|zc<|zh<|za<|r_pv rfl rfl (zb rfl)<|zY rfl rfl (.c rfl .n) ce125 (zbc (x:=u)) (.n)<|r_pv rfl rfl (ze rfl)<|zj<|zc<|zh<|za<|r_pv rfl rfl (zb rfl)<|zY rfl rfl (.c rfl .n) ce125 (zbc (x:=v)) (.n)<|r_pv rfl rfl (ze rfl)<|zj<|zc<|zh<|zh<|za<|r_pv rfl rfl (zb rfl)<|zj<|zc<|zva rfl rfl<|zw<|zc<|zh<|zh<|za<|r_pv rfl rfl (zb rfl)<|zj<|zc<|zva rfl rfl<|zw<|zc<|zh<|zh<|za<|r_pv rfl rfl (zb rfl)<|r_pv rfl rfl (zb rfl)<|r_pv rfl rfl (zD rfl rfl)<|zj<|zc<|zI rfl (fun h1=> ?_) (fun h1=> ?_)
 ·
  refine zh<|za<|r_pv rfl rfl (ze rfl)<|zj<|zc<|zP<|zl ?_
  exact zG Try.results120 () trivial (zz rfl) (by rw [Big.cmp_lt (by omega)]) (ho:=(.n:PickO _ _ _)) (.n:SelR _ _ _)
 ·
  refine zw<|zc<|zh<|zh<|za<|r_pv rfl rfl (zb rfl)<|r_pv rfl rfl (zb rfl)<|r_pv rfl rfl (zRa rfl rfl)<|zj<|zc<|zI rfl (fun h2=> ?_) (fun h2=> ?_)
  ·
   refine zh<|za<|r_pv rfl rfl (ze rfl)<|zj<|zc<|zP<|zl ?_
   exact zG Try.results120 () trivial (zz rfl) (by rw [Big.cmp_gt (by omega)]) (ho:=(.n:PickO _ _ _)) (.n:SelR _ _ _)
  ·
   refine zw<|zc<|zh<|za<|r_pv rfl rfl (ze rfl)<|zj<|zc<|zP ?_
   exact zG Try.results120 () trivial (zz rfl) (by rw [show Big.cmp u v=0 by simp [Big.cmp];omega]) (ho:=(.n:PickO _ _ _)) (.n:SelR _ _ _)
theorem back_u32 {b:Nat} {p:Option Addr} {n cap:Nat} {l:List Int} (hn:l.length=n):Back Try.prog 124 [.pointer (some ⟨b,0,none⟩)] [atF b 0 [.slice p n cap],slF (rI .u32) p cap l] n (fun k=>[.int .i64 ((k:Nat):Int),.int .u32 (l.getD k 0)]):=by
  refine back_intro Try.func124 rfl rfl rfl (fun l0 c X Y φ ψ OO RR OS RS H x0 hx0=> ?_)
  show RunC _ _ _ _ _ [(0,.func (.yield l0) #[] #[]),(1,.pointer (some ⟨b,0,none⟩))] (OO x0) (atF b 0 [.slice p n cap] :: slF (rI .u32) p cap l :: RR x0)
  refine zoa 1 rfl (fun hL=> ?_)
  refine zh<|za<|r_u rfl rfl (zH (j:=0) 0 ty32 rfl rfl rfl rfl)<|r_pv rfl rfl (zX Try.underlying32 rfl)<|r_pv rfl rfl (zOa (z:=(((n:Nat):Int) - 1)) rfl rfl (w64 (by omega)))<|r_pv rfl rfl (ze rfl)<|zj<|zc<|zr<|zSd (X:=X×Nat) (fun z=>φ z.1 z.2∧z.2≤n) (fun z=>[(3,.int .i64 (((z.2:Nat):Int) - 1)),(1,.pointer (some ⟨b,0,none⟩)),(0,.func (.yield l0) #[] #[])]) (fun z=>OO z.1) (fun z=>atF b 0 [.slice p n cap] :: slF (rI .u32) p cap l :: RR z.1) (fun z=>z.2) (x0,n) ⟨hx0,Nat.le_refl _⟩ (.c rfl (.c rfl (.c rfl .n)):SubM _ _) (fun w m=>m) ?_
  rintro ⟨x,k⟩ ⟨hx,hk⟩
  dsimp only at hx hk
  try dsimp only
  refine zh<|zh<|za<|r_pv rfl rfl (zb rfl)<|r_pv rfl rfl (zeb rfl rfl)<|zj<|zc<|zI rfl (fun h=> ?_) (fun h=> ?_)
  · refine zw ?_
    refine zc ?_
    obtain ⟨j,rfl⟩:∃j,k=j+1:=⟨k - 1,by omega⟩
    rw [show (((j+1:Nat):Int) - 1)=(j:Int) by omega]
    refine zh<|zr<|zh<|za<|r_pv rfl rfl (zb rfl)<|r_pv rfl rfl (zb rfl)<|r_u rfl rfl (zH (j:=0) 0 ty32 rfl rfl rfl rfl)<|r_pv rfl rfl (zb rfl)<|zW (x0:=l.getD j 0) 1 j rfl Try.underlying32 sz95 rfl rfl rfl hn rfl rfl (gD (d:=0) (by omega)) (fun b2 o3 hok=> ?_)
    refine r_u rfl rfl (zH (j:=0) 0 ty95 rfl rfl rfl rfl)<|zZe (X:=X) (Y:=Y) (φ:=fun x'=>φ x' j) (ψ:=ψ) (OO:=OO) (RR:=fun x'=>[atF b 0 [.slice p n cap],slF (rI .u32) p cap l]++RR x') (OS:=OS) (RS:=RS) (vs:=[.int .i64 ((j:Nat):Int),.int .u32 (l.getD j 0)]) rfl rfl rfl (.c rfl (.c rfl .n)) (fun w m=>H x j w (by omega) hx (m.weaken fun h g s r a=>⟨h,g,s,r.2,Hp.le_refl _,Hp.le_refl _,a,fun _ _ e=> .inl e⟩)) (fun x' hx'=> ?_) (fun y hy=> ?_)
    · refine r_pv rfl rfl (zob rfl) ?_
      refine zj<|zc<|zva rfl rfl<|zw<|zA<|zc<|za<|r_pv rfl rfl (zb rfl)<|r_pv rfl rfl (zOa (z:=((j:Int) - 1)) rfl rfl (w64 (by omega)))<|r_pv rfl rfl (ze rfl)<|zj ?_
      exact zYe (x',j) ⟨hx',by show j≤n;omega⟩ (by show j<j+1;omega) (.c rfl (.c rfl (.c rfl .n)):SubM _ _) (fun w m=>m)
    · refine r_pv rfl rfl (zob rfl) ?_
      refine zj<|zc<|zT rfl rfl<|zP<|zq<|zl<|zl<|zq ?_
      exact zjd rfl y hy (fun w m=>m)
  · have hk0 : k = 0 := by omega
    subst hk0
    refine zaa<|zk<|zk<|zt<|p_endI ?_
    exact zid rfl x hx (fun w m=>m)
theorem zdd {p:Option Addr} {n:Nat} {cap:Nat}:Con Try.prog 119 [.slice p n cap] [] [] (Y:=Nat) (fun y=>True) (fun y=> .func (.func 124) #[] #[.pointer (some ⟨y,0,none⟩)]) (fun y=>[]) (fun y=>[atF y 0 [.slice p n cap]]):=by
 refine zB Try.func119 rfl rfl rfl (fun c=> ?_)
 show RunC _ _ _ _ _ [(0,.slice p n cap)] [] []
 refine zh<|za<|zS rfl rfl (zca rfl rfl) (fun b1=> ?_)
 refine r_pv rfl rfl (ze rfl)<|zj<|zc<|zh<|za<|r_pv rfl rfl (zoc .n (.c rfl .n))<|r_pv rfl rfl (ze rfl)<|zj<|zc<|zP<|zWd 0 rfl .z ?_
 exact zG Try.results119 b1 trivial (zz rfl) rfl (ho:=(.n:PickO _ _ _)) ((.c (j:=0) rfl .n):SelR _ _ _)
theorem zpd {a:Nat} {b:Nat} {p1:Option Addr} {c1:Nat} {p2:Option Addr} {c2:Nat}:Con Try.prog 111 [.slice p1 ((Big.digs a).length) c1,.slice p2 ((Big.digs b).length) c2] [] [slF (rI .u32) p1 c1 (Big.digs a),slF (rI .u32) p2 c2 (Big.digs b)] (Y:=Unit) (fun y=>True) (fun y=> .int .i64 (Big.cmp (a:Int) (b:Int))) (fun y=>[]) (fun y=>[]):=by
 refine zBd Try.func111 rfl rfl rfl (fun c=> ?_)
 show RunC _ _ _ _ _ [(0,.slice p1 ((Big.digs a).length) c1),(1,.slice p2 ((Big.digs b).length) c2)] [] [slF (rI .u32) p1 c1 (Big.digs a),slF (rI .u32) p2 c2 (Big.digs b)]
 refine zoa 0 rfl (fun hL0=> ?_)
 refine zoa 1 rfl (fun hL1=> ?_)
 refine zh<|za<|zS rfl rfl (zca rfl rfl) (fun b1=> ?_)
 refine zS rfl rfl (zn zr3 rfl) (fun b2=> ?_)
 refine zj<|zc<|zh<|zh<|za<|r_pv rfl rfl (zb rfl)<|r_pv rfl rfl (zX Try.underlying32 rfl)<|r_u rfl rfl (zd 1 ty32 rfl rfl rfl)<|r_pv rfl rfl (zX Try.underlying32 rfl)<|r_pv rfl rfl (zZa rfl rfl)<|zj<|zc<|zI rfl (fun hlen=> ?_) (fun hlen=> ?_)
 ·
  refine zh<|za<|r_pv rfl rfl (zb rfl)<|r_pv rfl rfl (zX Try.underlying32 rfl)<|r_u rfl rfl (zd 1 ty32 rfl rfl rfl)<|r_pv rfl rfl (zX Try.underlying32 rfl)<|zY rfl rfl (.c rfl (.c rfl .n)) ce118 (znd (u:=(((Big.digs a).length:Nat):Int)) (v:=(((Big.digs b).length:Nat):Int))) (.n)<|zx 0 rfl rfl rfl rfl rfl sz3 rfl (.take .nil) .z<|zj<|zc<|zP<|zl<|zcf ?_
  exact zG Try.results111 () trivial (zSb 0 ty3 rfl rfl rfl) (by rw [Big.cmp_len (by omega)]) (ho:=(.n:PickO _ _ _)) (.n:SelR _ _ _)
 ·
  replace hlen:(Big.digs a).length=(Big.digs b).length:=by omega
  refine zw<|zc<|zh<|zh<|za<|r_pv rfl rfl (zb rfl)<|zea rfl rfl (.c rfl .n) ce119 (zdd (p:=p1) (n:=(Big.digs a).length) (cap:=c1)) (.n) ?_
  rintro b3 -
  dsimp only [List.append_eq,List.nil_append,List.cons_append]
  refine zj<|zc<|zr<|zbf (fa:=[atF b3 0 [.slice p1 ((Big.digs a).length) c1],slF (rI .u32) p1 c1 (Big.digs a)]) (N:=((Big.digs a).length)) (encs:=fun k=>[.int .i64 ((k:Nat):Int),.int .u32 ((Big.digs a).getD k 0)]) rfl ce124 (back_u32 (by first|rfl|assumption|(simp_all;done)|omega)) (fun _=>rfl) rfl (X:=Unit) (Y:=Unit) (fun x k=>k≤(Big.digs a).length∧(Big.digs a).drop k=(Big.digs b).drop k) (fun y=>True) (fun x=>[boxA b2 3 [.int .i64 0],boxA b1 32 [.slice p2 ((Big.digs b).length) c2]]) (fun x=>[slF (rI .u32) p2 c2 (Big.digs b)]) (fun y=>[boxA b2 3 [.int .i64 (Big.cmp (a:Int) (b:Int))],boxA b1 32 [.slice p2 ((Big.digs b).length) c2]]) (fun y=>[atF b3 0 [.slice p1 ((Big.digs a).length) c1],slF (rI .u32) p1 c1 (Big.digs a),slF (rI .u32) p2 c2 (Big.digs b)]) (fun k=>[(6,.int .u32 ((Big.digs a).getD k 0)),(5,.int .i64 ((k:Nat):Int)),(20,.int .u32 ((Big.digs a).getD k 0)),(19,.int .i64 ((k:Nat):Int)),(18,.func (.func 124) #[] #[.pointer (some ⟨b3,0,none⟩)]),(17,.slice p1 ((Big.digs a).length) c1),(11,.bool (decide ((((Big.digs a).length:Nat):Int)≠(((Big.digs b).length:Nat):Int)))),(10,.int .i64 (((Big.digs b).length:Nat):Int)),(9,.slice p2 ((Big.digs b).length) c2),(8,.int .i64 (((Big.digs a).length:Nat):Int)),(7,.slice p1 ((Big.digs a).length) c1),(4,.pointer (some ⟨b2,0,none⟩)),(3,.pointer (some ⟨b1,0,none⟩)),(0,.slice p1 ((Big.digs a).length) c1),(1,.slice p2 ((Big.digs b).length) c2)]) () (show ((Big.digs a).length)≤(Big.digs a).length∧(Big.digs a).drop ((Big.digs a).length)=(Big.digs b).drop ((Big.digs a).length) from by exact ⟨Nat.le_refl _,by rw [List.drop_length,hlen,List.drop_length]⟩) (ho:=((.of [0,0] rfl):PickO _ _ _)) ((.of [0,1,2] rfl):SelR _ _ _) ?_ ?_ ?_ ?_
  ·
   intro l k O' R' Q' hP
   refine zh<|za<|r_pv rfl rfl (ze rfl)<|zj<|zc<|za<|r_pv rfl rfl (ze rfl)<|zj ?_
   exact hP
  ·
   rintro l4 D5 o6 o7 ⟨⟩ k hkN hI
   replace hI:(k+1)≤(Big.digs a).length∧(Big.digs a).drop (k+1)=(Big.digs b).drop (k+1):=hI
   try dsimp only
   have hg1:=Big.okL_getD (Big.digs_ok a) k
   have hg2:=Big.okL_getD (Big.digs_ok b) k
   refine zr<|zh<|za<|r_pv rfl rfl (zb rfl)<|r_u rfl rfl (zd 3 ty32 rfl rfl rfl)<|r_pv rfl rfl (zb rfl)<|zW (x0:=((Big.digs b).getD k 0)) 2 k rfl Try.underlying32 sz95 rfl rfl rfl (by first|rfl|assumption|(simp_all;done)|omega) rfl rfl (gD (d:=0) (by omega)) (fun b8 o9 hok10=> ?_)
   replace hok10:=zda.1 hok10
   refine r_u rfl rfl (zH (j:=0) 0 ty95 rfl rfl rfl rfl)<|r_pv rfl rfl (zZa rfl rfl)<|zj<|zc<|zI rfl (fun hne=> ?_) (fun hne=> ?_)
   ·
    refine zh<|za<|r_pv rfl rfl (zb rfl)<|r_u rfl rfl (zd 3 ty32 rfl rfl rfl)<|r_pv rfl rfl (zb rfl)<|zW (x0:=((Big.digs b).getD k 0)) 3 k rfl Try.underlying32 sz95 rfl rfl rfl (by first|rfl|assumption|(simp_all;done)|omega) rfl rfl (gD (d:=0) (by omega)) (fun b11 o12 hok13=> ?_)
    replace hok13:=zda.1 hok13
    refine r_u rfl rfl (zH (j:=0) 0 ty95 rfl rfl rfl rfl)<|zY rfl rfl (.c rfl (.c rfl .n)) ce120 (zod (u:=((Big.digs a).getD k 0)) (v:=((Big.digs b).getD k 0))) (.n)<|zx 2 rfl rfl rfl rfl rfl sz3 rfl (.take .nil) (.s (.s .z))<|zj<|zc<|zP<|zq ?_
    exact zkd () (show True from by first|trivial|omega) (ho:=((.c (i:=0) rfl (.c (i:=0) rfl (.e (i:=0) rfl (by rw [Big.cmp_at hlen (by omega) hI.2 hne]) (.c (i:=0) rfl .n)))):PickO _ _ _)) ((.of [2,3,4] rfl):SelR _ _ _)
   ·
    refine zw<|zA ?_
    exact zaf () (show k≤(Big.digs a).length∧(Big.digs a).drop k=(Big.digs b).drop k from by exact ⟨by omega,Big.drop_more (by omega) (by omega) hI.2 (Decidable.not_not.1 hne)⟩) (ho:=((.of [0,0,0,0] rfl):PickO _ _ _)) ((.of [1,2,3] rfl):SelR _ _ _)
  ·
   rintro D14 ⟨⟩ hI
   replace hI:0≤(Big.digs a).length∧(Big.digs a).drop 0=(Big.digs b).drop 0:=hI
   try dsimp only
   have heq:(Big.digs a)=(Big.digs b):=by simpa using hI.2
   have hab:=Big.cmp_eq heq
   refine zA<|zc<|zh<|za<|zx 1 rfl rfl rfl rfl rfl sz3 rfl (.take .nil) (.s .z)<|zj<|zc<|zP<|zVe 0 rfl rfl ?_
   exact zG Try.results111 () trivial (zSb 0 ty3 rfl rfl rfl) (by rw [hab];simp [Big.cmp]) (ho:=(.n:PickO _ _ _)) (.n:SelR _ _ _)
  ·
   rintro D15 ⟨⟩ hS
   replace hS:True:=hS
   try dsimp only
   refine zq<|zl<|zVe 0 rfl rfl ?_
   exact zG Try.results111 () trivial (zSb 0 ty3 rfl rfl rfl) rfl (ho:=(.n:PickO _ _ _)) (.n:SelR _ _ _)
theorem zGd {g:Int}:Con Try.prog 122 [.int .u32 g] [] [] (Y:=Unit) (fun y=>True) (fun y=> .bool (decide (1000000000≤g))) (fun y=>[]) (fun y=>[]):=by
 refine zB Try.func122 rfl rfl rfl (fun c=> ?_)
 show RunC _ _ _ _ _ [(0,.int .u32 g)] [] []
 refine zh<|za<|r_pv rfl rfl (ze rfl)<|zj<|zc<|zh<|za<|r_pv rfl rfl (zb rfl)<|r_pv rfl rfl (zeb rfl rfl)<|r_pv rfl rfl (ze rfl)<|zj<|zc<|zP ?_
 exact zG Try.results122 () trivial (zz rfl) rfl (ho:=(.n:PickO _ _ _)) (.n:SelR _ _ _)
theorem zHc {p:Option Addr} {n:Nat} {cap:Nat} {l:List Int} (hn:l.length=n):Con Try.prog 126 [.slice p n cap,.func (.func 122) #[] #[]] [] [slF (rI .u32) p cap l] (Y:=Int) (fun y=>(0≤y↔∃g∈l,1000000000≤g)) (fun y=> .int .i64 y) (fun y=>[]) (fun y=>[]):=by
 refine zB Try.func126 rfl rfl rfl (fun c=> ?_)
 show RunC _ _ _ _ _ [(0,.slice p n cap),(1,.func (.func 122) #[] #[])] [] [slF (rI .u32) p cap l]
 refine zoa 0 rfl (fun hL0=> ?_)
 refine zh<|za<|r_pv rfl rfl (ze rfl)<|zj<|zc<|zh<|zh<|za<|r_pv rfl rfl (zb rfl)<|r_pv rfl rfl (zX Try.underlying32 rfl)<|r_pv rfl rfl (zb rfl)<|zj<|zc<|zr<|zua (X:=Nat) (fun x:Nat=>x≤n∧∀j,j<x→l.getD j 0<1000000000) (fun x=>[(8,.int .i64 ((x:Nat):Int)),(7,.int .i64 ((n:Nat):Int)),(0,.slice p n cap),(1,.func (.func 122) #[] #[])]) (fun x=>[]) (fun x=>[slF (rI .u32) p cap l]) (fun x:Nat=>n - x) 0 (show 0≤n∧∀j,j<0→l.getD j 0<1000000000 from by exact ⟨by omega,fun j h=>by omega⟩) ((.e rfl (by first|rfl|(congr 1;omega)|simp_all) (.of rfl)):SubM _ _) (ho:=(.n:PickO _ _ _)) ((.c (j:=0) rfl .n):SelR _ _ _) ?_
 rintro i hI
 replace hI:i≤n∧∀j,j<i→l.getD j 0<1000000000:=hI
 try dsimp only
 obtain ⟨hi,hall⟩:=hI
 refine zh<|za<|r_pv rfl rfl (zD rfl rfl)<|zj<|zc<|zh<|zI rfl (fun h1=> ?_) (fun h1=> ?_)
 ·
  refine zw<|zc<|zh<|zr<|zh<|za<|r_pv rfl rfl (zb rfl)<|r_pv rfl rfl (ze rfl)<|zj<|zc<|zh<|za<|r_pv rfl rfl (zb rfl)<|r_pv rfl rfl (zb rfl)<|r_pv rfl rfl (zb rfl)<|zW (x0:=(l.getD i 0)) 0 i rfl Try.underlying32 sz95 rfl rfl rfl (by first|rfl|assumption|(simp_all;done)|omega) rfl rfl (gD (d:=0) (by omega)) (fun b2 o3 hok4=> ?_)
  replace hok4:=zda.1 hok4
  refine r_u rfl rfl (zH (j:=0) 0 ty95 rfl rfl rfl rfl)<|zjc (first:=[]) (cap:=[]) rfl rfl rfl (.c rfl .n) ce122 (zGd (g:=(l.getD i 0))) (.n) ?_
  rintro ⟨⟩ -
  dsimp only [List.append_eq,List.nil_append,List.cons_append]
  refine zj<|zc<|zI rfl (fun hb=> ?_) (fun hb=> ?_)
  ·
   refine zh<|za<|r_pv rfl rfl (zb rfl)<|r_pv rfl rfl (ze rfl)<|zj<|zc<|zP<|zq<|zl<|zl<|zq<|zl ?_
   exact zG Try.results126 ((i:Nat):Int) (⟨fun _=>⟨l.getD i 0,Big.getD_mem (by omega),hb⟩,fun _=>by omega⟩) (zz rfl) rfl (ho:=(.n:PickO _ _ _)) (.n:SelR _ _ _)
  ·
   refine zw<|zA<|zc<|za<|r_pv rfl rfl (zC (z:=(((i+1):Nat):Int)) rfl rfl (w64 (by omega)))<|r_pv rfl rfl (zb rfl)<|zj<|zga (i+1) (show (i+1)≤n∧∀j,j<(i+1)→l.getD j 0<1000000000 from by refine ⟨by omega,fun j hj=> ?_⟩;by_cases e:j=i;subst e;omega;exact hall j (by omega)) (by show n - (i+1)<n - i;omega) ((.of rfl):SubM _ _) (ho:=(.n:PickO _ _ _)) ((.c (j:=1) rfl .n):SelR _ _ _)
 ·
  refine zaa<|zk<|zk<|zt<|zc<|zh<|za<|r_pv rfl rfl (ze rfl)<|zj<|zc<|zP ?_
  exact zG Try.results126 (-1) (⟨fun h=>by omega,fun ⟨g,hg,hb⟩=>by obtain ⟨j,hj,e⟩:=Big.mem_getD hg;have:=hall j (by omega);omega⟩) (zz rfl) rfl (ho:=(.n:PickO _ _ _)) (.n:SelR _ _ _)
theorem zec {p:Option Addr} {n:Nat} {cap:Nat} {l:List Int} (hn:l.length=n):Con Try.prog 121 [.slice p n cap,.func (.func 122) #[] #[]] [] [slF (rI .u32) p cap l] (Y:=Unit) (fun y=>True) (fun y=> .bool (decide (∃g∈l,1000000000≤g))) (fun y=>[]) (fun y=>[]):=by
 refine zB Try.func121 rfl rfl rfl (fun c=> ?_)
 show RunC _ _ _ _ _ [(0,.slice p n cap),(1,.func (.func 122) #[] #[])] [] [slF (rI .u32) p cap l]
 refine zoa 0 rfl (fun hL0=> ?_)
 refine zh<|za<|r_pv rfl rfl (ze rfl)<|zj<|zc<|zh<|za<|r_pv rfl rfl (zb rfl)<|r_pv rfl rfl (zb rfl)<|zea rfl rfl (.c rfl (.c rfl .n)) ce126 (zHc (p:=p) (n:=n) (cap:=cap) (l:=l) (hn:=by assumption)) (.c (j:=0) rfl .n) ?_
 rintro r1 hr
 dsimp only [List.append_eq,List.nil_append,List.cons_append]
 replace hr:(0≤r1↔∃g∈l,1000000000≤g):=hr
 refine r_pv rfl rfl (zeb rfl rfl)<|r_pv rfl rfl (ze rfl)<|zj<|zc<|zP ?_
 exact zG Try.results121 () trivial (zz rfl) (congrArg Value.bool (decide_eq_decide.2 hr.symm)) (ho:=(.n:PickO _ _ _)) (.n:SelR _ _ _)
theorem zke {s:Bool} {p:Option Addr} {n:Nat} {cap:Nat} {l:List Int} (hn:l.length=n):Con Try.prog 113 [.agg #[.bool s,.slice p n cap]] [] [slF (rI .u32) p cap l] (Y:=Unit) (fun y=>True) (fun y=> .bool (decide (Big.canon s l))) (fun y=>[]) (fun y=>[]):=by
 refine zB Try.func113 rfl rfl rfl (fun c=> ?_)
 show RunC _ _ _ _ _ [(0,.agg #[.bool s,.slice p n cap])] [] [slF (rI .u32) p cap l]
 refine zoa 0 rfl (fun hL0=> ?_)
 refine zh<|za<|zS rfl rfl (zca rfl rfl) (fun b1=> ?_)
 refine r_pv rfl rfl (ze rfl)<|zj<|zc<|zh<|za<|r_pv rfl rfl (zm Try.underlying34 rfl sz32 rfl rfl)<|r_u rfl rfl (zd 0 ty32 rfl rfl rfl)<|r_pv rfl rfl (zX Try.underlying32 rfl)<|r_pv rfl rfl (ze rfl)<|zj<|zc<|zh<|zh<|za<|r_pv rfl rfl (zb rfl)<|r_pv rfl rfl (zxa rfl rfl)<|zj<|zc<|zI rfl (fun h0=> ?_) (fun h0=> ?_)
 ·
  refine zh<|za<|r_pv rfl rfl (zm Try.underlying34 rfl sz4 rfl rfl)<|r_u rfl rfl (zd 0 ty4 rfl rfl rfl)<|r_pv rfl rfl (zob rfl)<|r_pv rfl rfl (ze rfl)<|zj<|zc<|zP<|zl ?_
  exact zG Try.results113 () trivial (zz rfl) (congrArg Value.bool (by have:l.length=0:=(by omega);cases s <;> simp [Big.canon,this])) (ho:=(.n:PickO _ _ _)) (.n:SelR _ _ _)
 ·
  refine zw<|zc<|zLa (X:=Unit) (fun x=>True) (fun x=>[(2,.bool (decide (((l.getD ((((n:Nat):Int) - 1).toNat) 0)≠0)∧(¬(∃g∈l,1000000000≤g)))))]) (fun x=>[boxA b1 34 [.bool s,.slice p n cap]]) (fun x=>[slF (rI .u32) p cap l]) ?_ ?_
  ·
   refine za<|r_pv rfl rfl (zm Try.underlying34 rfl sz32 rfl rfl)<|r_u rfl rfl (zd 0 ty32 rfl rfl rfl)<|r_pv rfl rfl (zb rfl)<|r_pv rfl rfl (zOa (z:=(((n:Nat):Int) - 1)) rfl rfl (w64 (by omega)))<|zW (x0:=(l.getD ((((n:Nat):Int) - 1).toNat) 0)) 0 ((((n:Nat):Int) - 1).toNat) rfl Try.underlying32 sz95 rfl rfl rfl (by first|rfl|assumption|(simp_all;done)|omega) rfl (by omega) (gD (d:=0) (by omega)) (fun b2 o3 hok4=> ?_)
   replace hok4:=zda.1 hok4
   refine r_u rfl rfl (zH (j:=0) 0 ty95 rfl rfl rfl rfl)<|r_pv rfl rfl (zZa rfl rfl)<|zZ rfl rfl (zb rfl) (fun h5=> ?_) (fun h5=> ?_)
   ·
    refine r_pv rfl rfl (zm Try.underlying34 rfl sz32 rfl rfl)<|r_u rfl rfl (zd 0 ty32 rfl rfl rfl)<|zY rfl rfl (.c rfl (.c rfl .n)) ce121 (zec (p:=p) (n:=n) (cap:=cap) (l:=l) (hn:=by assumption)) (.c (j:=1) rfl .n)<|r_pv rfl rfl (zpc rfl)<|r_pv rfl rfl (zy rfl rfl)<|r_pv rfl rfl (ze rfl)<|zj ?_
    exact zfa () (show True from by first|trivial|omega|simp_all) ((.e rfl (congrArg Value.bool (by simp_all)) .n):SubM _ _) (ho:=((.c (i:=0) rfl .n):PickO _ _ _)) ((.c (j:=1) rfl .n):SelR _ _ _)
   ·
    refine zi rfl rfl<|zi rfl rfl<|zi rfl rfl<|zi rfl rfl<|r_pv rfl rfl (zy rfl rfl)<|r_pv rfl rfl (ze rfl)<|zj ?_
    exact zfa () (show True from by first|trivial|omega|simp_all) ((.e rfl (congrArg Value.bool (by simp_all)) .n):SubM _ _) (ho:=((.c (i:=0) rfl .n):PickO _ _ _)) ((.c (j:=1) rfl .n):SelR _ _ _)
  ·
   rintro ⟨⟩ -
   try dsimp only
   refine zP ?_
   exact zG Try.results113 () trivial (zz rfl) (congrArg Value.bool (decide_eq_decide.2 (by rw [Big.canon_more (by omega),hn];have e:((n:Int) - 1).toNat=n - 1:=(by omega);simp [e]))) (ho:=(.n:PickO _ _ _)) (.n:SelR _ _ _)
theorem zib {s:Bool} {p:Option Addr} {n:Nat} {cap:Nat} {l:List Int} (hn:l.length=n):Con Try.prog 91 [.agg #[.bool s,.slice p n cap]] [] [slF (rI .u32) p cap l] (Y:=(Option Addr)×Nat) (fun y=>True) (fun y=> .slice (y.1) ((Big.digs ((Big.raw s l).natAbs)).length) (y.2)) (fun y=>[]) (fun y=>[slF (rI .u32) (y.1) (y.2) (Big.digs ((Big.raw s l).natAbs))]):=by
 refine zB Try.func91 rfl rfl rfl (fun c=> ?_)
 show RunC _ _ _ _ _ [(0,.agg #[.bool s,.slice p n cap])] [] [slF (rI .u32) p cap l]
 refine zoa 0 rfl (fun hL0=> ?_)
 refine zCb 0 rfl (fun hE0=> ?_)
 have hnn:Big.nn l:=fun g hg=>(zda.1 (hE0 g hg)).1
 refine zh<|za<|zS rfl rfl (zca rfl rfl) (fun b1=> ?_)
 refine r_pv rfl rfl (ze rfl)<|zj<|zc<|zh<|zh<|za<|r_u rfl rfl (zf 0 ty34 rfl rfl (.take (.take .nil)))<|zY rfl rfl (.c rfl .n) ce113 (zke (s:=s) (p:=p) (n:=n) (cap:=cap) (l:=l) (hn:=by assumption)) (.c (j:=0) rfl .n)<|r_pv rfl rfl (zpc rfl)<|zj<|zc<|zI rfl (fun hc=> ?_) (fun hc=> ?_)
 ·
  refine zh<|za<|r_pv rfl rfl (ze rfl)<|zj<|zc<|zP<|zl ?_
  have hd:Big.digs (Big.raw s l).natAbs=[]:=by rw [Big.raw_digs hnn,if_neg hc]
  refine zvd (rI .u32) ?_
  exact zG Try.results91 (none,0) trivial (zz rfl) (by rw [hd];rfl) (ho:=(.n:PickO _ _ _)) ((.e (j:=0) rfl (by rw [hd]) .n):SelR _ _ _)
 ·
  refine zw<|zc<|zh<|za<|r_pv rfl rfl (zm Try.underlying34 rfl sz32 rfl rfl)<|r_u rfl rfl (zd 0 ty32 rfl rfl rfl)<|r_pv rfl rfl (ze rfl)<|zj<|zc<|zP ?_
  have hd:Big.digs (Big.raw s l).natAbs=l:=by rw [Big.raw_digs hnn,if_pos (Decidable.not_not.1 hc)]
  exact zG Try.results91 (p,cap) trivial (zz rfl) (by rw [hd,hn]) (ho:=(.n:PickO _ _ _)) ((.e (j:=0) rfl (by rw [hd]) .n):SelR _ _ _)
theorem zKe {s:Bool} {p:Option Addr} {n:Nat} {cap:Nat} {l:List Int} (hn:l.length=n) (ho:Big.okL l):Con Try.prog 88 [.bool s,.slice p n cap] [] [slF (rI .u32) p cap l] (Y:=(Option Addr)×Nat) (fun y=>True) (fun y=> .agg #[.bool (decide ((Big.sg s (Big.valL l))<0)),.slice (y.1) ((Big.digs ((Big.sg s (Big.valL l)).natAbs)).length) (y.2)]) (fun y=>[]) (fun y=>[slF (rI .u32) (y.1) (y.2) (Big.digs ((Big.sg s (Big.valL l)).natAbs))]):=by
 refine zB Try.func88 rfl rfl rfl (fun c=> ?_)
 show RunC _ _ _ _ _ [(0,.bool s),(1,.slice p n cap)] [] [slF (rI .u32) p cap l]
 refine zoa 0 rfl (fun hL0=> ?_)
 have htr:Big.trimL l=Big.digs (Big.sg s (Big.valL l)).natAbs:=by rw [Big.sg_abs (Big.valL_nonneg ho),Big.digs_valL ho]
 refine zh<|za<|zS rfl rfl (zn zr34 rfl) (fun b1=> ?_)
 refine zj<|zc<|zh<|za<|r_pv rfl rfl (zb rfl)<|zea rfl rfl (.c rfl .n) ce109 (zmc (p:=p) (n:=n) (cap:=cap) (l:=l) (hn:=by assumption)) (.c (j:=0) rfl .n) ?_
 rintro ⟨⟩ -
 dsimp only [List.append_eq,List.nil_append,List.cons_append]
 refine r_pv rfl rfl (ze rfl)<|zj<|zc<|zh<|zh<|za<|r_pv rfl rfl (zb rfl)<|r_pv rfl rfl (zX Try.underlying32 rfl)<|r_pv rfl rfl (zxa rfl rfl)<|zj<|zc<|zI rfl (fun h0=> ?_) (fun h0=> ?_)
 ·
  refine zh<|za<|r_pv rfl rfl (zna zr34 rfl Try.underlying34 (.c sz4 (.c sz32 .n)) .n .n)<|zx 0 rfl rfl rfl rfl rfl sz34 rfl (.take (.take .nil)) .z<|zj<|zc<|zP<|zl ?_
  have hz:Big.valL l=0:=Big.trim_zero ho (by omega)
  refine zvd (rI .u32) ?_
  exact zG Try.results88 (none,0) trivial (zV 0 ty34 rfl rfl (.take (.take .nil))) (by rw [hz,Big.sg_zero];rfl) (ho:=(.n:PickO _ _ _)) ((.e (j:=0) rfl (by rw [hz,Big.sg_zero];rfl) .n):SelR _ _ _)
 ·
  refine zw<|zc<|zh<|za<|r_pv rfl rfl (zb rfl)<|r_pv rfl rfl (zb rfl)<|r_pv rfl rfl (zna zr34 rfl Try.underlying34 (.c sz4 (.c sz32 .n)) (.c rfl (.c rfl .n)) (.c rfl rfl rfl (.take .nil) (.c rfl rfl rfl (.skip (.take .nil)) .n)))<|zx 0 rfl rfl rfl rfl rfl sz34 rfl (.take (.take .nil)) .z<|zj<|zc<|zP ?_
  have hp:0<Big.valL l:=Big.valL_pos ho (fun e=>h0 (by rw [e];rfl))
  exact zG Try.results88 (p,cap) trivial (zV 0 ty34 rfl rfl (.take (.take .nil))) (by rw [Big.sg_pos hp,htr]) (ho:=(.n:PickO _ _ _)) ((.e (j:=0) rfl (by rw [htr]) .n):SelR _ _ _)
theorem zxb {s:Bool} {a:Nat} {p:Option Addr} {cap:Nat}:Con Try.prog 88 [.bool (s),.slice (p) ((Big.digs (a)).length) (cap)] [] [slF (rI .u32) (p) (cap) (Big.digs (a))] (Y:=(Option Addr)×(Nat)) (fun y=>True) (fun y=> .agg #[.bool (decide ((Big.sg s (a:Int))<0)),.slice (y.1) ((Big.digs ((Big.sg s (a:Int)).natAbs)).length) (y.2)]) (fun y=>[]) (fun y=>[slF (rI .u32) (y.1) (y.2) (Big.digs ((Big.sg s (a:Int)).natAbs))]):=by
  have h:= @zKe s p (Big.digs a).length cap (Big.digs a) rfl (Big.digs_ok a)
  rw [Big.valL_digs] at h
  exact h
theorem zed {n0:Nat} (hn0:n0<18446744073709551616):Con Try.prog 89 [.int .u64 ((n0:Nat):Int)] [] [] (Y:=(Option Addr)×Nat) (fun y=>True) (fun y=> .slice (y.1) ((Big.digs n0).length) (y.2)) (fun y=>[]) (fun y=>[slF (rI .u32) (y.1) (y.2) (Big.digs n0)]):=by
 refine zB Try.func89 rfl rfl rfl (fun c=> ?_)
 show RunC _ _ _ _ _ [(0,.int .u64 ((n0:Nat):Int))] [] []
 refine zh<|za<|r_pv rfl rfl (ze rfl)<|zj<|zc<|zh<|za<|r_pv rfl rfl (ze rfl)<|zj<|zc<|zh<|zr<|zlc 95 (rI .u32)<|zua (X:=Nat×(Option Addr)×Nat×(List Int)) (fun x:Nat×(Option Addr)×Nat×(List Int)=>x.1≤n0∧x.2.2.2++Big.digs x.1=Big.digs n0) (fun x=>[(3,.slice (x.2.1) (x.2.2.2.length) (x.2.2.1)),(0,.int .u64 ((x.1:Nat):Int)),(2,.slice none 0 0)]) (fun x=>[rowA 95 (rI .u32) (x.2.1) (x.2.2.1) (x.2.2.2)]) (fun x=>[]) (fun x:Nat×(Option Addr)×Nat×(List Int)=>x.1) (n0,none,0,[]) (show n0≤n0∧([])++Big.digs n0=Big.digs n0 from by exact ⟨Nat.le_refl _,rfl⟩) ((.e rfl (by first|rfl|(congr 1;omega)|simp_all) (.c rfl (.c rfl .n))):SubM _ _) (ho:=((.c (i:=0) rfl .n):PickO _ _ _)) (.n:SelR _ _ _) ?_
 rintro ⟨n,p,c,os⟩ hI
 replace hI:n≤n0∧os++Big.digs n=Big.digs n0:=hI
 try dsimp only
 obtain ⟨hnn,hos⟩:=hI
 have hlen:os.length+(Big.digs n).length≤3:=by have:=congrArg List.length hos;rw [List.length_append] at this;have:=Big.zce hn0;omega
 refine zh<|zh<|za<|r_pv rfl rfl (zb rfl)<|r_pv rfl rfl (zRa rfl rfl)<|zj<|zc<|zI rfl (fun hc=> ?_) (fun hc=> ?_)
 ·
  refine zw<|zc<|zh<|zr<|za<|r_pv rfl rfl (zb rfl)<|r_pv rfl rfl (zb rfl)<|r_pv rfl rfl (zdb (z:=(((n%1000000000):Nat):Int)) rfl rfl (by omega) (remN (by omega) (by omega)))<|r_pv rfl rfl (zDa (z:=(((n%1000000000):Nat):Int)) rfl (by rw [Try.underlying123];rfl) Try.underlying95 (wu32 (by omega)))<|zKa rfl rfl (zJ (enc:=fun z:Int=>[.int .u32 z]) (ok:=InK .u32) (h1:=fun _=>rfl) (h2:=fun _=>rfl) (k:=1) Try.underlying32 inf95 rfl (by decide) (by decide) (by decide) (.c (x:=(((n%1000000000):Nat):Int)) rfl rfl (fun _ _=>by exact zda.2 (by omega)) .n)) (fun b1 _=> ?_)
  refine zEa 0 rfl .z<|zJa 1 rfl rfl rfl (zsa 0 rfl Try.underlying32 inf95 (by decide) rfl rfl (by first|rfl|assumption|(simp_all;done)|omega) rfl (by first|rfl|assumption|(simp_all;done)|omega) (by omega) (by omega)) (fun _=>(.s .z)) ?_
  rintro ⟨p2,c3⟩ -
  dsimp only [List.append_eq,List.nil_append,List.cons_append]
  refine r_pv rfl rfl (ze rfl)<|zj<|zA<|zc<|za<|r_pv rfl rfl (zb rfl)<|r_pv rfl rfl (zJc (z:=(((n / 1000000000):Nat):Int)) rfl rfl (by omega) (by rw [quoN (z:=(((n / 1000000000):Nat):Int)) (by omega) (by omega)];exact wu64 (by omega)))<|r_pv rfl rfl (ze rfl)<|zj<|zga ((n / 1000000000),p2,c3,os++[((n%1000000000:Nat):Int)]) (show (n / 1000000000)≤n0∧(os++[((n%1000000000:Nat):Int)])++Big.digs (n / 1000000000)=Big.digs n0 from by exact ⟨by omega,Big.split_step (by omega) hos⟩) (by show n / 1000000000<n;omega) ((.e rfl (by simp) (.c rfl (.c rfl .n))):SubM _ _) (ho:=((.e (i:=1) rfl (by first|rfl|(congr 1;omega)|simp_all) .n):PickO _ _ _)) (.n:SelR _ _ _)
 ·
  refine zaa<|zk<|zk<|zt<|zc<|zh<|za<|r_pv rfl rfl (zb rfl)<|r_pv rfl rfl (ze rfl)<|zj<|zc<|zP ?_
  have hz:n=0:=by omega
  subst hz
  have hd:os=Big.digs n0:=by simpa [Big.digs_zero] using hos
  refine zkb 0 rfl .z ?_
  exact zG Try.results89 (p,c) trivial (zz rfl) (by rw [hd]) (ho:=(.n:PickO _ _ _)) ((.e (j:=0) rfl (by rw [hd]) .n):SelR _ _ _)
theorem con_Of {z:Int} (hz: -9223372036854775808≤z∧z≤9223372036854775807):Con Try.prog 57 [.int .i64 z] [] [] (Y:=(Option Addr)×Nat) (fun y=>True) (fun y=> .agg #[.bool (decide (z<0)),.slice (y.1) ((Big.digs ((z).natAbs)).length) (y.2)]) (fun y=>[]) (fun y=>[slF (rI .u32) (y.1) (y.2) (Big.digs ((z).natAbs))]):=by
 refine zB Try.func57 rfl rfl rfl (fun c=> ?_)
 show RunC _ _ _ _ _ [(0,.int .i64 z)] [] []
 refine zh<|za<|zS rfl rfl (zn zr34 rfl) (fun b1=> ?_)
 refine zj<|zc<|zh<|za<|r_pv rfl rfl (zb rfl)<|r_pv rfl rfl (zDa (z:=(z%18446744073709551616)) rfl (by rw [Try.underlying3];rfl) Try.underlying123 (wu64m (by omega)))<|r_pv rfl rfl (ze rfl)<|zj<|zc<|zh<|zh<|za<|r_pv rfl rfl (zb rfl)<|r_pv rfl rfl (zD rfl rfl)<|zj<|zc<|zI rfl (fun hs=> ?_) (fun hs=> ?_)
 ·
  refine za<|r_pv rfl rfl (zb rfl)<|r_pv rfl rfl (zTe (z:=((z.natAbs:Nat):Int)) rfl (wu64m (by omega)))<|r_pv rfl rfl (ze rfl)<|zj<|zc<|zh<|za<|r_pv rfl rfl (zb rfl)<|r_pv rfl rfl (zD rfl rfl)<|r_pv rfl rfl (zb rfl)<|zea rfl rfl (.c rfl .n) ce89 (zed (n0:=z.natAbs) (hn0:=by omega)) (.n) ?_
  rintro ⟨p22,c23⟩ -
  dsimp only [List.append_eq,List.nil_append,List.cons_append]
  refine zea rfl rfl (.c rfl (.c rfl .n)) ce88 (zxb (s:=decide (z<0)) (a:=z.natAbs) (p:=p22) (cap:=c23)) (.c (j:=0) rfl .n) ?_
  rintro ⟨p24,c25⟩ -
  dsimp only [List.append_eq,List.nil_append,List.cons_append]
  refine zx 0 rfl rfl rfl rfl rfl sz34 rfl (.take (.take .nil)) .z<|zj<|zc<|zP ?_
  have hsg:Big.sg (decide (z<0)) (z.natAbs:Int)=z:=Big.sg_big z
  exact zG Try.results57 (p24,c25) trivial (zV 0 ty34 rfl rfl (.take (.take .nil))) (by rw [hsg]) (ho:=(.n:PickO _ _ _)) ((.e (j:=0) rfl (by rw [hsg]) .n):SelR _ _ _)
 ·
  have e6:((z%18446744073709551616):Int)=((z.natAbs:Nat):Int):=by omega
  rw [e6]
  refine zw<|zc<|zh<|za<|r_pv rfl rfl (zb rfl)<|r_pv rfl rfl (zD rfl rfl)<|r_pv rfl rfl (zb rfl)<|zea rfl rfl (.c rfl .n) ce89 (zed (n0:=z.natAbs) (hn0:=by omega)) (.n) ?_
  rintro ⟨p27,c28⟩ -
  dsimp only [List.append_eq,List.nil_append,List.cons_append]
  refine zea rfl rfl (.c rfl (.c rfl .n)) ce88 (zxb (s:=decide (z<0)) (a:=z.natAbs) (p:=p27) (cap:=c28)) (.c (j:=0) rfl .n) ?_
  rintro ⟨p29,c210⟩ -
  dsimp only [List.append_eq,List.nil_append,List.cons_append]
  refine zx 0 rfl rfl rfl rfl rfl sz34 rfl (.take (.take .nil)) .z<|zj<|zc<|zP ?_
  have hsg:Big.sg (decide (z<0)) (z.natAbs:Int)=z:=Big.sg_big z
  exact zG Try.results57 (p29,c210) trivial (zV 0 ty34 rfl rfl (.take (.take .nil))) (by rw [hsg]) (ho:=(.n:PickO _ _ _)) ((.e (j:=0) rfl (by rw [hsg]) .n):SelR _ _ _)
theorem zHb {z:Int} (hz: -9223372036854775808≤z∧z≤9223372036854775807):Con Try.prog 57 [.int .i64 (z)] [] [] (Y:=(Wd)) (fun y=>True) (fun y=> .agg #[y.b,y.l]) (fun y=>[]) (fun y=>[zF y (z)]):=by
  exact zkc (con_Of hz)
theorem zfd {a:Nat} {b:Nat} {p1:Option Addr} {c1:Nat} {p2:Option Addr} {c2:Nat} (hb1:(Big.digs a).length≤1099511627776) (hb2:(Big.digs b).length≤1099511627776) (hab:b≤a):Con Try.prog 112 [.slice p1 ((Big.digs a).length) c1,.slice p2 ((Big.digs b).length) c2] [] [slF (rI .u32) p1 c1 (Big.digs a),slF (rI .u32) p2 c2 (Big.digs b)] (Y:=(Option Addr)×Nat) (fun y=>True) (fun y=> .slice (y.1) ((Big.digs (a - b)).length) (y.2)) (fun y=>[]) (fun y=>[slF (rI .u32) (y.1) (y.2) (Big.digs (a - b))]):=by
 refine zB Try.func112 rfl rfl rfl (fun c=> ?_)
 show RunC _ _ _ _ _ [(0,.slice p1 ((Big.digs a).length) c1),(1,.slice p2 ((Big.digs b).length) c2)] [] [slF (rI .u32) p1 c1 (Big.digs a),slF (rI .u32) p2 c2 (Big.digs b)]
 refine zoa 0 rfl (fun hL0=> ?_)
 refine zoa 1 rfl (fun hL1=> ?_)
 refine zh<|za<|r_pv rfl rfl (ze rfl)<|zj<|zc<|zh<|za<|r_pv rfl rfl (zb rfl)<|r_pv rfl rfl (zX Try.underlying32 rfl)<|zKa rfl rfl (zsc (r:=rI .u32) (k:=(Big.digs a).length) (x0:=0) (γ0:=()) Try.underlying32 inf95 rfl rfl rfl rfl (by omega) (by omega) rfl (fun _ _=>by exact zda.2 (by decide)) (by decide)) (fun b1 _=> ?_)
 refine r_pv rfl rfl (ze rfl)<|zj<|zc<|zh<|za<|r_pv rfl rfl (ze rfl)<|zj<|zc<|zh<|zh<|za<|r_pv rfl rfl (zb rfl)<|r_pv rfl rfl (zX Try.underlying32 rfl)<|r_pv rfl rfl (zb rfl)<|zj<|zc<|zr<|zua (X:=Nat×(List Int)×Int) (fun x:Nat×(List Int)×Int=>x.1≤(Big.digs a).length∧x.2.1.length=x.1∧0≤x.2.2∧x.2.2≤1∧Big.okL x.2.1∧Big.valL x.2.1+Big.valL ((Big.digs b).take x.1)=Big.valL ((Big.digs a).take x.1)+Big.pw x.1*x.2.2) (fun x=>[(6,.int .u32 (x.2.2)),(14,.int .i64 ((x.1:Nat):Int)),(13,.int .i64 (((Big.digs a).length:Nat):Int)),(5,.slice (some ⟨b1,0,none⟩) ((Big.digs a).length) ((Big.digs a).length)),(4,.slice none 0 0),(0,.slice p1 ((Big.digs a).length) c1),(1,.slice p2 ((Big.digs b).length) c2)]) (fun x=>[rowA 95 (rI .u32) (some ⟨b1,0,none⟩) ((Big.digs a).length) (x.2.1++List.replicate ((Big.digs a).length - x.1) 0)]) (fun x=>[slF (rI .u32) p1 c1 (Big.digs a),slF (rI .u32) p2 c2 (Big.digs b)]) (fun x:Nat×(List Int)×Int=>(Big.digs a).length - x.1) (0,[],0) (show 0≤(Big.digs a).length∧([]).length=0∧0≤0∧0≤1∧Big.okL ([])∧Big.valL ([])+Big.valL ((Big.digs b).take 0)=Big.valL ((Big.digs a).take 0)+Big.pw 0*0 from by exact ⟨by omega,rfl,by decide,by decide,Big.okL_nil,by simp [Big.valL]⟩) ((.c rfl (.e rfl (by first|rfl|(congr 1;omega)|simp_all) (.of rfl))):SubM _ _) (ho:=((.e (i:=0) rfl (by simp) .n):PickO _ _ _)) ((.of [0,1] rfl):SelR _ _ _) ?_
 rintro ⟨i,os,bo⟩ hI
 replace hI:i≤(Big.digs a).length∧os.length=i∧0≤bo∧bo≤1∧Big.okL os∧Big.valL os+Big.valL ((Big.digs b).take i)=Big.valL ((Big.digs a).take i)+Big.pw i*bo:=hI
 try dsimp only
 obtain ⟨hi,hol,hc0,hc1,hok,hv⟩:=hI
 have hg1:=Big.okL_getD (Big.digs_ok a) i
 have hg2:=Big.okL_getD (Big.digs_ok b) i
 refine zh<|za<|r_pv rfl rfl (zD rfl rfl)<|zj<|zc<|zh<|zI rfl (fun h2=> ?_) (fun h2=> ?_)
 ·
  refine zw<|zc<|zh<|zr<|zh<|za<|r_pv rfl rfl (zb rfl)<|r_pv rfl rfl (ze rfl)<|zj<|zc<|zh<|za<|r_pv rfl rfl (zb rfl)<|r_pv rfl rfl (zb rfl)<|zY rfl rfl (.c rfl (.c rfl .n)) ce117 (zie (p:=p2) (n:=(Big.digs b).length) (cap:=c2) (l:=Big.digs b) (i:=i) (hn:=by first|rfl|assumption|omega|(simp;done)|(simp;omega)|(simp_all;done)) (hi:=by first|rfl|assumption|omega|(simp;done)|(simp;omega)|(simp_all;done))) (.c (j:=1) rfl .n)<|r_pv rfl rfl (zb rfl)<|r_pv rfl rfl (zC (z:=((Big.digs b).getD i 0+bo)) rfl rfl (wu32 (by omega)))<|r_pv rfl rfl (ze rfl)<|zj<|zc<|zh<|za<|r_pv rfl rfl (ze rfl)<|zj<|zc<|zh<|za<|r_pv rfl rfl (zb rfl)<|r_pv rfl rfl (zb rfl)<|zW (x0:=((Big.digs a).getD i 0)) 0 i rfl Try.underlying32 sz95 rfl rfl rfl (by first|rfl|assumption|(simp;omega)) rfl rfl (gD (d:=0) (by omega)) (fun b3 o4 hok5=> ?_)
  replace hok5:=zda.1 hok5
  refine r_u rfl rfl (zH (j:=0) 0 ty95 rfl rfl rfl rfl)<|r_pv rfl rfl (zb rfl)<|r_pv rfl rfl (zD rfl rfl)<|zj<|zc<|zI rfl (fun hc=> ?_) (fun hc=> ?_)
  ·
   refine za<|r_pv rfl rfl (zb rfl)<|r_pv rfl rfl (zb rfl)<|r_pv rfl rfl (zb rfl)<|r_pv rfl rfl (zb rfl)<|zW (x0:=((Big.digs a).getD i 0)) 1 i rfl Try.underlying32 sz95 rfl rfl rfl (by first|rfl|assumption|(simp;omega)) rfl rfl (gD (d:=0) (by omega)) (fun b6 o7 hok8=> ?_)
   replace hok8:=zda.1 hok8
   refine r_u rfl rfl (zH (j:=0) 0 ty95 rfl rfl rfl rfl)<|r_pv rfl rfl (zC (z:=(((Big.digs a).getD i 0)+1000000000)) rfl rfl (wu32 (by omega)))<|r_pv rfl rfl (zb rfl)<|r_pv rfl rfl (zOa (z:=((((Big.digs a).getD i 0)+1000000000) - ((Big.digs b).getD i 0+bo))) rfl rfl (wu32 (by omega)))<|r_pv rfl rfl (zBa (j:=i) Try.underlying32 sz95 rfl rfl rfl (by omega))<|zJa 0 rfl rfl rfl (zIa (j:=i) (x0:=((((Big.digs a).getD i 0)+1000000000) - ((Big.digs b).getD i 0+bo))) (γ0:=()) rfl rfl (by first|omega|(rw [List.length_map];omega)|(simp only [List.length_set];omega)|(simp;omega)) rfl rfl sz95 (fun _ _=>by exact zda.2 (by omega))) (fun _=> .z) (fun _ _=> ?_)
   refine r_pv rfl rfl (ze rfl)<|zj<|zA<|zc<|za<|r_pv rfl rfl (zC (z:=(((i+1):Nat):Int)) rfl rfl (w64 (by omega)))<|r_pv rfl rfl (zb rfl)<|zj<|zga ((i+1),os++[(Big.digs a).getD i 0+1000000000 - ((Big.digs b).getD i 0+bo)],1) (show (i+1)≤(Big.digs a).length∧(os++[(Big.digs a).getD i 0+1000000000 - ((Big.digs b).getD i 0+bo)]).length=(i+1)∧0≤1∧1≤1∧Big.okL (os++[(Big.digs a).getD i 0+1000000000 - ((Big.digs b).getD i 0+bo)])∧Big.valL (os++[(Big.digs a).getD i 0+1000000000 - ((Big.digs b).getD i 0+bo)])+Big.valL ((Big.digs b).take (i+1))=Big.valL ((Big.digs a).take (i+1))+Big.pw (i+1)*1 from by exact ⟨by omega,by simp [hol],by decide,by decide,Big.okL_snoc hok (by omega) (by omega),Big.minus_step hol hv (by omega)⟩) (by show (Big.digs a).length - (i+1)<(Big.digs a).length - i;omega) ((.of rfl):SubM _ _) (ho:=((.e (i:=0) rfl (by rw [Big.set_pad hol (by omega)]) .n):PickO _ _ _)) ((.of [2,3] rfl):SelR _ _ _)
  ·
   refine za<|r_pv rfl rfl (zb rfl)<|r_pv rfl rfl (zb rfl)<|r_pv rfl rfl (zb rfl)<|r_pv rfl rfl (zb rfl)<|zW (x0:=((Big.digs a).getD i 0)) 1 i rfl Try.underlying32 sz95 rfl rfl rfl (by first|rfl|assumption|(simp;omega)) rfl rfl (gD (d:=0) (by omega)) (fun b9 o10 hok11=> ?_)
   replace hok11:=zda.1 hok11
   refine r_u rfl rfl (zH (j:=0) 0 ty95 rfl rfl rfl rfl)<|r_pv rfl rfl (zb rfl)<|r_pv rfl rfl (zOa (z:=(((Big.digs a).getD i 0) - ((Big.digs b).getD i 0+bo))) rfl rfl (wu32 (by omega)))<|r_pv rfl rfl (zBa (j:=i) Try.underlying32 sz95 rfl rfl rfl (by omega))<|zJa 0 rfl rfl rfl (zIa (j:=i) (x0:=(((Big.digs a).getD i 0) - ((Big.digs b).getD i 0+bo))) (γ0:=()) rfl rfl (by first|omega|(rw [List.length_map];omega)|(simp only [List.length_set];omega)|(simp;omega)) rfl rfl sz95 (fun _ _=>by exact zda.2 (by omega))) (fun _=> .z) (fun _ _=> ?_)
   refine zj<|zA<|zc<|za<|r_pv rfl rfl (zC (z:=(((i+1):Nat):Int)) rfl rfl (w64 (by omega)))<|r_pv rfl rfl (zb rfl)<|zj<|zga ((i+1),os++[(Big.digs a).getD i 0 - ((Big.digs b).getD i 0+bo)],0) (show (i+1)≤(Big.digs a).length∧(os++[(Big.digs a).getD i 0 - ((Big.digs b).getD i 0+bo)]).length=(i+1)∧0≤0∧0≤1∧Big.okL (os++[(Big.digs a).getD i 0 - ((Big.digs b).getD i 0+bo)])∧Big.valL (os++[(Big.digs a).getD i 0 - ((Big.digs b).getD i 0+bo)])+Big.valL ((Big.digs b).take (i+1))=Big.valL ((Big.digs a).take (i+1))+Big.pw (i+1)*0 from by exact ⟨by omega,by simp [hol],by decide,by decide,Big.okL_snoc hok (by omega) (by omega),Big.minus_step hol hv (by omega)⟩) (by show (Big.digs a).length - (i+1)<(Big.digs a).length - i;omega) ((.of rfl):SubM _ _) (ho:=((.e (i:=0) rfl (by rw [Big.set_pad hol (by omega)]) .n):PickO _ _ _)) ((.of [2,3] rfl):SelR _ _ _)
 ·
  have e12:os++List.replicate ((Big.digs a).length - i) 0=os:=by rw [show (Big.digs a).length - i=0 by omega];simp
  rw [e12]
  have htr:Big.trimL os=Big.digs (a - b):=Big.minus_fin hab hok hc0 hol (by omega) hv
  refine zaa<|zk<|zk<|zt<|zc<|zh<|za<|r_pv rfl rfl (zb rfl)<|zEa 0 rfl .z<|zea rfl rfl (.c rfl .n) ce109 (zmc (p:=some ⟨b1,0,none⟩) (n:=(Big.digs a).length) (cap:=(Big.digs a).length) (l:=os) (hn:=by first|rfl|assumption|omega|(simp;done)|(simp;omega)|(simp_all;done))) (.c (j:=0) rfl .n) ?_
  rintro ⟨⟩ -
  dsimp only [List.append_eq,List.nil_append,List.cons_append]
  refine r_pv rfl rfl (ze rfl)<|zj<|zc<|zP ?_
  exact zG Try.results112 ((some ⟨b1,0,none⟩),((Big.digs a).length)) trivial (zz rfl) (by rw [htr]) (ho:=(.n:PickO _ _ _)) ((.e (j:=0) rfl (by rw [htr]) .n):SelR _ _ _)
theorem zle {s:Bool} {t:Bool} {a:Nat} {b:Nat} {p1:Option Addr} {c1:Nat} {p2:Option Addr} {c2:Nat} (hb1:(Big.digs a).length≤1099511627776) (hb2:(Big.digs b).length≤1099511627776):Con Try.prog 90 [.bool s,.slice p1 ((Big.digs a).length) c1,.bool t,.slice p2 ((Big.digs b).length) c2] [] [slF (rI .u32) p1 c1 (Big.digs a),slF (rI .u32) p2 c2 (Big.digs b)] (Y:=(Option Addr)×Nat) (fun y=>True) (fun y=> .agg #[.bool (decide ((Big.sg s (a:Int)+Big.sg t (b:Int))<0)),.slice (y.1) ((Big.digs ((Big.sg s (a:Int)+Big.sg t (b:Int)).natAbs)).length) (y.2)]) (fun y=>[]) (fun y=>[slF (rI .u32) (y.1) (y.2) (Big.digs ((Big.sg s (a:Int)+Big.sg t (b:Int)).natAbs))]):=by
 refine zB Try.func90 rfl rfl rfl (fun c=> ?_)
 show RunC _ _ _ _ _ [(0,.bool s),(1,.slice p1 ((Big.digs a).length) c1),(2,.bool t),(3,.slice p2 ((Big.digs b).length) c2)] [] [slF (rI .u32) p1 c1 (Big.digs a),slF (rI .u32) p2 c2 (Big.digs b)]
 refine zoa 0 rfl (fun hL0=> ?_)
 refine zoa 1 rfl (fun hL1=> ?_)
 refine zh<|za<|zS rfl rfl (zn zr34 rfl) (fun b1=> ?_)
 refine zj<|zc<|zh<|zr<|zh<|za<|r_pv rfl rfl (zb rfl)<|r_pv rfl rfl (zb rfl)<|r_pv rfl rfl (zqc Try.underlying4 rfl rfl)<|r_pv rfl rfl (ze rfl)<|zj<|zc<|zI rfl (fun hst=> ?_) (fun hst=> ?_)
 ·
  refine zh<|za<|r_pv rfl rfl (zb rfl)<|r_pv rfl rfl (zb rfl)<|r_pv rfl rfl (zb rfl)<|zea rfl rfl (.c rfl (.c rfl .n)) ce110 (zje (a:=a) (b:=b) (p1:=p1) (c1:=c1) (p2:=p2) (c2:=c2) (hb1:=by assumption) (hb2:=by assumption)) (.c (j:=0) rfl (.c (j:=1) rfl .n)) ?_
  rintro ⟨p32,c33⟩ -
  dsimp only [List.append_eq,List.nil_append,List.cons_append]
  refine zea rfl rfl (.c rfl (.c rfl .n)) ce88 (zxb (s:=s) (a:=a+b) (p:=p32) (cap:=c33)) (.c (j:=0) rfl .n) ?_
  rintro ⟨p24,c25⟩ -
  dsimp only [List.append_eq,List.nil_append,List.cons_append]
  refine zx 0 rfl rfl rfl rfl rfl sz34 rfl (.take (.take .nil)) .z<|zj<|zc<|zP<|zq<|zl ?_
  have hz:Big.sg s ((a+b:Nat):Int)=Big.sg s (a:Int)+Big.sg t (b:Int):=by rw [← hst];unfold Big.sg;split <;> omega
  exact zG Try.results90 (p24,c25) trivial (zV 0 ty34 rfl rfl (.take (.take .nil))) (by rw [hz]) (ho:=(.n:PickO _ _ _)) ((.e (j:=0) rfl (by rw [hz]) .n):SelR _ _ _)
 ·
  refine zh<|za<|r_pv rfl rfl (zb rfl)<|r_pv rfl rfl (zb rfl)<|zY rfl rfl (.c rfl (.c rfl .n)) ce111 (zpd (a:=a) (b:=b) (p1:=p1) (c1:=c1) (p2:=p2) (c2:=c2)) (.c (j:=0) rfl (.c (j:=1) rfl .n))<|r_pv rfl rfl (zeb rfl rfl)<|r_pv rfl rfl (ze rfl)<|zj<|zc<|zI rfl (fun hcmp=> ?_) (fun hcmp=> ?_)
  ·
   have hab:b≤a:=by have:=Big.cmp_ge.1 hcmp;omega
   refine zh<|za<|r_pv rfl rfl (zb rfl)<|r_pv rfl rfl (zb rfl)<|r_pv rfl rfl (zb rfl)<|zea rfl rfl (.c rfl (.c rfl .n)) ce112 (zfd (a:=a) (b:=b) (p1:=p1) (c1:=c1) (p2:=p2) (c2:=c2) (hb1:=by assumption) (hb2:=by assumption) (hab:=by first|rfl|assumption|omega|(simp;done)|(simp;omega)|(simp_all;done))) (.c (j:=0) rfl (.c (j:=1) rfl .n)) ?_
   rintro ⟨p36,c37⟩ -
   dsimp only [List.append_eq,List.nil_append,List.cons_append]
   refine zea rfl rfl (.c rfl (.c rfl .n)) ce88 (zxb (s:=s) (a:=a - b) (p:=p36) (cap:=c37)) (.c (j:=0) rfl .n) ?_
   rintro ⟨p28,c29⟩ -
   dsimp only [List.append_eq,List.nil_append,List.cons_append]
   refine zx 0 rfl rfl rfl rfl rfl sz34 rfl (.take (.take .nil)) .z<|zj<|zc<|zP<|zq<|zl ?_
   have hz:Big.sg s ((a - b:Nat):Int)=Big.sg s (a:Int)+Big.sg t (b:Int):=by revert hst;unfold Big.sg;cases s <;> cases t <;> simp <;> omega
   exact zG Try.results90 (p28,c29) trivial (zV 0 ty34 rfl rfl (.take (.take .nil))) (by rw [hz]) (ho:=(.n:PickO _ _ _)) ((.e (j:=0) rfl (by rw [hz]) .n):SelR _ _ _)
  ·
   have hab:a≤b:=by have:¬(b:Int)≤a:=fun h=>hcmp (Big.cmp_ge.2 h);omega
   refine zw<|zA<|zc<|zh<|za<|r_pv rfl rfl (zb rfl)<|r_pv rfl rfl (zb rfl)<|r_pv rfl rfl (zb rfl)<|zea rfl rfl (.c rfl (.c rfl .n)) ce112 (zfd (a:=b) (b:=a) (p1:=p2) (c1:=c2) (p2:=p1) (c2:=c1) (hb1:=by assumption) (hb2:=by assumption) (hab:=by first|rfl|assumption|omega|(simp;done)|(simp;omega)|(simp_all;done))) (.c (j:=1) rfl (.c (j:=0) rfl .n)) ?_
   rintro ⟨p310,c311⟩ -
   dsimp only [List.append_eq,List.nil_append,List.cons_append]
   refine zea rfl rfl (.c rfl (.c rfl .n)) ce88 (zxb (s:=t) (a:=b - a) (p:=p310) (cap:=c311)) (.c (j:=0) rfl .n) ?_
   rintro ⟨p212,c213⟩ -
   dsimp only [List.append_eq,List.nil_append,List.cons_append]
   refine zx 0 rfl rfl rfl rfl rfl sz34 rfl (.take (.take .nil)) .z<|zj<|zc<|zP ?_
   have hz:Big.sg t ((b - a:Nat):Int)=Big.sg s (a:Int)+Big.sg t (b:Int):=by revert hst;unfold Big.sg;cases s <;> cases t <;> simp <;> omega
   exact zG Try.results90 (p212,c213) trivial (zV 0 ty34 rfl rfl (.take (.take .nil))) (by rw [hz]) (ho:=(.n:PickO _ _ _)) ((.e (j:=0) rfl (by rw [hz]) .n):SelR _ _ _)
theorem zme {a:Nat} {b:Nat} {p1:Option Addr} {c1:Nat} {p2:Option Addr} {c2:Nat} (hb1:(Big.digs a).length≤1099511627776) (hb2:(Big.digs b).length≤1099511627776):Con Try.prog 114 [.slice p1 ((Big.digs a).length) c1,.slice p2 ((Big.digs b).length) c2] [] [slF (rI .u32) p1 c1 (Big.digs a),slF (rI .u32) p2 c2 (Big.digs b)] (Y:=(Option Addr)×Nat) (fun y=>True) (fun y=> .slice (y.1) ((Big.digs (a*b)).length) (y.2)) (fun y=>[]) (fun y=>[slF (rI .u32) (y.1) (y.2) (Big.digs (a*b))]):=by
 refine zB Try.func114 rfl rfl rfl (fun c=> ?_)
 show RunC _ _ _ _ _ [(0,.slice p1 ((Big.digs a).length) c1),(1,.slice p2 ((Big.digs b).length) c2)] [] [slF (rI .u32) p1 c1 (Big.digs a),slF (rI .u32) p2 c2 (Big.digs b)]
 refine zoa 0 rfl (fun hL0=> ?_)
 refine zoa 1 rfl (fun hL1=> ?_)
 have hoa:=Big.digs_ok a
 have hob:=Big.digs_ok b
 refine zh<|za<|r_pv rfl rfl (ze rfl)<|zj<|zc<|zh<|za<|r_pv rfl rfl (zb rfl)<|r_pv rfl rfl (zX Try.underlying32 rfl)<|r_pv rfl rfl (zb rfl)<|r_pv rfl rfl (zX Try.underlying32 rfl)<|r_pv rfl rfl (zC (z:=(((((Big.digs a).length)+((Big.digs b).length)):Nat):Int)) rfl rfl (w64 (by omega)))<|zKa rfl rfl (zsc (r:=rI .u32) (k:=(((Big.digs a).length)+((Big.digs b).length))) (x0:=0) (γ0:=()) Try.underlying32 inf95 rfl rfl rfl rfl (by omega) (by omega) rfl (fun _ _=>by exact zda.2 (by decide)) (by decide)) (fun b1 _=> ?_)
 refine r_pv rfl rfl (ze rfl)<|zj<|zc<|zh<|zh<|za<|r_pv rfl rfl (zb rfl)<|r_pv rfl rfl (zX Try.underlying32 rfl)<|r_pv rfl rfl (zb rfl)<|zj<|zc<|zr<|zua (X:=Nat×(List Int)) (fun x:Nat×(List Int)=>x.1≤(Big.digs a).length∧x.2.length=(Big.digs a).length+(Big.digs b).length∧Big.okL x.2∧(∀k,x.1+(Big.digs b).length≤k→x.2.getD k 0=0)∧Big.valL x.2=Big.valL ((Big.digs a).take x.1)*Big.valL (Big.digs b)) (fun x=>[(20,.int .i64 ((x.1:Nat):Int)),(19,.int .i64 (((Big.digs a).length:Nat):Int)),(18,.slice p1 ((Big.digs a).length) c1),(5,.slice (some ⟨b1,0,none⟩) (((Big.digs a).length)+((Big.digs b).length)) (((Big.digs a).length)+((Big.digs b).length))),(4,.slice none 0 0),(1,.slice p2 ((Big.digs b).length) c2)]) (fun x=>[rowA 95 (rI .u32) (some ⟨b1,0,none⟩) (((Big.digs a).length)+((Big.digs b).length)) (x.2)]) (fun x=>[slF (rI .u32) p1 c1 (Big.digs a),slF (rI .u32) p2 c2 (Big.digs b)]) (fun x:Nat×(List Int)=>(Big.digs a).length - x.1) (0,List.replicate ((Big.digs a).length+(Big.digs b).length) 0) (show 0≤(Big.digs a).length∧(List.replicate ((Big.digs a).length+(Big.digs b).length) 0).length=(Big.digs a).length+(Big.digs b).length∧Big.okL (List.replicate ((Big.digs a).length+(Big.digs b).length) 0)∧(∀k,0+(Big.digs b).length≤k→(List.replicate ((Big.digs a).length+(Big.digs b).length) 0).getD k 0=0)∧Big.valL (List.replicate ((Big.digs a).length+(Big.digs b).length) 0)=Big.valL ((Big.digs a).take 0)*Big.valL (Big.digs b) from by exact ⟨by omega,by simp,Big.okL_zeros _,fun k _=>Big.getD_zeros _ k,by simp [Big.valL_zeros,Big.valL]⟩) ((.e rfl (by first|rfl|(congr 1;omega)|simp_all) (.of rfl)):SubM _ _) (ho:=((.e (i:=0) rfl (by first|rfl|(congr 1;omega)|simp_all) .n):PickO _ _ _)) ((.of [0,1] rfl):SelR _ _ _) ?_
 rintro ⟨i,os⟩ hI
 replace hI:i≤(Big.digs a).length∧os.length=(Big.digs a).length+(Big.digs b).length∧Big.okL os∧(∀k,i+(Big.digs b).length≤k→os.getD k 0=0)∧Big.valL os=Big.valL ((Big.digs a).take i)*Big.valL (Big.digs b):=hI
 try dsimp only
 obtain ⟨hi,hol,hok,hz,hv⟩:=hI
 have hg1:=Big.okL_getD hoa i
 refine zh<|za<|r_pv rfl rfl (zD rfl rfl)<|zj<|zc<|zh<|zI rfl (fun h2=> ?_) (fun h2=> ?_)
 ·
  refine zw<|zc<|zh<|zr<|zh<|za<|r_pv rfl rfl (zb rfl)<|zW (x0:=((Big.digs a).getD i 0)) 0 i rfl Try.underlying32 sz95 rfl rfl rfl (by first|rfl|assumption|(simp;omega)|omega) rfl rfl (gD (d:=0) (by omega)) (fun b3 o4 hok5=> ?_)
  replace hok5:=zda.1 hok5
  refine r_u rfl rfl (zH (j:=0) 0 ty95 rfl rfl rfl rfl)<|r_pv rfl rfl (ze rfl)<|r_pv rfl rfl (ze rfl)<|zj<|zc<|zh<|za<|r_pv rfl rfl (ze rfl)<|zj<|zc<|zh<|zh<|za<|r_pv rfl rfl (zb rfl)<|r_pv rfl rfl (zX Try.underlying32 rfl)<|r_pv rfl rfl (zb rfl)<|zj<|zc<|zr<|zua (X:=Nat×(List Int)×Int) (fun x:Nat×(List Int)×Int=>x.1≤(Big.digs b).length∧x.2.1.length=(Big.digs a).length+(Big.digs b).length∧Big.okL x.2.1∧0≤x.2.2∧x.2.2<1000000000∧(∀k,i+(Big.digs b).length≤k→x.2.1.getD k 0=0)∧Big.valL x.2.1+Big.pw (i+x.1)*x.2.2=Big.valL ((Big.digs a).take i)*Big.valL (Big.digs b)+Big.pw i*(Big.digs a).getD i 0*Big.valL ((Big.digs b).take x.1)) (fun x=>[(8,.int .u64 (x.2.2)),(27,.int .i64 ((x.1:Nat):Int)),(26,.int .i64 (((Big.digs b).length:Nat):Int)),(25,.slice p2 ((Big.digs b).length) c2),(7,.int .u32 ((Big.digs a).getD i 0)),(6,.int .i64 ((i:Nat):Int)),(20,.int .i64 ((i:Nat):Int)),(19,.int .i64 (((Big.digs a).length:Nat):Int)),(18,.slice p1 ((Big.digs a).length) c1),(5,.slice (some ⟨b1,0,none⟩) (((Big.digs a).length)+((Big.digs b).length)) (((Big.digs a).length)+((Big.digs b).length))),(4,.slice none 0 0),(1,.slice p2 ((Big.digs b).length) c2)]) (fun x=>[rowA 95 (rI .u32) (some ⟨b1,0,none⟩) (((Big.digs a).length)+((Big.digs b).length)) (x.2.1)]) (fun x=>[atF b3 o4 [.int .u32 ((Big.digs a).getD i 0)],slF (rI .u32) p1 c1 (Big.digs a),slF (rI .u32) p2 c2 (Big.digs b)]) (fun x:Nat×(List Int)×Int=>(Big.digs b).length - x.1) (0,os,0) (show 0≤(Big.digs b).length∧os.length=(Big.digs a).length+(Big.digs b).length∧Big.okL os∧0≤0∧0<1000000000∧(∀k,i+(Big.digs b).length≤k→os.getD k 0=0)∧Big.valL os+Big.pw (i+0)*0=Big.valL ((Big.digs a).take i)*Big.valL (Big.digs b)+Big.pw i*(Big.digs a).getD i 0*Big.valL ((Big.digs b).take 0) from by exact ⟨by omega,hol,hok,by decide,by decide,hz,by rw [hv];simp [Big.valL]⟩) ((.c rfl (.e rfl (by first|rfl|(congr 1;omega)|simp_all) (.of rfl))):SubM _ _) (ho:=((.c (i:=0) rfl .n):PickO _ _ _)) ((.of [0,1,2] rfl):SelR _ _ _) ?_
  rintro ⟨j,os2,cy⟩ hJ
  replace hJ:j≤(Big.digs b).length∧os2.length=(Big.digs a).length+(Big.digs b).length∧Big.okL os2∧0≤cy∧cy<1000000000∧(∀k,i+(Big.digs b).length≤k→os2.getD k 0=0)∧Big.valL os2+Big.pw (i+j)*cy=Big.valL ((Big.digs a).take i)*Big.valL (Big.digs b)+Big.pw i*(Big.digs a).getD i 0*Big.valL ((Big.digs b).take j):=hJ
  try dsimp only
  obtain ⟨hj,hol2,hok2,hcy0,hcy1,hz2,hv2⟩:=hJ
  have hg2:=Big.okL_getD hob j
  have hg3:=Big.okL_getD hok2 (i+j)
  have hpq:=Big.mul_lim hg1 hg2
  refine zh<|za<|r_pv rfl rfl (zD rfl rfl)<|zj<|zc<|zh<|zI rfl (fun h6=> ?_) (fun h6=> ?_)
  ·
   refine zw<|zc<|zh<|zr<|zh<|za<|r_pv rfl rfl (zb rfl)<|zW (x0:=((Big.digs b).getD j 0)) 2 j rfl Try.underlying32 sz95 rfl rfl rfl (by first|rfl|assumption|(simp;omega)|omega) rfl rfl (gD (d:=0) (by omega)) (fun b7 o8 hok9=> ?_)
   replace hok9:=zda.1 hok9
   refine r_u rfl rfl (zH (j:=0) 0 ty95 rfl rfl rfl rfl)<|r_pv rfl rfl (ze rfl)<|r_pv rfl rfl (ze rfl)<|zj<|zc<|zh<|za<|r_pv rfl rfl (zb rfl)<|r_pv rfl rfl (zb rfl)<|r_pv rfl rfl (zb rfl)<|r_pv rfl rfl (zC (z:=(((i+j):Nat):Int)) rfl rfl (w64 (by omega)))<|r_pv rfl rfl (zBa (j:=(i+j)) Try.underlying32 sz95 rfl rfl rfl (by omega))<|r_vl rfl rfl (zYa 0 (i+j) rfl ty95 rfl rfl (gD (d:=0) (by omega)) rfl) (fun _ hok10=> ?_)
   replace hok10:=zda.1 hok10
   refine r_pv rfl rfl (zDa (z:=(os2.getD (i+j) 0)) rfl (by rw [Try.underlying95];rfl) Try.underlying123 (wu64 (by omega)))<|r_pv rfl rfl (zb rfl)<|r_pv rfl rfl (zDa (z:=((Big.digs a).getD i 0)) rfl (by rw [Try.underlying95];rfl) Try.underlying123 (wu64 (by omega)))<|r_pv rfl rfl (zb rfl)<|r_pv rfl rfl (zDa (z:=((Big.digs b).getD j 0)) rfl (by rw [Try.underlying95];rfl) Try.underlying123 (wu64 (by omega)))<|r_pv rfl rfl (znb (z:=(((Big.digs a).getD i 0)*((Big.digs b).getD j 0))) rfl rfl (wu64 (by omega)))<|r_pv rfl rfl (zC (z:=((os2.getD (i+j) 0)+(((Big.digs a).getD i 0)*((Big.digs b).getD j 0)))) rfl rfl (wu64 (by omega)))<|r_pv rfl rfl (zb rfl)<|r_pv rfl rfl (zC (z:=(((os2.getD (i+j) 0)+(((Big.digs a).getD i 0)*((Big.digs b).getD j 0)))+cy)) rfl rfl (wu64 (by omega)))<|r_pv rfl rfl (ze rfl)<|zj<|zc<|za<|r_pv rfl rfl (zb rfl)<|r_pv rfl rfl (zb rfl)<|r_pv rfl rfl (zb rfl)<|r_pv rfl rfl (zC (z:=(((i+j):Nat):Int)) rfl rfl (w64 (by omega)))<|r_pv rfl rfl (zb rfl)<|r_pv rfl rfl (zdb (z:=((((os2.getD (i+j) 0)+(((Big.digs a).getD i 0)*((Big.digs b).getD j 0)))+cy)%1000000000)) rfl rfl (by omega) (remN (by omega) (by omega)))<|r_pv rfl rfl (zDa (z:=((((os2.getD (i+j) 0)+(((Big.digs a).getD i 0)*((Big.digs b).getD j 0)))+cy)%1000000000)) rfl (by rw [Try.underlying123];rfl) Try.underlying95 (wu32 (by omega)))<|r_pv rfl rfl (zb rfl)<|r_pv rfl rfl (zJc (z:=((((os2.getD (i+j) 0)+(((Big.digs a).getD i 0)*((Big.digs b).getD j 0)))+cy) / 1000000000)) rfl rfl (by omega) (by rw [quoN (z:=((((os2.getD (i+j) 0)+(((Big.digs a).getD i 0)*((Big.digs b).getD j 0)))+cy) / 1000000000)) (by omega) (by omega)];exact wu64 (by omega)))<|r_pv rfl rfl (zBa (j:=(i+j)) Try.underlying32 sz95 rfl rfl rfl (by omega))<|zJa 0 rfl rfl rfl (zIa (j:=(i+j)) (x0:=((((os2.getD (i+j) 0)+(((Big.digs a).getD i 0)*((Big.digs b).getD j 0)))+cy)%1000000000)) (γ0:=()) rfl rfl (by first|omega|(rw [List.length_map];omega)|(simp only [List.length_set];omega)|(simp;omega)) rfl rfl sz95 (fun _ _=>by exact zda.2 (by omega))) (fun _=> .z) (fun _ _=> ?_)
   refine r_pv rfl rfl (ze rfl)<|zj<|zA<|zc<|za<|r_pv rfl rfl (zC (z:=(((j+1):Nat):Int)) rfl rfl (w64 (by omega)))<|r_pv rfl rfl (zb rfl)<|zj<|zga ((j+1),os2.set (i+j) ((os2.getD (i+j) 0+(Big.digs a).getD i 0*(Big.digs b).getD j 0+cy)%1000000000),(os2.getD (i+j) 0+(Big.digs a).getD i 0*(Big.digs b).getD j 0+cy) / 1000000000) (show (j+1)≤(Big.digs b).length∧(os2.set (i+j) ((os2.getD (i+j) 0+(Big.digs a).getD i 0*(Big.digs b).getD j 0+cy)%1000000000)).length=(Big.digs a).length+(Big.digs b).length∧Big.okL (os2.set (i+j) ((os2.getD (i+j) 0+(Big.digs a).getD i 0*(Big.digs b).getD j 0+cy)%1000000000))∧0≤((os2.getD (i+j) 0+(Big.digs a).getD i 0*(Big.digs b).getD j 0+cy) / 1000000000)∧((os2.getD (i+j) 0+(Big.digs a).getD i 0*(Big.digs b).getD j 0+cy) / 1000000000)<1000000000∧(∀k,i+(Big.digs b).length≤k→(os2.set (i+j) ((os2.getD (i+j) 0+(Big.digs a).getD i 0*(Big.digs b).getD j 0+cy)%1000000000)).getD k 0=0)∧Big.valL (os2.set (i+j) ((os2.getD (i+j) 0+(Big.digs a).getD i 0*(Big.digs b).getD j 0+cy)%1000000000))+Big.pw (i+(j+1))*((os2.getD (i+j) 0+(Big.digs a).getD i 0*(Big.digs b).getD j 0+cy) / 1000000000)=Big.valL ((Big.digs a).take i)*Big.valL (Big.digs b)+Big.pw i*(Big.digs a).getD i 0*Big.valL ((Big.digs b).take (j+1)) from by exact ⟨by omega,by simpa using hol2,Big.okL_set hok2 (by omega) (by omega),by omega,by omega,fun k hk=>by rw [Big.getD_set_ne (by omega)];exact hz2 k (by omega),Big.mul_step hv2 (by omega) (by omega)⟩) (by show (Big.digs b).length - (j+1)<(Big.digs b).length - j;omega) ((.e rfl (by first|rfl|(congr 1;omega)|simp_all) (.of rfl)):SubM _ _) (ho:=((.e (i:=0) rfl (by first|rfl|(congr 1;omega)|simp_all) .n):PickO _ _ _)) ((.of [1,2,3] rfl):SelR _ _ _)
  ·
   have hjb:j=(Big.digs b).length:=by omega
   subst hjb
   have hv3:=hv2
   refine zaa<|zk<|zk<|zt<|zc<|za<|r_pv rfl rfl (zb rfl)<|r_pv rfl rfl (zb rfl)<|r_pv rfl rfl (zb rfl)<|r_pv rfl rfl (zX Try.underlying32 rfl)<|r_pv rfl rfl (zC (z:=(((i+((Big.digs b).length)):Nat):Int)) rfl rfl (w64 (by omega)))<|r_pv rfl rfl (zb rfl)<|r_pv rfl rfl (zDa (z:=cy) rfl (by rw [Try.underlying123];rfl) Try.underlying95 (wu32 (by omega)))<|r_pv rfl rfl (zBa (j:=(i+((Big.digs b).length))) Try.underlying32 sz95 rfl rfl rfl (by omega))<|zJa 0 rfl rfl rfl (zIa (j:=(i+((Big.digs b).length))) (x0:=cy) (γ0:=()) rfl rfl (by first|omega|(rw [List.length_map];omega)|(simp only [List.length_set];omega)|(simp;omega)) rfl rfl sz95 (fun _ _=>by exact zda.2 (by omega))) (fun _=> .z) (fun _ _=> ?_)
   refine zj<|zA<|zc<|za<|r_pv rfl rfl (zC (z:=(((i+1):Nat):Int)) rfl rfl (w64 (by omega)))<|r_pv rfl rfl (zb rfl)<|zj<|zga ((i+1),os2.set (i+(Big.digs b).length) cy) (show (i+1)≤(Big.digs a).length∧(os2.set (i+(Big.digs b).length) cy).length=(Big.digs a).length+(Big.digs b).length∧Big.okL (os2.set (i+(Big.digs b).length) cy)∧(∀k,(i+1)+(Big.digs b).length≤k→(os2.set (i+(Big.digs b).length) cy).getD k 0=0)∧Big.valL (os2.set (i+(Big.digs b).length) cy)=Big.valL ((Big.digs a).take (i+1))*Big.valL (Big.digs b) from by exact ⟨by omega,by simpa using hol2,Big.okL_set hok2 (by omega) (by omega),fun k hk=>by rw [Big.getD_set_ne (by omega)];exact hz2 k (by omega),Big.mul_round hv3 (by omega) (hz2 _ (Nat.le_refl _))⟩) (by show (Big.digs a).length - (i+1)<(Big.digs a).length - i;omega) ((.of rfl):SubM _ _) (ho:=((.e (i:=0) rfl (by first|rfl|(congr 1;omega)|simp_all) .n):PickO _ _ _)) ((.of [1,2] rfl):SelR _ _ _)
 ·
  have hia:i=(Big.digs a).length:=by omega
  have hfin:Big.trimL os=Big.digs (a*b):=Big.trimL_of hok (by rw [hv,hia,List.take_length,Big.valL_digs,Big.valL_digs,Int.natCast_mul])
  refine zaa<|zk<|zk<|zt<|zc<|zh<|za<|r_pv rfl rfl (zb rfl)<|zEa 0 rfl .z<|zea rfl rfl (.c rfl .n) ce109 (zmc (p:=some ⟨b1,0,none⟩) (n:=(((Big.digs a).length)+((Big.digs b).length))) (cap:=(((Big.digs a).length)+((Big.digs b).length))) (l:=os) (hn:=by first|rfl|assumption|omega|(simp;done)|(simp;omega)|(simp_all;done))) (.c (j:=0) rfl .n) ?_
  rintro ⟨⟩ -
  dsimp only [List.append_eq,List.nil_append,List.cons_append]
  refine r_pv rfl rfl (ze rfl)<|zj<|zc<|zP ?_
  exact zG Try.results114 ((some ⟨b1,0,none⟩),(((Big.digs a).length)+((Big.digs b).length))) trivial (zz rfl) (by rw [hfin]) (ho:=(.n:PickO _ _ _)) ((.e (j:=0) rfl (by rw [hfin]) .n):SelR _ _ _)
theorem zLe {s:Bool} {p:Option Addr} {n:Nat} {cap:Nat} {l:List Int} (hn:l.length=n):Con Try.prog 81 [.agg #[.bool s,.slice p n cap]] [] [slF (rI .u32) p cap l] (Y:=Unit) (fun y=>True) (fun y=> .int .i64 ((Big.raw s l).sign)) (fun y=>[]) (fun y=>[]):=by
 refine zB Try.func81 rfl rfl rfl (fun c=> ?_)
 show RunC _ _ _ _ _ [(0,.agg #[.bool s,.slice p n cap])] [] [slF (rI .u32) p cap l]
 refine zoa 0 rfl (fun hL0=> ?_)
 refine zCb 0 rfl (fun hE0=> ?_)
 have hnn:Big.nn l:=fun g hg=>(zda.1 (hE0 g hg)).1
 refine zh<|za<|zS rfl rfl (zca rfl rfl) (fun b1=> ?_)
 refine r_pv rfl rfl (ze rfl)<|zj<|zc<|zh<|zr<|zh<|za<|r_u rfl rfl (zf 0 ty34 rfl rfl (.take (.take .nil)))<|zea rfl rfl (.c rfl .n) ce91 (zib (s:=s) (p:=p) (n:=n) (cap:=cap) (l:=l) (hn:=by assumption)) (.c (j:=0) rfl .n) ?_
 rintro ⟨p22,c23⟩ -
 dsimp only [List.append_eq,List.nil_append,List.cons_append]
 refine r_pv rfl rfl (zX Try.underlying32 rfl)<|r_pv rfl rfl (zxa rfl rfl)<|r_pv rfl rfl (ze rfl)<|zj<|zc<|zI rfl (fun h0=> ?_) (fun h0=> ?_)
 ·
  refine zh<|za<|r_pv rfl rfl (ze rfl)<|zj<|zc<|zP<|zq<|zl ?_
  exact zG Try.results81 () trivial (zz rfl) (by rw [show Big.raw s l=0 by have:=Big.len_digs_nil.1 (show (Big.digs (Big.raw s l).natAbs).length=0 by omega);omega];rfl) (ho:=(.n:PickO _ _ _)) (.n:SelR _ _ _)
 ·
  refine zh<|za<|r_pv rfl rfl (zm Try.underlying34 rfl sz4 rfl rfl)<|r_u rfl rfl (zd 0 ty4 rfl rfl rfl)<|r_pv rfl rfl (ze rfl)<|zj<|zc<|zGa rfl (fun hs=> ?_) (fun hs=> ?_)
  ·
   refine zh<|za<|r_pv rfl rfl (ze rfl)<|zj<|zc<|zP<|zq<|zl ?_
   exact zG Try.results81 () trivial (zz rfl) (by rw [Big.sign_neg hnn hs (by intro e;rw [e] at h0;exact h0 rfl)]) (ho:=(.n:PickO _ _ _)) (.n:SelR _ _ _)
  ·
   refine zw<|zA<|zc<|zh<|za<|r_pv rfl rfl (ze rfl)<|zj<|zc<|zP ?_
   exact zG Try.results81 () trivial (zz rfl) (by rw [Big.sign_pos hnn hs (by intro e;rw [e] at h0;exact h0 rfl)]) (ho:=(.n:PickO _ _ _)) (.n:SelR _ _ _)
theorem zne {z:Int} {p:Option Addr} {cap:Nat}:Con Try.prog 81 [.agg #[.bool (decide ((z)<0)),.slice (p) ((Big.digs ((z).natAbs)).length) (cap)]] [] [slF (rI .u32) (p) (cap) (Big.digs ((z).natAbs))] (Y:=Unit) (fun y=>True) (fun y=> .int .i64 ((z).sign)) (fun y=>[]) (fun y=>[]):=by
  have h:= @zLe (decide ((z)<0)) p (Big.digs (z).natAbs).length cap (Big.digs (z).natAbs) rfl
  rw [Big.raw_big] at h
  exact h
theorem zVa {w1:Wd} {x1:Int}:Con Try.prog 81 [.agg #[w1.b,w1.l]] [] [zF w1 (x1)] (Y:=Unit) (fun y=>True) (fun y=> .int .i64 ((x1).sign)) (fun y=>[]) (fun y=>[]):=by
  exact zXe (fun p c=>zne)
theorem zgf {s:Bool} {p1:Option Addr} {n1:Nat} {c1:Nat} {l1:List Int} {t:Bool} {p2:Option Addr} {n2:Nat} {c2:Nat} {l2:List Int} (hn1:l1.length=n1) (hn2:l2.length=n2) (hb1:Big.ln (Big.raw s l1)≤1099511627776) (hb2:Big.ln (Big.raw t l2)≤1099511627776):Con Try.prog 59 [.agg #[.bool s,.slice p1 n1 c1],.agg #[.bool t,.slice p2 n2 c2]] [] [slF (rI .u32) p1 c1 l1,slF (rI .u32) p2 c2 l2] (Y:=(Option Addr)×Nat) (fun y=>True) (fun y=> .agg #[.bool (decide ((Big.raw s l1+Big.raw t l2)<0)),.slice (y.1) ((Big.digs ((Big.raw s l1+Big.raw t l2).natAbs)).length) (y.2)]) (fun y=>[]) (fun y=>[slF (rI .u32) (y.1) (y.2) (Big.digs ((Big.raw s l1+Big.raw t l2).natAbs))]):=by
 refine zB Try.func59 rfl rfl rfl (fun c=> ?_)
 show RunC _ _ _ _ _ [(0,.agg #[.bool s,.slice p1 n1 c1]),(1,.agg #[.bool t,.slice p2 n2 c2])] [] [slF (rI .u32) p1 c1 l1,slF (rI .u32) p2 c2 l2]
 refine zoa 0 rfl (fun hL0=> ?_)
 refine zCb 0 rfl (fun hE0=> ?_)
 refine zoa 1 rfl (fun hL1=> ?_)
 refine zCb 1 rfl (fun hE1=> ?_)
 have hnn1:Big.nn l1:=fun g hg=>(zda.1 (hE0 g hg)).1
 have hnn2:Big.nn l2:=fun g hg=>(zda.1 (hE1 g hg)).1
 refine zh<|za<|zS rfl rfl (zca rfl rfl) (fun b1=> ?_)
 refine zS rfl rfl (zca rfl rfl) (fun b2=> ?_)
 refine zS rfl rfl (zn zr34 rfl) (fun b3=> ?_)
 refine zj<|zc<|zh<|zla (OW:=[boxA b3 34 [.bool false,.slice none 0 0]]) (O:=[boxA b2 34 [.bool t,.slice p2 n2 c2],boxA b1 34 [.bool s,.slice p1 n1 c1]]) 9 mixed (.then .ret) (by kernel_rfl)<|d_pv 0 rfl rfl (by kernel_rfl) (by kernel_rfl) rfl rfl (zm Try.underlying34 rfl sz4 rfl rfl)<|d_uw 1 rfl rfl (by kernel_rfl) (by kernel_rfl) (by kernel_rfl) rfl rfl (zd 2 ty4 rfl rfl rfl)<|d_uw 2 rfl rfl (by kernel_rfl) (by kernel_rfl) (by kernel_rfl) rfl rfl (zf 2 ty34 rfl rfl (.take (.take .nil)))<|d_pv 4 rfl rfl (by kernel_rfl) (by kernel_rfl) rfl rfl (zm Try.underlying34 rfl sz4 rfl rfl)<|d_uw 5 rfl rfl (by kernel_rfl) (by kernel_rfl) (by kernel_rfl) rfl rfl (zd 1 ty4 rfl rfl rfl)<|d_uw 6 rfl rfl (by kernel_rfl) (by kernel_rfl) (by kernel_rfl) rfl rfl (zf 1 ty34 rfl rfl (.take (.take .nil)))<|zE 3 (by kernel_rfl) (zu rfl rfl rfl rfl (.c rfl .n) ce91 (zib (s:=s) (p:=p1) (n:=n1) (cap:=c1) (l:=l1) (hn:=by assumption)) (.c (j:=0) rfl .n) ?_)
 rintro ⟨p24,c25⟩ -
 dsimp only [List.append_eq,List.nil_append,List.cons_append]
 refine zE 7 (by kernel_rfl) (zu rfl rfl rfl rfl (.c rfl .n) ce91 (zib (s:=t) (p:=p2) (n:=n2) (cap:=c2) (l:=l2) (hn:=by assumption)) (.c (j:=2) rfl .n) ?_)
 rintro ⟨p26,c27⟩ -
 dsimp only [List.append_eq,List.nil_append,List.cons_append]
 refine zE 8 (by kernel_rfl) (zu rfl rfl rfl rfl (.c rfl (.c rfl (.c rfl (.c rfl .n)))) ce90 (zle (s:=s) (t:=t) (a:=(Big.raw s l1).natAbs) (b:=(Big.raw t l2).natAbs) (p1:=p24) (c1:=c25) (p2:=p26) (c2:=c27) (hb1:=by first|rfl|assumption|omega|(simp;done)|(simp;omega)|(simp_all;done)) (hb2:=by first|rfl|assumption|omega|(simp;done)|(simp;omega)|(simp_all;done))) (.c (j:=1) rfl (.c (j:=0) rfl .n)) ?_)
 rintro ⟨p38,c39⟩ -
 dsimp only [List.append_eq,List.nil_append,List.cons_append]
 refine zE 9 (by kernel_rfl) (zM (by kernel_rfl) rfl rfl rfl rfl rfl sz34 rfl (.take (.take .nil)) ?_)
 refine zma (by kernel_rfl)<|zc<|zP ?_
 have hz:Big.sg s ((Big.raw s l1).natAbs:Int)+Big.sg t ((Big.raw t l2).natAbs:Int)=Big.raw s l1+Big.raw t l2:=by rw [Big.sg_raw hnn1,Big.sg_raw hnn2]
 exact zG Try.results59 (p38,c39) trivial (zV 0 ty34 rfl rfl (.take (.take .nil))) (by rw [hz]) (ho:=(.n:PickO _ _ _)) ((.e (j:=0) rfl (by rw [hz]) .n):SelR _ _ _)
theorem zMe {x1:Int} {x2:Int} {p1:Option Addr} {c1:Nat} {p2:Option Addr} {c2:Nat} (hb1:Big.ln x1≤1099511627776) (hb2:Big.ln x2≤1099511627776):Con Try.prog 59 [.agg #[.bool (decide ((x1)<0)),.slice (p1) ((Big.digs ((x1).natAbs)).length) (c1)],.agg #[.bool (decide ((x2)<0)),.slice (p2) ((Big.digs ((x2).natAbs)).length) (c2)]] [] [slF (rI .u32) (p1) (c1) (Big.digs ((x1).natAbs)),slF (rI .u32) (p2) (c2) (Big.digs ((x2).natAbs))] (Y:=(Option Addr)×(Nat)) (fun y=>True) (fun y=> .agg #[.bool (decide ((x1+x2)<0)),.slice (y.1) ((Big.digs ((x1+x2).natAbs)).length) (y.2)]) (fun y=>[]) (fun y=>[slF (rI .u32) (y.1) (y.2) (Big.digs ((x1+x2).natAbs))]):=by
  have h:= @zgf (decide ((x1)<0)) p1 (Big.digs (x1).natAbs).length c1 (Big.digs (x1).natAbs) (decide ((x2)<0)) p2 (Big.digs (x2).natAbs).length c2 (Big.digs (x2).natAbs) rfl rfl (by rw [Big.raw_big];exact hb1) (by rw [Big.raw_big];exact hb2)
  rw [Big.raw_big,Big.raw_big] at h
  exact h
theorem zlb {w1:Wd} {w2:Wd} {x1:Int} {x2:Int} (hb1:Big.ln x1≤1099511627776) (hb2:Big.ln x2≤1099511627776):Con Try.prog 59 [.agg #[w1.b,w1.l],.agg #[w2.b,w2.l]] [] [zF w1 (x1),zF w2 (x2)] (Y:=(Wd)) (fun y=>True) (fun y=> .agg #[y.b,y.l]) (fun y=>[]) (fun y=>[zF y (x1+x2)]):=by
  exact zkc (zBc (fun p1 c1 p2 c2=>zMe hb1 hb2))
theorem zhf {s:Bool} {p1:Option Addr} {n1:Nat} {c1:Nat} {l1:List Int} {t:Bool} {p2:Option Addr} {n2:Nat} {c2:Nat} {l2:List Int} (hn1:l1.length=n1) (hn2:l2.length=n2) (hb1:Big.ln (Big.raw s l1)≤1099511627776) (hb2:Big.ln (Big.raw t l2)≤1099511627776):Con Try.prog 93 [.agg #[.bool s,.slice p1 n1 c1],.agg #[.bool t,.slice p2 n2 c2]] [] [slF (rI .u32) p1 c1 l1,slF (rI .u32) p2 c2 l2] (Y:=(Option Addr)×Nat) (fun y=>True) (fun y=> .agg #[.bool (decide ((Big.raw s l1 - Big.raw t l2)<0)),.slice (y.1) ((Big.digs ((Big.raw s l1 - Big.raw t l2).natAbs)).length) (y.2)]) (fun y=>[]) (fun y=>[slF (rI .u32) (y.1) (y.2) (Big.digs ((Big.raw s l1 - Big.raw t l2).natAbs))]):=by
 refine zB Try.func93 rfl rfl rfl (fun c=> ?_)
 show RunC _ _ _ _ _ [(0,.agg #[.bool s,.slice p1 n1 c1]),(1,.agg #[.bool t,.slice p2 n2 c2])] [] [slF (rI .u32) p1 c1 l1,slF (rI .u32) p2 c2 l2]
 refine zoa 0 rfl (fun hL0=> ?_)
 refine zCb 0 rfl (fun hE0=> ?_)
 refine zoa 1 rfl (fun hL1=> ?_)
 refine zCb 1 rfl (fun hE1=> ?_)
 have hnn1:Big.nn l1:=fun g hg=>(zda.1 (hE0 g hg)).1
 have hnn2:Big.nn l2:=fun g hg=>(zda.1 (hE1 g hg)).1
 refine zh<|za<|zS rfl rfl (zca rfl rfl) (fun b1=> ?_)
 refine zS rfl rfl (zca rfl rfl) (fun b2=> ?_)
 refine zS rfl rfl (zn zr34 rfl) (fun b3=> ?_)
 refine zj<|zc<|zh<|zla (OW:=[boxA b3 34 [.bool false,.slice none 0 0]]) (O:=[boxA b2 34 [.bool t,.slice p2 n2 c2],boxA b1 34 [.bool s,.slice p1 n1 c1]]) 10 mixed (.then .ret) (by kernel_rfl)<|d_pv 0 rfl rfl (by kernel_rfl) (by kernel_rfl) rfl rfl (zm Try.underlying34 rfl sz4 rfl rfl)<|d_uw 1 rfl rfl (by kernel_rfl) (by kernel_rfl) (by kernel_rfl) rfl rfl (zd 2 ty4 rfl rfl rfl)<|d_uw 2 rfl rfl (by kernel_rfl) (by kernel_rfl) (by kernel_rfl) rfl rfl (zf 2 ty34 rfl rfl (.take (.take .nil)))<|d_pv 4 rfl rfl (by kernel_rfl) (by kernel_rfl) rfl rfl (zm Try.underlying34 rfl sz4 rfl rfl)<|d_uw 5 rfl rfl (by kernel_rfl) (by kernel_rfl) (by kernel_rfl) rfl rfl (zd 1 ty4 rfl rfl rfl)<|d_pv 6 rfl rfl (by kernel_rfl) (by kernel_rfl) rfl rfl (zob rfl)<|d_uw 7 rfl rfl (by kernel_rfl) (by kernel_rfl) (by kernel_rfl) rfl rfl (zf 1 ty34 rfl rfl (.take (.take .nil)))<|zE 3 (by kernel_rfl) (zu rfl rfl rfl rfl (.c rfl .n) ce91 (zib (s:=s) (p:=p1) (n:=n1) (cap:=c1) (l:=l1) (hn:=by assumption)) (.c (j:=0) rfl .n) ?_)
 rintro ⟨p24,c25⟩ -
 dsimp only [List.append_eq,List.nil_append,List.cons_append]
 refine zE 8 (by kernel_rfl) (zu rfl rfl rfl rfl (.c rfl .n) ce91 (zib (s:=t) (p:=p2) (n:=n2) (cap:=c2) (l:=l2) (hn:=by assumption)) (.c (j:=2) rfl .n) ?_)
 rintro ⟨p26,c27⟩ -
 dsimp only [List.append_eq,List.nil_append,List.cons_append]
 refine zE 9 (by kernel_rfl) (zu rfl rfl rfl rfl (.c rfl (.c rfl (.c rfl (.c rfl .n)))) ce90 (zle (s:=s) (t:= !t) (a:=(Big.raw s l1).natAbs) (b:=(Big.raw t l2).natAbs) (p1:=p24) (c1:=c25) (p2:=p26) (c2:=c27) (hb1:=by first|rfl|assumption|omega|(simp;done)|(simp;omega)|(simp_all;done)) (hb2:=by first|rfl|assumption|omega|(simp;done)|(simp;omega)|(simp_all;done))) (.c (j:=1) rfl (.c (j:=0) rfl .n)) ?_)
 rintro ⟨p38,c39⟩ -
 dsimp only [List.append_eq,List.nil_append,List.cons_append]
 refine zE 10 (by kernel_rfl) (zM (by kernel_rfl) rfl rfl rfl rfl rfl sz34 rfl (.take (.take .nil)) ?_)
 refine zma (by kernel_rfl)<|zc<|zP ?_
 have hz:Big.sg s ((Big.raw s l1).natAbs:Int)+Big.sg (!t) ((Big.raw t l2).natAbs:Int)=Big.raw s l1 - Big.raw t l2:=by rw [Big.sg_not,Big.sg_raw hnn1,Big.sg_raw hnn2];omega
 exact zG Try.results93 (p38,c39) trivial (zV 0 ty34 rfl rfl (.take (.take .nil))) (by rw [hz]) (ho:=(.n:PickO _ _ _)) ((.e (j:=0) rfl (by rw [hz]) .n):SelR _ _ _)
theorem zNe {x1:Int} {x2:Int} {p1:Option Addr} {c1:Nat} {p2:Option Addr} {c2:Nat} (hb1:Big.ln x1≤1099511627776) (hb2:Big.ln x2≤1099511627776):Con Try.prog 93 [.agg #[.bool (decide ((x1)<0)),.slice (p1) ((Big.digs ((x1).natAbs)).length) (c1)],.agg #[.bool (decide ((x2)<0)),.slice (p2) ((Big.digs ((x2).natAbs)).length) (c2)]] [] [slF (rI .u32) (p1) (c1) (Big.digs ((x1).natAbs)),slF (rI .u32) (p2) (c2) (Big.digs ((x2).natAbs))] (Y:=(Option Addr)×(Nat)) (fun y=>True) (fun y=> .agg #[.bool (decide ((x1 - x2)<0)),.slice (y.1) ((Big.digs ((x1 - x2).natAbs)).length) (y.2)]) (fun y=>[]) (fun y=>[slF (rI .u32) (y.1) (y.2) (Big.digs ((x1 - x2).natAbs))]):=by
  have h:= @zhf (decide ((x1)<0)) p1 (Big.digs (x1).natAbs).length c1 (Big.digs (x1).natAbs) (decide ((x2)<0)) p2 (Big.digs (x2).natAbs).length c2 (Big.digs (x2).natAbs) rfl rfl (by rw [Big.raw_big];exact hb1) (by rw [Big.raw_big];exact hb2)
  rw [Big.raw_big,Big.raw_big] at h
  exact h
theorem zSc {w1:Wd} {w2:Wd} {x1:Int} {x2:Int} (hb1:Big.ln x1≤1099511627776) (hb2:Big.ln x2≤1099511627776):Con Try.prog 93 [.agg #[w1.b,w1.l],.agg #[w2.b,w2.l]] [] [zF w1 (x1),zF w2 (x2)] (Y:=(Wd)) (fun y=>True) (fun y=> .agg #[y.b,y.l]) (fun y=>[]) (fun y=>[zF y (x1 - x2)]):=by
  exact zkc (zBc (fun p1 c1 p2 c2=>zNe hb1 hb2))
theorem zif {s:Bool} {p1:Option Addr} {n1:Nat} {c1:Nat} {l1:List Int} {t:Bool} {p2:Option Addr} {n2:Nat} {c2:Nat} {l2:List Int} (hn1:l1.length=n1) (hn2:l2.length=n2) (hb1:Big.ln (Big.raw s l1)≤1099511627776) (hb2:Big.ln (Big.raw t l2)≤1099511627776):Con Try.prog 92 [.agg #[.bool s,.slice p1 n1 c1],.agg #[.bool t,.slice p2 n2 c2]] [] [slF (rI .u32) p1 c1 l1,slF (rI .u32) p2 c2 l2] (Y:=(Option Addr)×Nat) (fun y=>True) (fun y=> .agg #[.bool (decide ((Big.raw s l1*Big.raw t l2)<0)),.slice (y.1) ((Big.digs ((Big.raw s l1*Big.raw t l2).natAbs)).length) (y.2)]) (fun y=>[]) (fun y=>[slF (rI .u32) (y.1) (y.2) (Big.digs ((Big.raw s l1*Big.raw t l2).natAbs))]):=by
 refine zB Try.func92 rfl rfl rfl (fun c=> ?_)
 show RunC _ _ _ _ _ [(0,.agg #[.bool s,.slice p1 n1 c1]),(1,.agg #[.bool t,.slice p2 n2 c2])] [] [slF (rI .u32) p1 c1 l1,slF (rI .u32) p2 c2 l2]
 refine zoa 0 rfl (fun hL0=> ?_)
 refine zCb 0 rfl (fun hE0=> ?_)
 refine zoa 1 rfl (fun hL1=> ?_)
 refine zCb 1 rfl (fun hE1=> ?_)
 have hnn1:Big.nn l1:=fun g hg=>(zda.1 (hE0 g hg)).1
 have hnn2:Big.nn l2:=fun g hg=>(zda.1 (hE1 g hg)).1
 refine zh<|za<|zS rfl rfl (zca rfl rfl) (fun b1=> ?_)
 refine zS rfl rfl (zca rfl rfl) (fun b2=> ?_)
 refine zS rfl rfl (zn zr34 rfl) (fun b3=> ?_)
 refine zj<|zc<|zh<|zla (OW:=[boxA b3 34 [.bool false,.slice none 0 0]]) (O:=[boxA b2 34 [.bool t,.slice p2 n2 c2],boxA b1 34 [.bool s,.slice p1 n1 c1]]) 11 mixed (.then .ret) (by kernel_rfl)<|d_pv 0 rfl rfl (by kernel_rfl) (by kernel_rfl) rfl rfl (zm Try.underlying34 rfl sz4 rfl rfl)<|d_uw 1 rfl rfl (by kernel_rfl) (by kernel_rfl) (by kernel_rfl) rfl rfl (zd 2 ty4 rfl rfl rfl)<|d_pv 2 rfl rfl (by kernel_rfl) (by kernel_rfl) rfl rfl (zm Try.underlying34 rfl sz4 rfl rfl)<|d_uw 3 rfl rfl (by kernel_rfl) (by kernel_rfl) (by kernel_rfl) rfl rfl (zd 1 ty4 rfl rfl rfl)<|d_pv 4 rfl rfl (by kernel_rfl) (by kernel_rfl) rfl rfl (zRb Try.underlying4 rfl rfl)<|d_uw 5 rfl rfl (by kernel_rfl) (by kernel_rfl) (by kernel_rfl) rfl rfl (zf 2 ty34 rfl rfl (.take (.take .nil)))<|d_uw 7 rfl rfl (by kernel_rfl) (by kernel_rfl) (by kernel_rfl) rfl rfl (zf 1 ty34 rfl rfl (.take (.take .nil)))<|zE 6 (by kernel_rfl) (zu rfl rfl rfl rfl (.c rfl .n) ce91 (zib (s:=s) (p:=p1) (n:=n1) (cap:=c1) (l:=l1) (hn:=by assumption)) (.c (j:=0) rfl .n) ?_)
 rintro ⟨p24,c25⟩ -
 dsimp only [List.append_eq,List.nil_append,List.cons_append]
 refine zE 8 (by kernel_rfl) (zu rfl rfl rfl rfl (.c rfl .n) ce91 (zib (s:=t) (p:=p2) (n:=n2) (cap:=c2) (l:=l2) (hn:=by assumption)) (.c (j:=2) rfl .n) ?_)
 rintro ⟨p26,c27⟩ -
 dsimp only [List.append_eq,List.nil_append,List.cons_append]
 refine zE 9 (by kernel_rfl) (zu rfl rfl rfl rfl (.c rfl (.c rfl .n)) ce114 (zme (a:=(Big.raw s l1).natAbs) (b:=(Big.raw t l2).natAbs) (p1:=p24) (c1:=c25) (p2:=p26) (c2:=c27) (hb1:=by first|rfl|assumption|omega|(simp;done)|(simp;omega)|(simp_all;done)) (hb2:=by first|rfl|assumption|omega|(simp;done)|(simp;omega)|(simp_all;done))) (.c (j:=1) rfl (.c (j:=0) rfl .n)) ?_)
 rintro ⟨p38,c39⟩ -
 dsimp only [List.append_eq,List.nil_append,List.cons_append]
 refine zE 10 (by kernel_rfl) (zu rfl rfl rfl rfl (.c rfl (.c rfl .n)) ce88 (zxb (s:=decide (s≠t)) (a:=((Big.raw s l1).natAbs)*((Big.raw t l2).natAbs)) (p:=p38) (cap:=c39)) (.c (j:=0) rfl .n) ?_)
 rintro ⟨p210,c211⟩ -
 dsimp only [List.append_eq,List.nil_append,List.cons_append]
 refine zE 11 (by kernel_rfl) (zM (by kernel_rfl) rfl rfl rfl rfl rfl sz34 rfl (.take (.take .nil)) ?_)
 refine zma (by kernel_rfl)<|zc<|zP ?_
 have hz:Big.sg (decide (s≠t)) (((Big.raw s l1).natAbs*(Big.raw t l2).natAbs:Nat):Int)=Big.raw s l1*Big.raw t l2:=by rw [Big.sg_mul,Big.sg_raw hnn1,Big.sg_raw hnn2]
 exact zG Try.results92 (p210,c211) trivial (zV 0 ty34 rfl rfl (.take (.take .nil))) (by rw [hz]) (ho:=(.n:PickO _ _ _)) ((.e (j:=0) rfl (by rw [hz]) .n):SelR _ _ _)
theorem zOe {x1:Int} {x2:Int} {p1:Option Addr} {c1:Nat} {p2:Option Addr} {c2:Nat} (hb1:Big.ln x1≤1099511627776) (hb2:Big.ln x2≤1099511627776):Con Try.prog 92 [.agg #[.bool (decide ((x1)<0)),.slice (p1) ((Big.digs ((x1).natAbs)).length) (c1)],.agg #[.bool (decide ((x2)<0)),.slice (p2) ((Big.digs ((x2).natAbs)).length) (c2)]] [] [slF (rI .u32) (p1) (c1) (Big.digs ((x1).natAbs)),slF (rI .u32) (p2) (c2) (Big.digs ((x2).natAbs))] (Y:=(Option Addr)×(Nat)) (fun y=>True) (fun y=> .agg #[.bool (decide ((x1*x2)<0)),.slice (y.1) ((Big.digs ((x1*x2).natAbs)).length) (y.2)]) (fun y=>[]) (fun y=>[slF (rI .u32) (y.1) (y.2) (Big.digs ((x1*x2).natAbs))]):=by
  have h:= @zif (decide ((x1)<0)) p1 (Big.digs (x1).natAbs).length c1 (Big.digs (x1).natAbs) (decide ((x2)<0)) p2 (Big.digs (x2).natAbs).length c2 (Big.digs (x2).natAbs) rfl rfl (by rw [Big.raw_big];exact hb1) (by rw [Big.raw_big];exact hb2)
  rw [Big.raw_big,Big.raw_big] at h
  exact h
theorem zpb {w1:Wd} {w2:Wd} {x1:Int} {x2:Int} (hb1:Big.ln x1≤1099511627776) (hb2:Big.ln x2≤1099511627776):Con Try.prog 92 [.agg #[w1.b,w1.l],.agg #[w2.b,w2.l]] [] [zF w1 (x1),zF w2 (x2)] (Y:=(Wd)) (fun y=>True) (fun y=> .agg #[y.b,y.l]) (fun y=>[]) (fun y=>[zF y (x1*x2)]):=by
  exact zkc (zBc (fun p1 c1 p2 c2=>zOe hb1 hb2))
end Go.Proofs.Ytalfgjpbbongcaa.Sp
namespace Go.Proofs.Ytalfgjpbbongcaa.Sp
open Go
set_option linter.unusedVariables false
set_option maxRecDepth 100000
set_option maxHeartbeats 1000000
theorem zHd {s:Bool} {p:Option Addr} {n:Nat} {cap:Nat} {l:List Int} (hn:l.length=n):Con Try.prog 107 [.agg #[.bool s,.slice p n cap]] [] [slF (rI .u32) p cap l] (Y:=Unit) (fun y=>True) (fun y=> .bool (decide (Big.canon s l))) (fun y=>[]) (fun y=>[]):=by
 refine zB Try.func107 rfl rfl rfl (fun c=> ?_)
 show RunC _ _ _ _ _ [(0,.agg #[.bool s,.slice p n cap])] [] [slF (rI .u32) p cap l]
 refine zoa 0 rfl (fun hL0=> ?_)
 refine zh<|za<|zS rfl rfl (zca rfl rfl) (fun b1=> ?_)
 refine r_pv rfl rfl (ze rfl)<|zj<|zc<|zh<|za<|r_pv rfl rfl (zm Try.underlying34 rfl sz32 rfl rfl)<|r_u rfl rfl (zd 0 ty32 rfl rfl rfl)<|r_pv rfl rfl (zX Try.underlying32 rfl)<|r_pv rfl rfl (ze rfl)<|zj<|zc<|zh<|zh<|za<|r_pv rfl rfl (ze rfl)<|zj<|zc<|zr<|zua (X:=Nat) (fun x:Nat=>x≤n∧∀j,j<x→l.getD j 0<1000000000) (fun x=>[(4,.int .i64 ((x:Nat):Int)),(3,.int .i64 ((n:Nat):Int)),(1,.pointer (some ⟨b1,0,none⟩))]) (fun x=>[boxA b1 34 [.bool s,.slice p n cap]]) (fun x=>[slF (rI .u32) p cap l]) (fun x:Nat=>n - x) 0 (show 0≤n∧∀j,j<0→l.getD j 0<1000000000 from by exact ⟨by omega,fun j h=>by omega⟩) ((.e rfl (by first|rfl|(congr 1;omega)|simp_all) (.c rfl (.c rfl .n))):SubM _ _) (ho:=((.c (i:=0) rfl .n):PickO _ _ _)) ((.c (j:=0) rfl .n):SelR _ _ _) ?_
 rintro i hI
 replace hI:i≤n∧∀j,j<i→l.getD j 0<1000000000:=hI
 try dsimp only
 obtain ⟨hi,hall⟩:=hI
 refine zh<|zh<|za<|r_pv rfl rfl (zb rfl)<|r_pv rfl rfl (zb rfl)<|r_pv rfl rfl (zD rfl rfl)<|zj<|zc<|zI rfl (fun h2=> ?_) (fun h2=> ?_)
 ·
  refine zw<|zc<|zh<|zr<|zh<|za<|r_pv rfl rfl (zm Try.underlying34 rfl sz32 rfl rfl)<|r_u rfl rfl (zd 0 ty32 rfl rfl rfl)<|r_pv rfl rfl (zb rfl)<|zW (x0:=(l.getD i 0)) 0 i rfl Try.underlying32 sz95 rfl rfl rfl (by first|rfl|assumption|(simp_all;done)|omega) rfl rfl (gD (d:=0) (by omega)) (fun b3 o4 hok5=> ?_)
  replace hok5:=zda.1 hok5
  refine r_u rfl rfl (zH (j:=0) 0 ty95 rfl rfl rfl rfl)<|r_pv rfl rfl (zeb rfl rfl)<|zj<|zc<|zI rfl (fun hb=> ?_) (fun hb=> ?_)
  ·
   refine zh<|za<|r_pv rfl rfl (ze rfl)<|zj<|zc<|zP<|zq<|zl<|zl<|zq<|zl ?_
   exact zG Try.results107 () trivial (zz rfl) (congrArg Value.bool (decide_eq_false (fun h=>((Big.canon_more (by omega)).1 h).2 ⟨_,Big.getD_mem (by omega),hb⟩))) (ho:=(.n:PickO _ _ _)) (.n:SelR _ _ _)
  ·
   refine zw<|zA<|zc<|za<|r_pv rfl rfl (zb rfl)<|r_pv rfl rfl (zC (z:=(((i+1):Nat):Int)) rfl rfl (w64 (by omega)))<|r_pv rfl rfl (ze rfl)<|zj<|zga (i+1) (show (i+1)≤n∧∀j,j<(i+1)→l.getD j 0<1000000000 from by refine ⟨by omega,fun j hj=> ?_⟩;by_cases e:j=i;subst e;omega;exact hall j (by omega)) (by show n - (i+1)<n - i;omega) ((.of rfl):SubM _ _) (ho:=((.c (i:=0) rfl .n):PickO _ _ _)) ((.c (j:=1) rfl .n):SelR _ _ _)
 ·
  refine zaa<|zk<|zk<|zt<|zc<|zh<|zh<|za<|r_pv rfl rfl (zb rfl)<|r_pv rfl rfl (zxa rfl rfl)<|zj<|zc<|zI rfl (fun h0=> ?_) (fun h0=> ?_)
  ·
   refine zh<|za<|r_pv rfl rfl (zm Try.underlying34 rfl sz4 rfl rfl)<|r_u rfl rfl (zd 0 ty4 rfl rfl rfl)<|r_pv rfl rfl (zob rfl)<|r_pv rfl rfl (ze rfl)<|zj<|zc<|zP<|zl ?_
   exact zG Try.results107 () trivial (zz rfl) (congrArg Value.bool (by have:l.length=0:=(by omega);cases s <;> simp [Big.canon,this])) (ho:=(.n:PickO _ _ _)) (.n:SelR _ _ _)
  ·
   refine zw<|zc<|zh<|za<|r_pv rfl rfl (zm Try.underlying34 rfl sz32 rfl rfl)<|r_u rfl rfl (zd 0 ty32 rfl rfl rfl)<|r_pv rfl rfl (zb rfl)<|r_pv rfl rfl (zOa (z:=(((n:Nat):Int) - 1)) rfl rfl (w64 (by omega)))<|zW (x0:=(l.getD ((((n:Nat):Int) - 1).toNat) 0)) 0 ((((n:Nat):Int) - 1).toNat) rfl Try.underlying32 sz95 rfl rfl rfl (by first|rfl|assumption|(simp_all;done)|omega) rfl (by omega) (gD (d:=0) (by omega)) (fun b6 o7 hok8=> ?_)
   replace hok8:=zda.1 hok8
   refine r_u rfl rfl (zH (j:=0) 0 ty95 rfl rfl rfl rfl)<|r_pv rfl rfl (zZa rfl rfl)<|r_pv rfl rfl (ze rfl)<|zj<|zc<|zP ?_
   exact zG Try.results107 () trivial (zz rfl) (congrArg Value.bool (decide_eq_decide.2 (by rw [Big.canon_more (by omega),hn];have e:((n:Int) - 1).toNat=n - 1:=(by omega);rw [e];exact ⟨fun h=>h.1,fun h=>⟨h,fun ⟨g,hg,hb⟩=>by obtain ⟨j,hj,e⟩:=Big.mem_getD hg;have:=hall j (by omega);omega⟩⟩))) (ho:=(.n:PickO _ _ _)) (.n:SelR _ _ _)
theorem zsb {s:Bool} {p:Option Addr} {n:Nat} {cap:Nat} {l:List Int} (hn:l.length=n) (hln:n≤1099511627776):Con Try.prog 85 [.agg #[.bool s,.slice p n cap]] [] [slF (rI .u32) p cap l] (Y:=(Option Addr)×Nat) (fun y=>True) (fun y=> .agg #[.bool (decide ((Big.raw s l)<0)),.slice (y.1) ((Big.digs ((Big.raw s l).natAbs)).length) (y.2)]) (fun y=>[]) (fun y=>[slF (rI .u32) (y.1) (y.2) (Big.digs ((Big.raw s l).natAbs))]):=by
 refine zB Try.func85 rfl rfl rfl (fun c=> ?_)
 show RunC _ _ _ _ _ [(0,.agg #[.bool s,.slice p n cap])] [] [slF (rI .u32) p cap l]
 refine zoa 0 rfl (fun hL0=> ?_)
 refine zCb 0 rfl (fun hE0=> ?_)
 have hnn:Big.nn l:=fun g hg=>(zda.1 (hE0 g hg)).1
 refine zh<|za<|zS rfl rfl (zca rfl rfl) (fun b1=> ?_)
 refine zS rfl rfl (zn zr34 rfl) (fun b2=> ?_)
 refine zj<|zc<|zh<|zh<|za<|r_u rfl rfl (zf 1 ty34 rfl rfl (.take (.take .nil)))<|zY rfl rfl (.c rfl .n) ce107 (zHd (s:=s) (p:=p) (n:=n) (cap:=cap) (l:=l) (hn:=by assumption)) (.c (j:=0) rfl .n)<|r_pv rfl rfl (zpc rfl)<|zj<|zc<|zI rfl (fun hc=> ?_) (fun hc=> ?_)
 ·
  refine zh<|za<|r_pv rfl rfl (zna zr34 rfl Try.underlying34 (.c sz4 (.c sz32 .n)) .n .n)<|zx 0 rfl rfl rfl rfl rfl sz34 rfl (.take (.take .nil)) .z<|zj<|zc<|zP<|zl ?_
  have hz:Big.raw s l=0:=by unfold Big.raw;rw [if_neg hc]
  refine zvd (rI .u32) ?_
  exact zG Try.results85 (none,0) trivial (zV 0 ty34 rfl rfl (.take (.take .nil))) (by rw [hz];rfl) (ho:=(.n:PickO _ _ _)) ((.e (j:=0) rfl (by rw [hz];rfl) .n):SelR _ _ _)
 ·
  refine zw<|zc<|zh<|zla (OW:=[boxA b2 34 [.bool false,.slice none 0 0]]) (O:=[boxA b1 34 [.bool s,.slice p n cap]]) 5 mixed (.then .ret) (by kernel_rfl)<|d_pv 0 rfl rfl (by kernel_rfl) (by kernel_rfl) rfl rfl (zm Try.underlying34 rfl sz4 rfl rfl)<|d_u 1 rfl rfl (by kernel_rfl) (by kernel_rfl) rfl rfl (zd 0 ty4 rfl rfl rfl)<|d_pv 3 rfl rfl (by kernel_rfl) (by kernel_rfl) rfl rfl (zm Try.underlying34 rfl sz32 rfl rfl)<|d_uw 4 rfl rfl (by kernel_rfl) (by kernel_rfl) (by kernel_rfl) rfl rfl (zd 1 ty32 rfl rfl rfl)<|zE 2 (by kernel_rfl) (zO rfl rfl rfl rfl (zCa (rI .u32) Try.underlying32 inf95) (fun b3 _=> ?_))
  refine zE 5 (by kernel_rfl) (zTb (A':=fun v:Option Addr×Nat=>rowA 95 (rI .u32) v.1 v.2 (([])++l)) (by kernel_rfl) rfl rfl rfl (zsa 0 rfl Try.underlying32 inf95 (by decide) rfl rfl (by first|rfl|assumption|(simp_all;done)|omega) rfl (by first|rfl|assumption|(simp_all;done)|omega) (by omega) (by omega)) ?_)
  rintro ⟨p4,c5⟩ -
  dsimp only [List.append_eq,List.nil_append,List.cons_append]
  refine d_pv 6 rfl rfl (by kernel_rfl) (by kernel_rfl) rfl rfl (zna zr34 rfl Try.underlying34 (.c sz4 (.c sz32 .n)) (.c rfl (.c rfl .n)) (.c rfl rfl rfl (.take .nil) (.c rfl rfl rfl (.skip (.take .nil)) .n)))<|zcc (zia (i:=1) rfl)<|zE 7 (by kernel_rfl) (zM (by kernel_rfl) rfl rfl rfl rfl rfl sz34 rfl (.take (.take .nil)) ?_)
  refine zma (by kernel_rfl)<|zc<|zP ?_
  have hcc:Big.canon s l:=Decidable.not_not.1 hc
  have hd:Big.digs (Big.raw s l).natAbs=l:=by rw [Big.raw_digs hnn,if_pos hcc]
  have hs:=Big.raw_sign hnn hcc
  refine zkb 1 rfl (.s .z) ?_
  exact zG Try.results85 (p4,c5) trivial (zV 0 ty34 rfl rfl (.take (.take .nil))) (by rw [hs,hd,hn,Nat.zero_add]) (ho:=(.n:PickO _ _ _)) ((.e (j:=0) rfl (by rw [hd] <;> rfl) .n):SelR _ _ _)
theorem zIb {s:Bool} {p:Option Addr} {n:Nat} {cap:Nat} {l:List Int} (hn:l.length=n) (ho:Big.okL l) (hln:n≤4398046511104):Con Try.prog 86 [.bool s,.slice p n cap] [] [slF (rI .u32) p cap l] (Y:=(Option Addr)×Nat) (fun y=>True) (fun y=> .agg #[.bool (decide ((Big.sg s (Big.valL l))<0)),.slice (y.1) ((Big.digs ((Big.sg s (Big.valL l)).natAbs)).length) (y.2)]) (fun y=>[]) (fun y=>[slF (rI .u32) (y.1) (y.2) (Big.digs ((Big.sg s (Big.valL l)).natAbs))]):=by
 refine zB Try.func86 rfl rfl rfl (fun c=> ?_)
 show RunC _ _ _ _ _ [(0,.bool s),(1,.slice p n cap)] [] [slF (rI .u32) p cap l]
 refine zoa 0 rfl (fun hL0=> ?_)
 refine zh<|za<|zS rfl rfl (zn zr34 rfl) (fun b1=> ?_)
 refine zj<|zc<|zh<|za<|r_pv rfl rfl (zb rfl)<|r_pv rfl rfl (zX Try.underlying32 rfl)<|r_pv rfl rfl (ze rfl)<|zj<|zc<|zh<|zr<|zua (X:=Nat) (fun x:Nat=>x≤n∧Big.trimL (l.take x)=Big.trimL l) (fun x=>[(5,.int .i64 ((x:Nat):Int)),(4,.pointer (some ⟨b1,0,none⟩)),(0,.bool s),(1,.slice p n cap)]) (fun x=>[boxA b1 34 [.bool false,.slice none 0 0]]) (fun x=>[slF (rI .u32) p cap l]) (fun x:Nat=>x) n (show n≤n∧Big.trimL (l.take n)=Big.trimL l from by exact ⟨by omega,by rw [List.take_of_length_le (by omega)]⟩) ((.of rfl):SubM _ _) (ho:=((.c (i:=0) rfl .n):PickO _ _ _)) ((.c (j:=0) rfl .n):SelR _ _ _) ?_
 rintro k hI
 replace hI:k≤n∧Big.trimL (l.take k)=Big.trimL l:=hI
 try dsimp only
 obtain ⟨hk,hT⟩:=hI
 refine zh<|zLa (X:=Unit) (fun x=>True) (fun x=>[(17,.bool (decide (0<k∧l.getD (k - 1) 0=0))),(5,.int .i64 ((k:Nat):Int)),(4,.pointer (some ⟨b1,0,none⟩)),(0,.bool s),(1,.slice p n cap)]) (fun x=>[boxA b1 34 [.bool false,.slice none 0 0]]) (fun x=>[slF (rI .u32) p cap l]) ?_ ?_
 ·
  refine za<|r_pv rfl rfl (zb rfl)<|r_pv rfl rfl (zRa rfl rfl)<|zZ rfl rfl (zb rfl) (fun h2=> ?_) (fun h2=> ?_)
  ·
   refine r_pv rfl rfl (zb rfl)<|r_pv rfl rfl (zb rfl)<|r_pv rfl rfl (zOa (z:=(((k:Nat):Int) - 1)) rfl rfl (w64 (by omega)))<|zW (x0:=(l.getD ((((k:Nat):Int) - 1).toNat) 0)) 0 ((((k:Nat):Int) - 1).toNat) rfl Try.underlying32 sz95 rfl rfl rfl (by first|rfl|assumption|(simp_all;done)|omega) rfl (by omega) (gD (d:=0) (by omega)) (fun b3 o4 hok5=> ?_)
   replace hok5:=zda.1 hok5
   refine r_u rfl rfl (zH (j:=0) 0 ty95 rfl rfl rfl rfl)<|r_pv rfl rfl (zxa rfl rfl)<|r_pv rfl rfl (zy rfl rfl)<|zj ?_
   exact zfa () (show True from by first|trivial|omega|simp_all) ((.e rfl (congrArg Value.bool (by have h1:0<k:=(by omega);have h2:((k:Int) - 1).toNat=k - 1:=(by omega);simp [h1,h2])) (.of rfl)):SubM _ _) (ho:=((.c (i:=0) rfl .n):PickO _ _ _)) ((.c (j:=1) rfl .n):SelR _ _ _)
  ·
   refine zi rfl rfl<|zi rfl rfl<|zi rfl rfl<|zi rfl rfl<|zi rfl rfl<|zi rfl rfl<|r_pv rfl rfl (zy rfl rfl)<|zj ?_
   exact zfa () (show True from by first|trivial|omega|simp_all) ((.e rfl (congrArg Value.bool (by have h1:¬0<k:=(by omega);simp [h1])) (.of rfl)):SubM _ _) (ho:=((.c (i:=0) rfl .n):PickO _ _ _)) ((.c (j:=0) rfl .n):SelR _ _ _)
 ·
  rintro ⟨⟩ -
  try dsimp only
  refine zI rfl (fun hc=> ?_) (fun hc=> ?_)
  ·
   refine zw<|zc<|zr<|za<|r_pv rfl rfl (zb rfl)<|r_pv rfl rfl (zOa (z:=(((k - 1):Nat):Int)) rfl rfl (w64 (by omega)))<|r_pv rfl rfl (ze rfl)<|zj<|zA<|zga (k - 1) (show (k - 1)≤n∧Big.trimL (l.take (k - 1))=Big.trimL l from by exact ⟨by omega,by rw [← hT,Big.trim_go l hc.1 (by omega) hc.2]⟩) (by show k - 1<k;omega) ((.e rfl (by first|rfl|(congr 1;omega)|simp_all) (.of rfl)):SubM _ _) (ho:=((.c (i:=0) rfl .n):PickO _ _ _)) ((.c (j:=0) rfl .n):SelR _ _ _)
  ·
   have htr:l.take k=Big.digs (Big.sg s (Big.valL l)).natAbs:=by rw [Big.sg_abs (Big.valL_nonneg ho),←Big.digs_valL ho,←hT];exact (Big.trim_stop l (by omega) hc).symm
   have hlt:(l.take k).length=k:=by rw [List.length_take];omega
   have hsg:=Big.made_sign (s:=s) ho htr hlt
   refine zaa<|zk<|zk<|zt<|zc<|zh<|za<|r_pv rfl rfl (zb rfl)<|zWb rfl rfl (zb rfl) (fun hs=> ?_) (fun hs=> ?_)
   ·
    refine r_pv rfl rfl (zb rfl)<|r_pv rfl rfl (zRa rfl rfl)<|r_pv rfl rfl (zy rfl rfl)<|zKa rfl rfl (zCa (rI .u32) Try.underlying32 inf95) (fun b6 _=> ?_)
    refine r_pv rfl rfl (zb rfl)<|r_pv rfl rfl (zb rfl)<|r_pv rfl rfl (zBb (hi:=k) Try.underlying32 sz95 rfl (.s rfl) (.inr ⟨_,rfl⟩) (by omega))<|zIc (zXb 0 rfl k (by omega)) (fun _ _=> ?_)
    refine zJa 0 rfl rfl rfl (zsa 0 rfl Try.underlying32 inf95 (by decide) rfl rfl (by first|rfl|assumption|(simp_all;done)|omega) rfl (by first|rfl|assumption|(simp_all;done)|omega) (by omega) (by omega)) (fun _=> .z) ?_
    rintro ⟨p7,c8⟩ -
    dsimp only [List.append_eq,List.nil_append,List.cons_append]
    refine r_pv rfl rfl (zna zr34 rfl Try.underlying34 (.c sz4 (.c sz32 .n)) (.c rfl (.c rfl .n)) (.c rfl rfl rfl (.take .nil) (.c rfl rfl rfl (.skip (.take .nil)) .n)))<|zx 1 rfl rfl rfl rfl rfl sz34 rfl (.take (.take .nil)) (.s .z)<|zj<|zc<|zP ?_
    subst hs
    refine zkb 0 rfl .z ?_
    exact zG Try.results86 (p7,c8) trivial (zV 1 ty34 rfl rfl (.take (.take .nil))) (by rw [hsg,←htr,hlt,Nat.zero_add] <;> simp) (ho:=(.n:PickO _ _ _)) ((.e (j:=0) rfl (by rw [htr] <;> rfl) .n):SelR _ _ _)
   ·
    refine zi rfl rfl<|zi rfl rfl<|r_pv rfl rfl (zy rfl rfl)<|zKa rfl rfl (zCa (rI .u32) Try.underlying32 inf95) (fun b9 _=> ?_)
    refine r_pv rfl rfl (zb rfl)<|r_pv rfl rfl (zb rfl)<|r_pv rfl rfl (zBb (hi:=k) Try.underlying32 sz95 rfl (.s rfl) (.inr ⟨_,rfl⟩) (by omega))<|zIc (zXb 0 rfl k (by omega)) (fun _ _=> ?_)
    refine zJa 0 rfl rfl rfl (zsa 0 rfl Try.underlying32 inf95 (by decide) rfl rfl (by first|rfl|assumption|(simp_all;done)|omega) rfl (by first|rfl|assumption|(simp_all;done)|omega) (by omega) (by omega)) (fun _=> .z) ?_
    rintro ⟨p10,c11⟩ -
    dsimp only [List.append_eq,List.nil_append,List.cons_append]
    refine r_pv rfl rfl (zna zr34 rfl Try.underlying34 (.c sz4 (.c sz32 .n)) (.c rfl (.c rfl .n)) (.c rfl rfl rfl (.take .nil) (.c rfl rfl rfl (.skip (.take .nil)) .n)))<|zx 1 rfl rfl rfl rfl rfl sz34 rfl (.take (.take .nil)) (.s .z)<|zj<|zc<|zP ?_
    subst hs
    refine zkb 0 rfl .z ?_
    exact zG Try.results86 (p10,c11) trivial (zV 1 ty34 rfl rfl (.take (.take .nil))) (by rw [hsg,←htr,hlt,Nat.zero_add] <;> simp) (ho:=(.n:PickO _ _ _)) ((.e (j:=0) rfl (by rw [htr] <;> rfl) .n):SelR _ _ _)
theorem zLb {s:Bool} {a:Nat} {p:Option Addr} {cap:Nat} (hln:(Big.digs (a)).length≤4398046511104):Con Try.prog 86 [.bool (s),.slice (p) ((Big.digs (a)).length) (cap)] [] [slF (rI .u32) (p) (cap) (Big.digs (a))] (Y:=(Option Addr)×(Nat)) (fun y=>True) (fun y=> .agg #[.bool (decide ((Big.sg s (a:Int))<0)),.slice (y.1) ((Big.digs ((Big.sg s (a:Int)).natAbs)).length) (y.2)]) (fun y=>[]) (fun y=>[slF (rI .u32) (y.1) (y.2) (Big.digs ((Big.sg s (a:Int)).natAbs))]):=by
  have h:= @zIb s p (Big.digs a).length cap (Big.digs a) rfl (Big.digs_ok a) hln
  rw [Big.valL_digs] at h
  exact h
theorem zMb {p:Option Addr} {n:Nat} {cap:Nat} {l:List Int} {i:Nat} (hn:l.length=n) (hi:i≤4611686018427387904):Con Try.prog 115 [.slice p n cap,.int .i64 ((i:Nat):Int)] [] [slF (rI .u32) p cap l] (Y:=Unit) (fun y=>True) (fun y=> .int .u64 (l.getD i 0)) (fun y=>[]) (fun y=>[]):=by
 refine zB Try.func115 rfl rfl rfl (fun c=> ?_)
 show RunC _ _ _ _ _ [(0,.slice p n cap),(1,.int .i64 ((i:Nat):Int))] [] [slF (rI .u32) p cap l]
 refine zoa 0 rfl (fun hL0=> ?_)
 refine zh<|za<|r_pv rfl rfl (ze rfl)<|zj<|zc<|zh<|zh<|za<|r_pv rfl rfl (zb rfl)<|r_pv rfl rfl (zb rfl)<|r_pv rfl rfl (zX Try.underlying32 rfl)<|r_pv rfl rfl (zD rfl rfl)<|zj<|zc<|zI rfl (fun h1=> ?_) (fun h1=> ?_)
 ·
  refine zh<|za<|r_pv rfl rfl (zb rfl)<|r_pv rfl rfl (zb rfl)<|zW (x0:=(l.getD i 0)) 0 i rfl Try.underlying32 sz95 rfl rfl rfl (by first|rfl|assumption|(simp_all;done)|omega) rfl rfl (gD (d:=0) (by omega)) (fun b2 o3 hok4=> ?_)
  replace hok4:=zda.1 hok4
  refine r_u rfl rfl (zH (j:=0) 0 ty95 rfl rfl rfl rfl)<|r_pv rfl rfl (zDa (z:=(l.getD i 0)) rfl (by rw [Try.underlying95];rfl) Try.underlying123 (wu64 (by omega)))<|r_pv rfl rfl (ze rfl)<|zj<|zc<|zP<|zl ?_
  exact zG Try.results115 () trivial (zz rfl) rfl (ho:=(.n:PickO _ _ _)) (.n:SelR _ _ _)
 ·
  refine zw<|zc<|zh<|za<|r_pv rfl rfl (ze rfl)<|zj<|zc<|zP ?_
  exact zG Try.results115 () trivial (zz rfl) (by rw [show l.getD i 0=0 by simp [List.getD,List.getElem?_eq_none (show l.length≤i by omega)]]) (ho:=(.n:PickO _ _ _)) (.n:SelR _ _ _)
theorem zoe {a:Nat} {b:Nat} {p1:Option Addr} {c1:Nat} {p2:Option Addr} {c2:Nat} (hb1:(Big.digs a).length≤1099511627776) (hb2:(Big.digs b).length≤1099511627776):Con Try.prog 94 [.slice p1 ((Big.digs a).length) c1,.slice p2 ((Big.digs b).length) c2] [] [slF (rI .u32) p1 c1 (Big.digs a),slF (rI .u32) p2 c2 (Big.digs b)] (Y:=(Option Addr)×Nat) (fun y=>True) (fun y=> .slice (y.1) ((Big.digs (a+b)).length) (y.2)) (fun y=>[]) (fun y=>[slF (rI .u32) (y.1) (y.2) (Big.digs (a+b))]):=by
 refine zB Try.func94 rfl rfl rfl (fun c=> ?_)
 show RunC _ _ _ _ _ [(0,.slice p1 ((Big.digs a).length) c1),(1,.slice p2 ((Big.digs b).length) c2)] [] [slF (rI .u32) p1 c1 (Big.digs a),slF (rI .u32) p2 c2 (Big.digs b)]
 refine zoa 0 rfl (fun hL0=> ?_)
 refine zoa 1 rfl (fun hL1=> ?_)
 refine zh<|za<|r_pv rfl rfl (ze rfl)<|zj<|zc<|zh<|za<|zKa rfl rfl (zCa (rI .u32) Try.underlying32 inf95) (fun b1 _=> ?_)
 refine r_pv rfl rfl (ze rfl)<|zj<|zc<|zh<|za<|r_pv rfl rfl (ze rfl)<|zj<|zc<|zh<|zh<|za<|r_pv rfl rfl (ze rfl)<|zj<|zc<|zr<|zua (X:=Nat×(Option Addr)×Nat×(List Int)×Int) (fun x:Nat×(Option Addr)×Nat×(List Int)×Int=>x.1≤max (Big.digs a).length (Big.digs b).length∧x.2.2.2.1.length=x.1∧0≤x.2.2.2.2∧x.2.2.2.2≤1∧Big.okL x.2.2.2.1∧Big.valL x.2.2.2.1+Big.pw x.1*x.2.2.2.2=Big.valL ((Big.digs a).take x.1)+Big.valL ((Big.digs b).take x.1)) (fun x=>[(6,.int .u64 (x.2.2.2.2)),(5,.slice (x.2.1) (x.2.2.2.1.length) (x.2.2.1)),(7,.int .i64 ((x.1:Nat):Int)),(4,.slice none 0 0),(0,.slice p1 ((Big.digs a).length) c1),(1,.slice p2 ((Big.digs b).length) c2)]) (fun x=>[rowA 95 (rI .u32) (x.2.1) (x.2.2.1) (x.2.2.2.1)]) (fun x=>[slF (rI .u32) p1 c1 (Big.digs a),slF (rI .u32) p2 c2 (Big.digs b)]) (fun x:Nat×(Option Addr)×Nat×(List Int)×Int=>max (Big.digs a).length (Big.digs b).length - x.1) (0,some ⟨b1,0,none⟩,0,[],0) (show 0≤max (Big.digs a).length (Big.digs b).length∧([]).length=0∧0≤0∧0≤1∧Big.okL ([])∧Big.valL ([])+Big.pw 0*0=Big.valL ((Big.digs a).take 0)+Big.valL ((Big.digs b).take 0) from by exact ⟨by omega,rfl,by decide,by decide,Big.okL_nil,by simp [Big.valL]⟩) ((.c rfl (.e rfl (by first|rfl|(congr 1;omega)|simp_all) (.e rfl (by first|rfl|(congr 1;omega)|simp_all) (.of rfl)))):SubM _ _) (ho:=((.c (i:=0) rfl .n):PickO _ _ _)) ((.of [0,1] rfl):SelR _ _ _) ?_
 rintro ⟨i,p,c,os,cy⟩ hI
 replace hI:i≤max (Big.digs a).length (Big.digs b).length∧os.length=i∧0≤cy∧cy≤1∧Big.okL os∧Big.valL os+Big.pw i*cy=Big.valL ((Big.digs a).take i)+Big.valL ((Big.digs b).take i):=hI
 try dsimp only
 obtain ⟨hi,hol,hc0,hc1,hok,hv⟩:=hI
 have hg1:=Big.okL_getD (Big.digs_ok a) i
 have hg2:=Big.okL_getD (Big.digs_ok b) i
 refine zh<|zLa (X:=Unit) (fun x=>True) (fun x=>[(19,.bool (decide (i<(Big.digs a).length∨i<(Big.digs b).length))),(6,.int .u64 cy),(5,.slice p (os.length) c),(7,.int .i64 ((i:Nat):Int)),(4,.slice none 0 0),(0,.slice p1 ((Big.digs a).length) c1),(1,.slice p2 ((Big.digs b).length) c2)]) (fun x=>[rowA 95 (rI .u32) p c os]) (fun x=>[slF (rI .u32) p1 c1 (Big.digs a),slF (rI .u32) p2 c2 (Big.digs b)]) ?_ ?_
 ·
  refine za<|r_pv rfl rfl (zb rfl)<|r_pv rfl rfl (zb rfl)<|r_pv rfl rfl (zX Try.underlying32 rfl)<|r_pv rfl rfl (zD rfl rfl)<|zZ rfl rfl (zb rfl) (fun h2=> ?_) (fun h2=> ?_)
  ·
   refine zi rfl rfl<|zi rfl rfl<|zi rfl rfl<|zi rfl rfl<|r_pv rfl rfl (zy rfl rfl)<|zj ?_
   exact zfa () (show True from by first|trivial|omega|simp_all) ((.e rfl (congrArg Value.bool (by simp;omega)) (.of rfl)):SubM _ _) (ho:=((.c (i:=0) rfl .n):PickO _ _ _)) ((.of [0,1] rfl):SelR _ _ _)
  ·
   refine r_pv rfl rfl (zb rfl)<|r_pv rfl rfl (zb rfl)<|r_pv rfl rfl (zX Try.underlying32 rfl)<|r_pv rfl rfl (zD rfl rfl)<|r_pv rfl rfl (zy rfl rfl)<|zj ?_
   exact zfa () (show True from by first|trivial|omega|simp_all) ((.e rfl (congrArg Value.bool (by simp;omega)) (.of rfl)):SubM _ _) (ho:=((.c (i:=0) rfl .n):PickO _ _ _)) ((.of [0,1] rfl):SelR _ _ _)
 ·
  rintro ⟨⟩ -
  try dsimp only
  refine zI rfl (fun hc=> ?_) (fun hc=> ?_)
  ·
   refine zw<|zc<|zh<|zr<|zh<|za<|r_pv rfl rfl (zb rfl)<|r_pv rfl rfl (zb rfl)<|zY rfl rfl (.c rfl (.c rfl .n)) ce115 (zMb (p:=p1) (n:=(Big.digs a).length) (cap:=c1) (l:=Big.digs a) (i:=i) (hn:=by first|rfl|assumption|omega|(simp;done)|(simp;omega)|(simp_all;done)) (hi:=by first|rfl|assumption|omega|(simp;done)|(simp;omega)|(simp_all;done))) (.c (j:=0) rfl .n)<|r_pv rfl rfl (zb rfl)<|r_pv rfl rfl (zb rfl)<|zY rfl rfl (.c rfl (.c rfl .n)) ce115 (zMb (p:=p2) (n:=(Big.digs b).length) (cap:=c2) (l:=Big.digs b) (i:=i) (hn:=by first|rfl|assumption|omega|(simp;done)|(simp;omega)|(simp_all;done)) (hi:=by first|rfl|assumption|omega|(simp;done)|(simp;omega)|(simp_all;done))) (.c (j:=1) rfl .n)<|r_pv rfl rfl (zC (z:=((Big.digs a).getD i 0+(Big.digs b).getD i 0)) rfl rfl (wu64 (by omega)))<|r_pv rfl rfl (zb rfl)<|r_pv rfl rfl (zC (z:=(((Big.digs a).getD i 0+(Big.digs b).getD i 0)+cy)) rfl rfl (wu64 (by omega)))<|r_pv rfl rfl (ze rfl)<|zj<|zc<|zh<|za<|r_pv rfl rfl (zb rfl)<|r_pv rfl rfl (zb rfl)<|r_pv rfl rfl (zdb (z:=((((Big.digs a).getD i 0+(Big.digs b).getD i 0)+cy)%1000000000)) rfl rfl (by omega) (remN (by omega) (by omega)))<|r_pv rfl rfl (zDa (z:=((((Big.digs a).getD i 0+(Big.digs b).getD i 0)+cy)%1000000000)) rfl (by rw [Try.underlying123];rfl) Try.underlying95 (wu32 (by omega)))<|zKa rfl rfl (zJ (enc:=fun z:Int=>[.int .u32 z]) (ok:=InK .u32) (h1:=fun _=>rfl) (h2:=fun _=>rfl) (k:=1) Try.underlying32 inf95 rfl (by decide) (by decide) (by decide) (.c (x:=((((Big.digs a).getD i 0+(Big.digs b).getD i 0)+cy)%1000000000)) rfl rfl (fun _ _=>by exact zda.2 (by omega)) .n)) (fun b3 _=> ?_)
   refine zEa 0 rfl .z<|zJa 1 rfl rfl rfl (zsa 0 rfl Try.underlying32 inf95 (by decide) rfl rfl (by first|rfl|assumption|(simp_all;done)|omega) rfl (by first|rfl|assumption|(simp_all;done)|omega) (by omega) (by omega)) (fun _=>(.s .z)) ?_
   rintro ⟨p4,c5⟩ -
   dsimp only [List.append_eq,List.nil_append,List.cons_append]
   refine r_pv rfl rfl (ze rfl)<|zj<|zc<|za<|r_pv rfl rfl (zb rfl)<|r_pv rfl rfl (zJc (z:=((((Big.digs a).getD i 0+(Big.digs b).getD i 0)+cy) / 1000000000)) rfl rfl (by omega) (by rw [quoN (z:=((((Big.digs a).getD i 0+(Big.digs b).getD i 0)+cy) / 1000000000)) (by omega) (by omega)];exact wu64 (by omega)))<|r_pv rfl rfl (ze rfl)<|zj<|zA<|zc<|za<|r_pv rfl rfl (zb rfl)<|r_pv rfl rfl (zC (z:=(((i+1):Nat):Int)) rfl rfl (w64 (by omega)))<|r_pv rfl rfl (ze rfl)<|zj<|zga ((i+1),p4,c5,os++[((Big.digs a).getD i 0+(Big.digs b).getD i 0+cy)%1000000000],((Big.digs a).getD i 0+(Big.digs b).getD i 0+cy) / 1000000000) (show (i+1)≤max (Big.digs a).length (Big.digs b).length∧(os++[((Big.digs a).getD i 0+(Big.digs b).getD i 0+cy)%1000000000]).length=(i+1)∧0≤(((Big.digs a).getD i 0+(Big.digs b).getD i 0+cy) / 1000000000)∧(((Big.digs a).getD i 0+(Big.digs b).getD i 0+cy) / 1000000000)≤1∧Big.okL (os++[((Big.digs a).getD i 0+(Big.digs b).getD i 0+cy)%1000000000])∧Big.valL (os++[((Big.digs a).getD i 0+(Big.digs b).getD i 0+cy)%1000000000])+Big.pw (i+1)*(((Big.digs a).getD i 0+(Big.digs b).getD i 0+cy) / 1000000000)=Big.valL ((Big.digs a).take (i+1))+Big.valL ((Big.digs b).take (i+1)) from by exact ⟨by omega,by simp [hol],by omega,by omega,Big.okL_snoc hok (by omega) (by omega),Big.plus_step hol hv (by omega)⟩) (by show max (Big.digs a).length (Big.digs b).length - (i+1)<max (Big.digs a).length (Big.digs b).length - i;omega) ((.e rfl (by first|rfl|(congr 1;omega)|simp_all) (.e rfl (by simp) (.of rfl))):SubM _ _) (ho:=((.e (i:=1) rfl (by first|rfl|(congr 1;omega)|simp_all) .n):PickO _ _ _)) ((.of [1,2] rfl):SelR _ _ _)
  ·
   have hok2:=Big.okL_snoc hok hc0 (show cy<1000000000 by omega)
   have hfin:=Big.plus_end (a:=a) (b:=b) hol (by omega) (by omega) hv
   refine zaa<|zk<|zk<|zt<|zc<|zh<|za<|r_pv rfl rfl (zb rfl)<|r_pv rfl rfl (zb rfl)<|r_pv rfl rfl (zDa (z:=cy) rfl (by rw [Try.underlying123];rfl) Try.underlying95 (wu32 (by omega)))<|zKa rfl rfl (zJ (enc:=fun z:Int=>[.int .u32 z]) (ok:=InK .u32) (h1:=fun _=>rfl) (h2:=fun _=>rfl) (k:=1) Try.underlying32 inf95 rfl (by decide) (by decide) (by decide) (.c (x:=cy) rfl rfl (fun _ _=>by exact zda.2 (by omega)) .n)) (fun b6 _=> ?_)
   refine zEa 0 rfl .z<|zJa 1 rfl rfl rfl (zsa 0 rfl Try.underlying32 inf95 (by decide) rfl rfl (by first|rfl|assumption|(simp_all;done)|omega) rfl (by first|rfl|assumption|(simp_all;done)|omega) (by omega) (by omega)) (fun _=>(.s .z)) ?_
   rintro ⟨p7,c8⟩ -
   dsimp only [List.append_eq,List.nil_append,List.cons_append]
   refine zEa 1 rfl (.s .z)<|zea rfl rfl (.c rfl (.c rfl .n)) ce86 (zIb (s:=false) (p:=p7) (n:=os.length+1) (cap:=c8) (l:=(os++([cy]))) (hn:=by first|rfl|omega|(simp;done)|(simp;omega)) (ho:=by exact hok2) (hln:=by first|rfl|omega|(simp;done)|(simp;omega))) (.c (j:=0) rfl .n) ?_
   rintro ⟨p29,c210⟩ -
   dsimp only [List.append_eq,List.nil_append,List.cons_append]
   refine r_pv rfl rfl (zhc Try.underlying34 rfl ty32 rfl rfl)<|r_pv rfl rfl (ze rfl)<|zj<|zc<|zP ?_
   exact zG Try.results94 (p29,c210) trivial (zz rfl) (by rw [hfin]) (ho:=(.n:PickO _ _ _)) ((.e (j:=0) rfl (by rw [hfin]) .n):SelR _ _ _)
theorem zNc {a:Nat} {b:Nat} {p1:Option Addr} {c1:Nat} {p2:Option Addr} {c2:Nat} (hb1:(Big.digs a).length≤1099511627776) (hb2:(Big.digs b).length≤1099511627776) (hab:b≤a):Con Try.prog 96 [.slice p1 ((Big.digs a).length) c1,.slice p2 ((Big.digs b).length) c2] [] [slF (rI .u32) p1 c1 (Big.digs a),slF (rI .u32) p2 c2 (Big.digs b)] (Y:=(Option Addr)×Nat) (fun y=>True) (fun y=> .slice (y.1) ((Big.digs (a - b)).length) (y.2)) (fun y=>[]) (fun y=>[slF (rI .u32) (y.1) (y.2) (Big.digs (a - b))]):=by
 refine zB Try.func96 rfl rfl rfl (fun c=> ?_)
 show RunC _ _ _ _ _ [(0,.slice p1 ((Big.digs a).length) c1),(1,.slice p2 ((Big.digs b).length) c2)] [] [slF (rI .u32) p1 c1 (Big.digs a),slF (rI .u32) p2 c2 (Big.digs b)]
 refine zoa 0 rfl (fun hL0=> ?_)
 refine zoa 1 rfl (fun hL1=> ?_)
 refine zh<|za<|r_pv rfl rfl (ze rfl)<|zj<|zc<|zh<|za<|zKa rfl rfl (zCa (rI .u32) Try.underlying32 inf95) (fun b1 _=> ?_)
 refine r_pv rfl rfl (ze rfl)<|zj<|zc<|zh<|za<|r_pv rfl rfl (ze rfl)<|zj<|zc<|zh<|zh<|za<|r_pv rfl rfl (ze rfl)<|zj<|zc<|zr<|zua (X:=Nat×(Option Addr)×Nat×(List Int)×Int) (fun x:Nat×(Option Addr)×Nat×(List Int)×Int=>x.1≤(Big.digs a).length∧x.2.2.2.1.length=x.1∧0≤x.2.2.2.2∧x.2.2.2.2≤1∧Big.okL x.2.2.2.1∧Big.valL x.2.2.2.1+Big.valL ((Big.digs b).take x.1)=Big.valL ((Big.digs a).take x.1)+Big.pw x.1*x.2.2.2.2) (fun x=>[(6,.int .u64 (x.2.2.2.2)),(5,.slice (x.2.1) (x.2.2.2.1.length) (x.2.2.1)),(7,.int .i64 ((x.1:Nat):Int)),(4,.slice none 0 0),(0,.slice p1 ((Big.digs a).length) c1),(1,.slice p2 ((Big.digs b).length) c2)]) (fun x=>[rowA 95 (rI .u32) (x.2.1) (x.2.2.1) (x.2.2.2.1)]) (fun x=>[slF (rI .u32) p1 c1 (Big.digs a),slF (rI .u32) p2 c2 (Big.digs b)]) (fun x:Nat×(Option Addr)×Nat×(List Int)×Int=>(Big.digs a).length - x.1) (0,some ⟨b1,0,none⟩,0,[],0) (show 0≤(Big.digs a).length∧([]).length=0∧0≤0∧0≤1∧Big.okL ([])∧Big.valL ([])+Big.valL ((Big.digs b).take 0)=Big.valL ((Big.digs a).take 0)+Big.pw 0*0 from by exact ⟨by omega,rfl,by decide,by decide,Big.okL_nil,by simp [Big.valL]⟩) ((.c rfl (.e rfl (by first|rfl|(congr 1;omega)|simp_all) (.e rfl (by first|rfl|(congr 1;omega)|simp_all) (.of rfl)))):SubM _ _) (ho:=((.c (i:=0) rfl .n):PickO _ _ _)) ((.of [0,1] rfl):SelR _ _ _) ?_
 rintro ⟨i,p,c,os,bo⟩ hI
 replace hI:i≤(Big.digs a).length∧os.length=i∧0≤bo∧bo≤1∧Big.okL os∧Big.valL os+Big.valL ((Big.digs b).take i)=Big.valL ((Big.digs a).take i)+Big.pw i*bo:=hI
 try dsimp only
 obtain ⟨hi,hol,hc0,hc1,hok,hv⟩:=hI
 have hg1:=Big.okL_getD (Big.digs_ok a) i
 have hg2:=Big.okL_getD (Big.digs_ok b) i
 refine zh<|zh<|za<|r_pv rfl rfl (zb rfl)<|r_pv rfl rfl (zb rfl)<|r_pv rfl rfl (zX Try.underlying32 rfl)<|r_pv rfl rfl (zD rfl rfl)<|zj<|zc<|zI rfl (fun h2=> ?_) (fun h2=> ?_)
 ·
  refine zw<|zc<|zh<|zr<|zh<|za<|r_pv rfl rfl (zb rfl)<|r_pv rfl rfl (zb rfl)<|zY rfl rfl (.c rfl (.c rfl .n)) ce115 (zMb (p:=p1) (n:=(Big.digs a).length) (cap:=c1) (l:=Big.digs a) (i:=i) (hn:=by first|rfl|assumption|omega|(simp;done)|(simp;omega)|(simp_all;done)) (hi:=by first|rfl|assumption|omega|(simp;done)|(simp;omega)|(simp_all;done))) (.c (j:=0) rfl .n)<|r_pv rfl rfl (zC (z:=(1000000000+(Big.digs a).getD i 0)) rfl rfl (wu64 (by omega)))<|r_pv rfl rfl (zb rfl)<|r_pv rfl rfl (zb rfl)<|zY rfl rfl (.c rfl (.c rfl .n)) ce115 (zMb (p:=p2) (n:=(Big.digs b).length) (cap:=c2) (l:=Big.digs b) (i:=i) (hn:=by first|rfl|assumption|omega|(simp;done)|(simp;omega)|(simp_all;done)) (hi:=by first|rfl|assumption|omega|(simp;done)|(simp;omega)|(simp_all;done))) (.c (j:=1) rfl .n)<|r_pv rfl rfl (zOa (z:=((1000000000+(Big.digs a).getD i 0) - (Big.digs b).getD i 0)) rfl rfl (wu64 (by omega)))<|r_pv rfl rfl (zb rfl)<|r_pv rfl rfl (zOa (z:=(((1000000000+(Big.digs a).getD i 0) - (Big.digs b).getD i 0) - bo)) rfl rfl (wu64 (by omega)))<|r_pv rfl rfl (ze rfl)<|zj<|zc<|zh<|za<|r_pv rfl rfl (zb rfl)<|r_pv rfl rfl (zb rfl)<|r_pv rfl rfl (zdb (z:=((((1000000000+(Big.digs a).getD i 0) - (Big.digs b).getD i 0) - bo)%1000000000)) rfl rfl (by omega) (remN (by omega) (by omega)))<|r_pv rfl rfl (zDa (z:=((((1000000000+(Big.digs a).getD i 0) - (Big.digs b).getD i 0) - bo)%1000000000)) rfl (by rw [Try.underlying123];rfl) Try.underlying95 (wu32 (by omega)))<|zKa rfl rfl (zJ (enc:=fun z:Int=>[.int .u32 z]) (ok:=InK .u32) (h1:=fun _=>rfl) (h2:=fun _=>rfl) (k:=1) Try.underlying32 inf95 rfl (by decide) (by decide) (by decide) (.c (x:=((((1000000000+(Big.digs a).getD i 0) - (Big.digs b).getD i 0) - bo)%1000000000)) rfl rfl (fun _ _=>by exact zda.2 (by omega)) .n)) (fun b3 _=> ?_)
  refine zEa 0 rfl .z<|zJa 1 rfl rfl rfl (zsa 0 rfl Try.underlying32 inf95 (by decide) rfl rfl (by first|rfl|assumption|(simp_all;done)|omega) rfl (by first|rfl|assumption|(simp_all;done)|omega) (by omega) (by omega)) (fun _=>(.s .z)) ?_
  rintro ⟨p4,c5⟩ -
  dsimp only [List.append_eq,List.nil_append,List.cons_append]
  refine r_pv rfl rfl (ze rfl)<|zj<|zc<|za<|r_pv rfl rfl (zb rfl)<|r_pv rfl rfl (zJc (z:=((((1000000000+(Big.digs a).getD i 0) - (Big.digs b).getD i 0) - bo) / 1000000000)) rfl rfl (by omega) (by rw [quoN (z:=((((1000000000+(Big.digs a).getD i 0) - (Big.digs b).getD i 0) - bo) / 1000000000)) (by omega) (by omega)];exact wu64 (by omega)))<|r_pv rfl rfl (zOa (z:=(1 - ((((1000000000+(Big.digs a).getD i 0) - (Big.digs b).getD i 0) - bo) / 1000000000))) rfl rfl (wu64 (by omega)))<|r_pv rfl rfl (ze rfl)<|zj<|zA<|zc<|za<|r_pv rfl rfl (zb rfl)<|r_pv rfl rfl (zC (z:=(((i+1):Nat):Int)) rfl rfl (w64 (by omega)))<|r_pv rfl rfl (ze rfl)<|zj<|zga ((i+1),p4,c5,os++[(1000000000+(Big.digs a).getD i 0 - (Big.digs b).getD i 0 - bo)%1000000000],1 - (1000000000+(Big.digs a).getD i 0 - (Big.digs b).getD i 0 - bo) / 1000000000) (show (i+1)≤(Big.digs a).length∧(os++[(1000000000+(Big.digs a).getD i 0 - (Big.digs b).getD i 0 - bo)%1000000000]).length=(i+1)∧0≤(1 - (1000000000+(Big.digs a).getD i 0 - (Big.digs b).getD i 0 - bo) / 1000000000)∧(1 - (1000000000+(Big.digs a).getD i 0 - (Big.digs b).getD i 0 - bo) / 1000000000)≤1∧Big.okL (os++[(1000000000+(Big.digs a).getD i 0 - (Big.digs b).getD i 0 - bo)%1000000000])∧Big.valL (os++[(1000000000+(Big.digs a).getD i 0 - (Big.digs b).getD i 0 - bo)%1000000000])+Big.valL ((Big.digs b).take (i+1))=Big.valL ((Big.digs a).take (i+1))+Big.pw (i+1)*(1 - (1000000000+(Big.digs a).getD i 0 - (Big.digs b).getD i 0 - bo) / 1000000000) from by exact ⟨by omega,by simp [hol],by omega,by omega,Big.okL_snoc hok (by omega) (by omega),Big.minus_step hol hv (by omega)⟩) (by show (Big.digs a).length - (i+1)<(Big.digs a).length - i;omega) ((.e rfl (by first|rfl|(congr 1;omega)|simp_all) (.e rfl (by simp) (.of rfl))):SubM _ _) (ho:=((.e (i:=1) rfl (by first|rfl|(congr 1;omega)|simp_all) .n):PickO _ _ _)) ((.of [1,2] rfl):SelR _ _ _)
 ·
  have htr:Big.trimL os=Big.digs (a - b):=Big.minus_fin hab hok hc0 hol (by omega) hv
  have hfin:(Big.sg false (Big.valL os)).natAbs=a - b:=by rw [Big.sg_abs (Big.valL_nonneg hok)];have:=congrArg Big.valL htr;rw [Big.valL_trim,Big.valL_digs] at this;omega
  refine zaa<|zk<|zk<|zt<|zc<|zh<|za<|r_pv rfl rfl (zb rfl)<|zEa 0 rfl .z<|zea rfl rfl (.c rfl (.c rfl .n)) ce86 (zIb (s:=false) (p:=p) (n:=os.length) (cap:=c) (l:=os) (hn:=by first|rfl|omega|(simp;done)|(simp;omega)) (ho:=by exact hok) (hln:=by first|rfl|omega|(simp;done)|(simp;omega))) (.c (j:=0) rfl .n) ?_
  rintro ⟨p26,c27⟩ -
  dsimp only [List.append_eq,List.nil_append,List.cons_append]
  refine r_pv rfl rfl (zhc Try.underlying34 rfl ty32 rfl rfl)<|r_pv rfl rfl (ze rfl)<|zj<|zc<|zP ?_
  exact zG Try.results96 (p26,c27) trivial (zz rfl) (by rw [hfin]) (ho:=(.n:PickO _ _ _)) ((.e (j:=0) rfl (by rw [hfin]) .n):SelR _ _ _)
theorem zpe {a:Nat} {b:Nat} {p1:Option Addr} {c1:Nat} {p2:Option Addr} {c2:Nat}:Con Try.prog 95 [.slice p1 ((Big.digs a).length) c1,.slice p2 ((Big.digs b).length) c2] [] [slF (rI .u32) p1 c1 (Big.digs a),slF (rI .u32) p2 c2 (Big.digs b)] (Y:=Unit) (fun y=>True) (fun y=> .int .i64 (Big.cmp (a:Int) (b:Int))) (fun y=>[]) (fun y=>[]):=by
 refine zB Try.func95 rfl rfl rfl (fun c=> ?_)
 show RunC _ _ _ _ _ [(0,.slice p1 ((Big.digs a).length) c1),(1,.slice p2 ((Big.digs b).length) c2)] [] [slF (rI .u32) p1 c1 (Big.digs a),slF (rI .u32) p2 c2 (Big.digs b)]
 refine zoa 0 rfl (fun hL0=> ?_)
 refine zoa 1 rfl (fun hL1=> ?_)
 refine zh<|za<|r_pv rfl rfl (ze rfl)<|zj<|zc<|zh<|zh<|za<|r_pv rfl rfl (zb rfl)<|r_pv rfl rfl (zX Try.underlying32 rfl)<|r_pv rfl rfl (zb rfl)<|r_pv rfl rfl (zX Try.underlying32 rfl)<|r_pv rfl rfl (zZa rfl rfl)<|zj<|zc<|zI rfl (fun hlen=> ?_) (fun hlen=> ?_)
 ·
  refine zh<|zh<|za<|r_pv rfl rfl (zb rfl)<|r_pv rfl rfl (zX Try.underlying32 rfl)<|r_pv rfl rfl (zb rfl)<|r_pv rfl rfl (zX Try.underlying32 rfl)<|r_pv rfl rfl (zD rfl rfl)<|zj<|zc<|zI rfl (fun hll=> ?_) (fun hll=> ?_)
  ·
   refine zh<|za<|r_pv rfl rfl (ze rfl)<|zj<|zc<|zP<|zl<|zl ?_
   exact zG Try.results95 () trivial (zz rfl) (by rw [← Big.cmp_len (by omega),Big.cmp_lt (by omega)]) (ho:=(.n:PickO _ _ _)) (.n:SelR _ _ _)
  ·
   refine zw<|zc<|zh<|za<|r_pv rfl rfl (ze rfl)<|zj<|zc<|zP<|zl ?_
   exact zG Try.results95 () trivial (zz rfl) (by rw [← Big.cmp_len (by omega),Big.cmp_gt (by omega)]) (ho:=(.n:PickO _ _ _)) (.n:SelR _ _ _)
 ·
  replace hlen:(Big.digs a).length=(Big.digs b).length:=by omega
  refine zw<|zc<|zh<|zh<|za<|r_pv rfl rfl (zb rfl)<|r_pv rfl rfl (zX Try.underlying32 rfl)<|r_pv rfl rfl (zOa (z:=((((Big.digs a).length:Nat):Int) - 1)) rfl rfl (w64 (by omega)))<|r_pv rfl rfl (ze rfl)<|zj<|zc<|zr<|zua (X:=Nat) (fun x:Nat=>x≤(Big.digs a).length∧(Big.digs a).drop x=(Big.digs b).drop x) (fun x=>[(5,.int .i64 (((x:Nat):Int) - 1)),(0,.slice p1 ((Big.digs a).length) c1),(1,.slice p2 ((Big.digs b).length) c2)]) (fun x=>[]) (fun x=>[slF (rI .u32) p1 c1 (Big.digs a),slF (rI .u32) p2 c2 (Big.digs b)]) (fun x:Nat=>x) ((Big.digs a).length) (show ((Big.digs a).length)≤(Big.digs a).length∧(Big.digs a).drop ((Big.digs a).length)=(Big.digs b).drop ((Big.digs a).length) from by exact ⟨Nat.le_refl _,by rw [List.drop_length,hlen,List.drop_length]⟩) ((.e rfl (by first|rfl|(congr 1;omega)|simp_all) (.c rfl (.c rfl .n))):SubM _ _) (ho:=(.n:PickO _ _ _)) ((.of [0,1] rfl):SelR _ _ _) ?_
  rintro j hI
  replace hI:j≤(Big.digs a).length∧(Big.digs a).drop j=(Big.digs b).drop j:=hI
  try dsimp only
  obtain ⟨hj,hd⟩:=hI
  refine zh<|zh<|za<|r_pv rfl rfl (zb rfl)<|r_pv rfl rfl (zeb rfl rfl)<|zj<|zc<|zI rfl (fun h1=> ?_) (fun h1=> ?_)
  ·
   obtain ⟨k,rfl⟩:∃k,j=k+1:=⟨j - 1,by omega⟩
   have e2:(((((k+1):Nat):Int) - 1):Int)=((k:Nat):Int):=by omega
   rw [e2]
   refine zw<|zc<|zh<|zr<|zh<|zh<|zla (OW:=[]) (O:=[]) 100000 mixed (.then (.then (.block (.then (.then (.block (.then .ret))))))) (by kernel_rfl)<|d_pv 0 rfl rfl (by kernel_rfl) (by kernel_rfl) rfl rfl (zb rfl)<|d_pv 1 rfl rfl (by kernel_rfl) (by kernel_rfl) rfl rfl (zb rfl)<|zta (x0:=((Big.digs a).getD k 0)) 2 rfl rfl (by kernel_rfl) (by kernel_rfl) 0 k rfl Try.underlying32 sz95 rfl rfl rfl (by first|rfl|assumption|(simp_all;done)|omega) rfl rfl (gD (d:=0) (by omega)) (fun b3 o4 hok5=> ?_)
   replace hok5:=zda.1 hok5
   refine d_u 3 rfl rfl (by kernel_rfl) (by kernel_rfl) rfl rfl (zH (j:=0) 0 ty95 rfl rfl rfl rfl)<|d_pv 4 rfl rfl (by kernel_rfl) (by kernel_rfl) rfl rfl (zb rfl)<|d_pv 5 rfl rfl (by kernel_rfl) (by kernel_rfl) rfl rfl (zb rfl)<|zta (x0:=((Big.digs b).getD k 0)) 6 rfl rfl (by kernel_rfl) (by kernel_rfl) 2 k rfl Try.underlying32 sz95 rfl rfl rfl (by first|rfl|assumption|(simp_all;done)|omega) rfl rfl (gD (d:=0) (by omega)) (fun b6 o7 hok8=> ?_)
   replace hok8:=zda.1 hok8
   refine d_u 7 rfl rfl (by kernel_rfl) (by kernel_rfl) rfl rfl (zH (j:=0) 0 ty95 rfl rfl rfl rfl)<|d_pv 8 rfl rfl (by kernel_rfl) (by kernel_rfl) rfl rfl (zD rfl rfl)<|zma (by kernel_rfl)<|zc<|zI rfl (fun hlt=> ?_) (fun hlt=> ?_)
   ·
    refine zh<|za<|r_pv rfl rfl (ze rfl)<|zj<|zc<|zP<|zl<|zq<|zl<|zl<|zq<|zl ?_
    exact zG Try.results95 () trivial (zz rfl) (by rw [← Big.cmp_at hlen (by omega) hd (by omega),Big.cmp_lt (by omega)]) (ho:=(.n:PickO _ _ _)) (.n:SelR _ _ _)
   ·
    refine zw<|zc<|zh<|zla (OW:=[]) (O:=[]) 100000 mixed (.then (.block (.then (.then (.block (.then .ret)))))) (by kernel_rfl)<|d_pv 0 rfl rfl (by kernel_rfl) (by kernel_rfl) rfl rfl (zb rfl)<|d_pv 1 rfl rfl (by kernel_rfl) (by kernel_rfl) rfl rfl (zb rfl)<|zta (x0:=((Big.digs a).getD k 0)) 2 rfl rfl (by kernel_rfl) (by kernel_rfl) 2 k rfl Try.underlying32 sz95 rfl rfl rfl (by first|rfl|assumption|(simp_all;done)|omega) rfl rfl (gD (d:=0) (by omega)) (fun b9 o10 hok11=> ?_)
    replace hok11:=zda.1 hok11
    refine d_u 3 rfl rfl (by kernel_rfl) (by kernel_rfl) rfl rfl (zH (j:=0) 0 ty95 rfl rfl rfl rfl)<|d_pv 4 rfl rfl (by kernel_rfl) (by kernel_rfl) rfl rfl (zb rfl)<|d_pv 5 rfl rfl (by kernel_rfl) (by kernel_rfl) rfl rfl (zb rfl)<|zta (x0:=((Big.digs b).getD k 0)) 6 rfl rfl (by kernel_rfl) (by kernel_rfl) 4 k rfl Try.underlying32 sz95 rfl rfl rfl (by first|rfl|assumption|(simp_all;done)|omega) rfl rfl (gD (d:=0) (by omega)) (fun b12 o13 hok14=> ?_)
    replace hok14:=zda.1 hok14
    refine d_u 7 rfl rfl (by kernel_rfl) (by kernel_rfl) rfl rfl (zH (j:=0) 0 ty95 rfl rfl rfl rfl)<|d_pv 8 rfl rfl (by kernel_rfl) (by kernel_rfl) rfl rfl (zRa rfl rfl)<|zma (by kernel_rfl)<|zc<|zI rfl (fun hgt=> ?_) (fun hgt=> ?_)
    ·
     refine zh<|za<|r_pv rfl rfl (ze rfl)<|zj<|zc<|zP<|zq<|zl<|zl<|zq<|zl ?_
     exact zG Try.results95 () trivial (zz rfl) (by rw [← Big.cmp_at hlen (by omega) hd (by omega),Big.cmp_gt (by omega)]) (ho:=(.n:PickO _ _ _)) (.n:SelR _ _ _)
    ·
     refine zw<|zA<|zc<|za<|r_pv rfl rfl (zb rfl)<|r_pv rfl rfl (zOa (z:=(((k:Nat):Int) - 1)) rfl rfl (w64 (by omega)))<|r_pv rfl rfl (ze rfl)<|zj<|zga k (show k≤(Big.digs a).length∧(Big.digs a).drop k=(Big.digs b).drop k from by exact ⟨by omega,Big.drop_more (by omega) (by omega) hd (by omega)⟩) (by show k<k+1;omega) ((.of rfl):SubM _ _) (ho:=(.n:PickO _ _ _)) ((.of [4,5] rfl):SelR _ _ _)
  ·
   refine zaa<|zk<|zk<|zt<|zc<|zh<|za<|r_pv rfl rfl (ze rfl)<|zj<|zc<|zP ?_
   have hj0:j=0:=by omega
   subst hj0
   have heq:=Big.cmp_eq (show Big.digs a=Big.digs b by simpa using hd)
   exact zG Try.results95 () trivial (zz rfl) (by rw [heq] <;> simp [Big.cmp]) (ho:=(.n:PickO _ _ _)) (.n:SelR _ _ _)
theorem zjf {z:Int} (hz: -9223372036854775808≤z∧z≤9223372036854775807):Con Try.prog 45 [.int .i64 z] [] [] (Y:=(Option Addr)×Nat) (fun y=>True) (fun y=> .agg #[.bool (decide (z<0)),.slice (y.1) ((Big.digs ((z).natAbs)).length) (y.2)]) (fun y=>[]) (fun y=>[slF (rI .u32) (y.1) (y.2) (Big.digs ((z).natAbs))]):=by
 refine zB Try.func45 rfl rfl rfl (fun c=> ?_)
 show RunC _ _ _ _ _ [(0,.int .i64 z)] [] []
 refine zh<|za<|zS rfl rfl (zn zr34 rfl) (fun b1=> ?_)
 refine zj<|zc<|zh<|za<|r_pv rfl rfl (zb rfl)<|r_pv rfl rfl (zDa (z:=(z%18446744073709551616)) rfl (by rw [Try.underlying3];rfl) Try.underlying123 (wu64m (by omega)))<|r_pv rfl rfl (ze rfl)<|zj<|zc<|zLa (X:=Unit) (fun x=>True) (fun x=>[(3,.int .u64 ((z.natAbs:Nat):Int)),(2,.pointer (some ⟨b1,0,none⟩)),(0,.int .i64 z)]) (fun x=>[boxA b1 34 [.bool false,.slice none 0 0]]) (fun x=>[]) ?_ ?_
 ·
  refine zh<|za<|r_pv rfl rfl (zb rfl)<|r_pv rfl rfl (zD rfl rfl)<|zj<|zc<|zI rfl (fun hs=> ?_) (fun hs=> ?_)
  ·
   refine za<|r_pv rfl rfl (zb rfl)<|r_pv rfl rfl (zC (z:=(z+1)) rfl rfl (w64 (by omega)))<|r_pv rfl rfl (zTe (z:=(-(z+1))) rfl (w64 (by omega)))<|r_pv rfl rfl (zDa (z:=(-(z+1))) rfl (by rw [Try.underlying3];rfl) Try.underlying123 (wu64 (by omega)))<|r_pv rfl rfl (zC (z:=((z.natAbs:Nat):Int)) rfl rfl (wu64 (by omega)))<|r_pv rfl rfl (ze rfl)<|zj ?_
   exact zfa () (show True from by first|trivial|omega|simp_all) ((.of rfl):SubM _ _) (ho:=((.c (i:=0) rfl .n):PickO _ _ _)) (.n:SelR _ _ _)
  ·
   have e2:((z%18446744073709551616):Int)=((z.natAbs:Nat):Int):=by omega
   rw [e2]
   refine zw ?_
   exact zfa () (show True from by first|trivial|omega|simp_all) ((.of rfl):SubM _ _) (ho:=((.c (i:=0) rfl .n):PickO _ _ _)) (.n:SelR _ _ _)
 ·
  rintro ⟨⟩ -
  try dsimp only
  refine zh<|za<|zKa rfl rfl (zCa (rI .u32) Try.underlying32 inf95) (fun b3 _=> ?_)
  refine r_pv rfl rfl (ze rfl)<|zj<|zc<|zh<|zr<|zua (X:=Nat×(Option Addr)×Nat×(List Int)) (fun x:Nat×(Option Addr)×Nat×(List Int)=>x.1≤z.natAbs∧x.2.2.2++Big.digs x.1=Big.digs z.natAbs) (fun x=>[(4,.slice (x.2.1) (x.2.2.2.length) (x.2.2.1)),(3,.int .u64 ((x.1:Nat):Int)),(2,.pointer (some ⟨b1,0,none⟩)),(0,.int .i64 z)]) (fun x=>[rowA 95 (rI .u32) (x.2.1) (x.2.2.1) (x.2.2.2),boxA b1 34 [.bool false,.slice none 0 0]]) (fun x=>[]) (fun x:Nat×(Option Addr)×Nat×(List Int)=>x.1) (z.natAbs,some ⟨b3,0,none⟩,0,[]) (show z.natAbs≤z.natAbs∧([])++Big.digs z.natAbs=Big.digs z.natAbs from by exact ⟨Nat.le_refl _,rfl⟩) ((.e rfl (by first|rfl|(congr 1;omega)|simp_all) (.of rfl)):SubM _ _) (ho:=((.of [0,0] rfl):PickO _ _ _)) (.n:SelR _ _ _) ?_
  rintro ⟨m,p,c,os⟩ hI
  replace hI:m≤z.natAbs∧os++Big.digs m=Big.digs z.natAbs:=hI
  try dsimp only
  obtain ⟨hnn,hos⟩:=hI
  have hlen0:os.length+(Big.digs m).length≤3:=by have:=congrArg List.length hos;rw [List.length_append] at this;have:=Big.zce (show z.natAbs<18446744073709551616 by omega);omega
  refine zh<|zh<|za<|r_pv rfl rfl (zb rfl)<|r_pv rfl rfl (zRa rfl rfl)<|zj<|zc<|zI rfl (fun h4=> ?_) (fun h4=> ?_)
  ·
   refine zw<|zc<|zr<|zh<|za<|r_pv rfl rfl (zb rfl)<|r_pv rfl rfl (zb rfl)<|r_pv rfl rfl (zdb (z:=(((m%1000000000):Nat):Int)) rfl rfl (by omega) (remN (by omega) (by omega)))<|r_pv rfl rfl (zDa (z:=(((m%1000000000):Nat):Int)) rfl (by rw [Try.underlying123];rfl) Try.underlying95 (wu32 (by omega)))<|zKa rfl rfl (zJ (enc:=fun z:Int=>[.int .u32 z]) (ok:=InK .u32) (h1:=fun _=>rfl) (h2:=fun _=>rfl) (k:=1) Try.underlying32 inf95 rfl (by decide) (by decide) (by decide) (.c (x:=(((m%1000000000):Nat):Int)) rfl rfl (fun _ _=>by exact zda.2 (by omega)) .n)) (fun b5 _=> ?_)
   refine zEa 0 rfl .z<|zJa 1 rfl rfl rfl (zsa 0 rfl Try.underlying32 inf95 (by decide) rfl rfl (by first|rfl|assumption|(simp_all;done)|omega) rfl (by first|rfl|assumption|(simp_all;done)|omega) (by omega) (by omega)) (fun _=>(.s .z)) ?_
   rintro ⟨p6,c7⟩ -
   dsimp only [List.append_eq,List.nil_append,List.cons_append]
   refine r_pv rfl rfl (ze rfl)<|zj<|zc<|za<|r_pv rfl rfl (zb rfl)<|r_pv rfl rfl (zJc (z:=(((m / 1000000000):Nat):Int)) rfl rfl (by omega) (by rw [quoN (z:=(((m / 1000000000):Nat):Int)) (by omega) (by omega)];exact wu64 (by omega)))<|r_pv rfl rfl (ze rfl)<|zj<|zA<|zga ((m / 1000000000),p6,c7,os++[((m%1000000000:Nat):Int)]) (show (m / 1000000000)≤z.natAbs∧(os++[((m%1000000000:Nat):Int)])++Big.digs (m / 1000000000)=Big.digs z.natAbs from by exact ⟨by omega,Big.split_step (by omega) hos⟩) (by show m / 1000000000<m;omega) ((.e rfl (by simp) (.of rfl)):SubM _ _) (ho:=((.e (i:=1) rfl (by first|rfl|(congr 1;omega)|simp_all) (.c (i:=1) rfl .n)):PickO _ _ _)) (.n:SelR _ _ _)
  ·
   have hm0:m=0:=by omega
   subst hm0
   have hd:os=Big.digs z.natAbs:=by simpa [Big.digs_zero] using hos
   have hok:Big.okL os:=by rw [hd];exact Big.digs_ok _
   have hlen:os.length≤3:=by rw [hd];exact Big.zce (by omega)
   have hsg:Big.sg (decide (z<0)) (Big.valL os)=z:=by rw [hd,Big.valL_digs];exact Big.sg_big z
   refine zaa<|zk<|zk<|zt<|zc<|zh<|za<|r_pv rfl rfl (zb rfl)<|r_pv rfl rfl (zD rfl rfl)<|r_pv rfl rfl (zb rfl)<|zEa 0 rfl .z<|zea rfl rfl (.c rfl (.c rfl .n)) ce86 (zIb (s:=decide (z<0)) (p:=p) (n:=os.length) (cap:=c) (l:=os) (hn:=by first|rfl|omega) (ho:=by exact hok) (hln:=by first|rfl|omega)) (.c (j:=0) rfl .n) ?_
   rintro ⟨p28,c29⟩ -
   dsimp only [List.append_eq,List.nil_append,List.cons_append]
   refine zx 1 rfl rfl rfl rfl rfl sz34 rfl (.take (.take .nil)) (.s .z)<|zj<|zc<|zP ?_
   exact zG Try.results45 (p28,c29) trivial (zV 1 ty34 rfl rfl (.take (.take .nil))) (by rw [hsg]) (ho:=(.n:PickO _ _ _)) ((.e (j:=0) rfl (by rw [hsg]) .n):SelR _ _ _)
theorem zpa {z:Int} (hz: -9223372036854775808≤z∧z≤9223372036854775807):Con Try.prog 45 [.int .i64 (z)] [] [] (Y:=(Wd)) (fun y=>True) (fun y=> .agg #[y.b,y.l]) (fun y=>[]) (fun y=>[zF y (z)]):=by
  exact zkc (zjf hz)
end Go.Proofs.Ytalfgjpbbongcaa.Sp
namespace Go.Proofs.Ytalfgjpbbongcaa.Sp
open Go
set_option linter.unusedVariables false
set_option maxRecDepth 100000
set_option maxHeartbeats 1000000
theorem zzd {s:Bool} {p1:Option Addr} {n1:Nat} {c1:Nat} {l1:List Int} {t:Bool} {p2:Option Addr} {n2:Nat} {c2:Nat} {l2:List Int} (hn1:l1.length=n1) (hn2:l2.length=n2) (hm1:n1≤1099511627776) (hm2:n2≤1099511627776):Con Try.prog 62 [.agg #[.bool s,.slice p1 n1 c1],.agg #[.bool t,.slice p2 n2 c2]] [] [slF (rI .u32) p1 c1 l1,slF (rI .u32) p2 c2 l2] (Y:=(Option Addr)×Nat) (fun y=>True) (fun y=> .agg #[.bool (decide ((Big.raw s l1+Big.raw t l2)<0)),.slice (y.1) ((Big.digs ((Big.raw s l1+Big.raw t l2).natAbs)).length) (y.2)]) (fun y=>[]) (fun y=>[slF (rI .u32) (y.1) (y.2) (Big.digs ((Big.raw s l1+Big.raw t l2).natAbs))]):=by
 refine zB Try.func62 rfl rfl rfl (fun c=> ?_)
 show RunC _ _ _ _ _ [(0,.agg #[.bool s,.slice p1 n1 c1]),(1,.agg #[.bool t,.slice p2 n2 c2])] [] [slF (rI .u32) p1 c1 l1,slF (rI .u32) p2 c2 l2]
 refine zoa 0 rfl (fun hL0=> ?_)
 refine zCb 0 rfl (fun hE0=> ?_)
 refine zoa 1 rfl (fun hL1=> ?_)
 refine zCb 1 rfl (fun hE1=> ?_)
 have hnn1:Big.nn l1:=fun g hg=>(zda.1 (hE0 g hg)).1
 have hnn2:Big.nn l2:=fun g hg=>(zda.1 (hE1 g hg)).1
 have hb1:Big.ln (Big.raw s l1)≤n1:=by have:=Big.zAc (s:=s) hnn1;omega
 have hb2:Big.ln (Big.raw t l2)≤n2:=by have:=Big.zAc (s:=t) hnn2;omega
 unfold Big.ln at hb1 hb2
 refine zh<|za<|zS rfl rfl (zca rfl rfl) (fun b1=> ?_)
 refine zS rfl rfl (zca rfl rfl) (fun b2=> ?_)
 refine zS rfl rfl (zn zr34 rfl) (fun b3=> ?_)
 refine zj<|zc<|zh<|zgb (.c (i:=2) rfl (.c (i:=1) rfl (.c (i:=0) rfl .n)))<|zla (OW:=[boxA b1 34 [.bool s,.slice p1 n1 c1],boxA b2 34 [.bool t,.slice p2 n2 c2]]) (O:=[boxA b3 34 [.bool false,.slice none 0 0]]) 4 mixed (.then .ret) (by kernel_rfl)<|d_uw 0 rfl rfl (by kernel_rfl) (by kernel_rfl) (by kernel_rfl) rfl rfl (zf 0 ty34 rfl rfl (.take (.take .nil)))<|d_uw 2 rfl rfl (by kernel_rfl) (by kernel_rfl) (by kernel_rfl) rfl rfl (zf 1 ty34 rfl rfl (.take (.take .nil)))<|zE 1 (by kernel_rfl) (zu rfl rfl rfl rfl (.c rfl .n) ce85 (zsb (s:=s) (p:=p1) (n:=n1) (cap:=c1) (l:=l1) (hn:=by assumption) (hln:=by assumption)) (.c (j:=0) rfl .n) ?_)
 rintro ⟨p24,c25⟩ -
 dsimp only [List.append_eq,List.nil_append,List.cons_append]
 refine zE 3 (by kernel_rfl) (zu rfl rfl rfl rfl (.c rfl .n) ce85 (zsb (s:=t) (p:=p2) (n:=n2) (cap:=c2) (l:=l2) (hn:=by assumption) (hln:=by assumption)) (.c (j:=2) rfl .n) ?_)
 rintro ⟨p26,c27⟩ -
 dsimp only [List.append_eq,List.nil_append,List.cons_append]
 refine zE 4 (by kernel_rfl) (zM (by kernel_rfl) rfl rfl rfl rfl rfl sz34 rfl (.take (.take .nil)) ?_)
 refine zcc (zia (i:=1) rfl)<|zE 5 (by kernel_rfl) (zM (by kernel_rfl) rfl rfl rfl rfl rfl sz34 rfl (.take (.take .nil)) ?_)
 refine zma (by kernel_rfl)<|zc<|zh<|zh<|za<|r_pv rfl rfl (zm Try.underlying34 rfl sz4 rfl rfl)<|r_u rfl rfl (zd 1 ty4 rfl rfl rfl)<|r_pv rfl rfl (zm Try.underlying34 rfl sz4 rfl rfl)<|r_u rfl rfl (zd 0 ty4 rfl rfl rfl)<|r_pv rfl rfl (zqc Try.underlying4 rfl rfl)<|zj<|zc<|zI rfl (fun hst=> ?_) (fun hst=> ?_)
 ·
  refine zh<|zgb (.c (i:=2) rfl (.c (i:=0) rfl (.c (i:=0) rfl .n)))<|zla (OW:=[boxA b3 34 [.bool false,.slice none 0 0]]) (O:=[boxA b2 34 [.bool (decide ((Big.raw t l2)<0)),.slice p26 ((Big.digs ((Big.raw t l2).natAbs)).length) c27],boxA b1 34 [.bool (decide ((Big.raw s l1)<0)),.slice p24 ((Big.digs ((Big.raw s l1).natAbs)).length) c25]]) 8 mixed (.then (.then .ret)) (by kernel_rfl)<|d_pv 0 rfl rfl (by kernel_rfl) (by kernel_rfl) rfl rfl (zm Try.underlying34 rfl sz4 rfl rfl)<|d_uw 1 rfl rfl (by kernel_rfl) (by kernel_rfl) (by kernel_rfl) rfl rfl (zd 2 ty4 rfl rfl rfl)<|d_pv 2 rfl rfl (by kernel_rfl) (by kernel_rfl) rfl rfl (zm Try.underlying34 rfl sz32 rfl rfl)<|d_uw 3 rfl rfl (by kernel_rfl) (by kernel_rfl) (by kernel_rfl) rfl rfl (zd 2 ty32 rfl rfl rfl)<|d_pv 4 rfl rfl (by kernel_rfl) (by kernel_rfl) rfl rfl (zm Try.underlying34 rfl sz32 rfl rfl)<|d_uw 5 rfl rfl (by kernel_rfl) (by kernel_rfl) (by kernel_rfl) rfl rfl (zd 1 ty32 rfl rfl rfl)<|zE 6 (by kernel_rfl) (zu rfl rfl rfl rfl (.c rfl (.c rfl .n)) ce94 (zoe (a:=(Big.raw s l1).natAbs) (b:=(Big.raw t l2).natAbs) (p1:=p24) (c1:=c25) (p2:=p26) (c2:=c27) (hb1:=by first|rfl|assumption|omega|(unfold Big.ln;omega)|(simp;done)|(simp;omega)|(simp_all;done)) (hb2:=by first|rfl|assumption|omega|(unfold Big.ln;omega)|(simp;done)|(simp;omega)|(simp_all;done))) (.c (j:=1) rfl (.c (j:=0) rfl .n)) ?_)
  rintro ⟨p38,c39⟩ -
  dsimp only [List.append_eq,List.nil_append,List.cons_append]
  refine zE 7 (by kernel_rfl) (zu rfl rfl rfl rfl (.c rfl (.c rfl .n)) ce86 (zLb (s:=decide ((Big.raw s l1)<0)) (a:=((Big.raw s l1).natAbs)+((Big.raw t l2).natAbs)) (p:=p38) (cap:=c39) (hln:=by have:=Big.len_add (Big.raw s l1).natAbs (Big.raw t l2).natAbs;omega)) (.c (j:=0) rfl .n) ?_)
  rintro ⟨p210,c211⟩ -
  dsimp only [List.append_eq,List.nil_append,List.cons_append]
  refine zE 8 (by kernel_rfl) (zM (by kernel_rfl) rfl rfl rfl rfl rfl sz34 rfl (.take (.take .nil)) ?_)
  refine zma (by kernel_rfl)<|zc<|zP<|zl ?_
  have hz:=Big.add_same hst
  exact zG Try.results62 (p210,c211) trivial (zV 0 ty34 rfl rfl (.take (.take .nil))) (by rw [hz]) (ho:=(.n:PickO _ _ _)) ((.e (j:=0) rfl (by rw [hz]) .n):SelR _ _ _)
 ·
  refine zw<|zc<|zh<|zh<|za<|r_pv rfl rfl (zm Try.underlying34 rfl sz32 rfl rfl)<|r_u rfl rfl (zd 1 ty32 rfl rfl rfl)<|r_pv rfl rfl (zm Try.underlying34 rfl sz32 rfl rfl)<|r_u rfl rfl (zd 0 ty32 rfl rfl rfl)<|zY rfl rfl (.c rfl (.c rfl .n)) ce95 (zpe (a:=(Big.raw s l1).natAbs) (b:=(Big.raw t l2).natAbs) (p1:=p24) (c1:=c25) (p2:=p26) (c2:=c27)) (.c (j:=1) rfl (.c (j:=0) rfl .n))<|r_pv rfl rfl (zeb rfl rfl)<|zj<|zc<|zI rfl (fun hcmp=> ?_) (fun hcmp=> ?_)
  ·
   have hab:(Big.raw t l2).natAbs≤(Big.raw s l1).natAbs:=by have:=Big.cmp_ge.1 hcmp;omega
   refine zh<|zgb (.c (i:=2) rfl (.c (i:=0) rfl (.c (i:=0) rfl .n)))<|zla (OW:=[boxA b3 34 [.bool false,.slice none 0 0]]) (O:=[boxA b2 34 [.bool (decide ((Big.raw t l2)<0)),.slice p26 ((Big.digs ((Big.raw t l2).natAbs)).length) c27],boxA b1 34 [.bool (decide ((Big.raw s l1)<0)),.slice p24 ((Big.digs ((Big.raw s l1).natAbs)).length) c25]]) 8 mixed (.then (.then .ret)) (by kernel_rfl)<|d_pv 0 rfl rfl (by kernel_rfl) (by kernel_rfl) rfl rfl (zm Try.underlying34 rfl sz4 rfl rfl)<|d_uw 1 rfl rfl (by kernel_rfl) (by kernel_rfl) (by kernel_rfl) rfl rfl (zd 2 ty4 rfl rfl rfl)<|d_pv 2 rfl rfl (by kernel_rfl) (by kernel_rfl) rfl rfl (zm Try.underlying34 rfl sz32 rfl rfl)<|d_uw 3 rfl rfl (by kernel_rfl) (by kernel_rfl) (by kernel_rfl) rfl rfl (zd 2 ty32 rfl rfl rfl)<|d_pv 4 rfl rfl (by kernel_rfl) (by kernel_rfl) rfl rfl (zm Try.underlying34 rfl sz32 rfl rfl)<|d_uw 5 rfl rfl (by kernel_rfl) (by kernel_rfl) (by kernel_rfl) rfl rfl (zd 1 ty32 rfl rfl rfl)<|zE 6 (by kernel_rfl) (zu rfl rfl rfl rfl (.c rfl (.c rfl .n)) ce96 (zNc (a:=(Big.raw s l1).natAbs) (b:=(Big.raw t l2).natAbs) (p1:=p24) (c1:=c25) (p2:=p26) (c2:=c27) (hb1:=by first|rfl|assumption|omega|(unfold Big.ln;omega)|(simp;done)|(simp;omega)|(simp_all;done)) (hb2:=by first|rfl|assumption|omega|(unfold Big.ln;omega)|(simp;done)|(simp;omega)|(simp_all;done)) (hab:=by first|rfl|assumption|omega|(unfold Big.ln;omega)|(simp;done)|(simp;omega)|(simp_all;done))) (.c (j:=1) rfl (.c (j:=0) rfl .n)) ?_)
   rintro ⟨p312,c313⟩ -
   dsimp only [List.append_eq,List.nil_append,List.cons_append]
   refine zE 7 (by kernel_rfl) (zu rfl rfl rfl rfl (.c rfl (.c rfl .n)) ce86 (zLb (s:=decide ((Big.raw s l1)<0)) (a:=((Big.raw s l1).natAbs) - ((Big.raw t l2).natAbs)) (p:=p312) (cap:=c313) (hln:=by have:=Big.len_sub (Big.raw s l1).natAbs (Big.raw t l2).natAbs;omega)) (.c (j:=0) rfl .n) ?_)
   rintro ⟨p214,c215⟩ -
   dsimp only [List.append_eq,List.nil_append,List.cons_append]
   refine zE 8 (by kernel_rfl) (zM (by kernel_rfl) rfl rfl rfl rfl rfl sz34 rfl (.take (.take .nil)) ?_)
   refine zma (by kernel_rfl)<|zc<|zP<|zl ?_
   have hz:=Big.add_ge hst hab
   exact zG Try.results62 (p214,c215) trivial (zV 0 ty34 rfl rfl (.take (.take .nil))) (by rw [hz]) (ho:=(.n:PickO _ _ _)) ((.e (j:=0) rfl (by rw [hz]) .n):SelR _ _ _)
  ·
   have hab:(Big.raw s l1).natAbs≤(Big.raw t l2).natAbs:=by have:¬((Big.raw t l2).natAbs:Int)≤(Big.raw s l1).natAbs:=fun h=>hcmp (Big.cmp_ge.2 h);omega
   refine zw<|zc<|zh<|zgb (.c (i:=2) rfl (.c (i:=0) rfl (.c (i:=0) rfl .n)))<|zla (OW:=[boxA b3 34 [.bool false,.slice none 0 0]]) (O:=[boxA b2 34 [.bool (decide ((Big.raw t l2)<0)),.slice p26 ((Big.digs ((Big.raw t l2).natAbs)).length) c27],boxA b1 34 [.bool (decide ((Big.raw s l1)<0)),.slice p24 ((Big.digs ((Big.raw s l1).natAbs)).length) c25]]) 8 mixed (.then .ret) (by kernel_rfl)<|d_pv 0 rfl rfl (by kernel_rfl) (by kernel_rfl) rfl rfl (zm Try.underlying34 rfl sz4 rfl rfl)<|d_uw 1 rfl rfl (by kernel_rfl) (by kernel_rfl) (by kernel_rfl) rfl rfl (zd 1 ty4 rfl rfl rfl)<|d_pv 2 rfl rfl (by kernel_rfl) (by kernel_rfl) rfl rfl (zm Try.underlying34 rfl sz32 rfl rfl)<|d_uw 3 rfl rfl (by kernel_rfl) (by kernel_rfl) (by kernel_rfl) rfl rfl (zd 1 ty32 rfl rfl rfl)<|d_pv 4 rfl rfl (by kernel_rfl) (by kernel_rfl) rfl rfl (zm Try.underlying34 rfl sz32 rfl rfl)<|d_uw 5 rfl rfl (by kernel_rfl) (by kernel_rfl) (by kernel_rfl) rfl rfl (zd 2 ty32 rfl rfl rfl)<|zE 6 (by kernel_rfl) (zu rfl rfl rfl rfl (.c rfl (.c rfl .n)) ce96 (zNc (a:=(Big.raw t l2).natAbs) (b:=(Big.raw s l1).natAbs) (p1:=p26) (c1:=c27) (p2:=p24) (c2:=c25) (hb1:=by first|rfl|assumption|omega|(unfold Big.ln;omega)|(simp;done)|(simp;omega)|(simp_all;done)) (hb2:=by first|rfl|assumption|omega|(unfold Big.ln;omega)|(simp;done)|(simp;omega)|(simp_all;done)) (hab:=by first|rfl|assumption|omega|(unfold Big.ln;omega)|(simp;done)|(simp;omega)|(simp_all;done))) (.c (j:=0) rfl (.c (j:=1) rfl .n)) ?_)
   rintro ⟨p316,c317⟩ -
   dsimp only [List.append_eq,List.nil_append,List.cons_append]
   refine zE 7 (by kernel_rfl) (zu rfl rfl rfl rfl (.c rfl (.c rfl .n)) ce86 (zLb (s:=decide ((Big.raw t l2)<0)) (a:=((Big.raw t l2).natAbs) - ((Big.raw s l1).natAbs)) (p:=p316) (cap:=c317) (hln:=by have:=Big.len_sub (Big.raw t l2).natAbs (Big.raw s l1).natAbs;omega)) (.c (j:=0) rfl .n) ?_)
   rintro ⟨p218,c219⟩ -
   dsimp only [List.append_eq,List.nil_append,List.cons_append]
   refine zE 8 (by kernel_rfl) (zM (by kernel_rfl) rfl rfl rfl rfl rfl sz34 rfl (.take (.take .nil)) ?_)
   refine zma (by kernel_rfl)<|zc<|zP ?_
   have hz:=Big.add_lt hst hab
   exact zG Try.results62 (p218,c219) trivial (zV 0 ty34 rfl rfl (.take (.take .nil))) (by rw [hz]) (ho:=(.n:PickO _ _ _)) ((.e (j:=0) rfl (by rw [hz]) .n):SelR _ _ _)
theorem zqe {x1:Int} {x2:Int} {p1:Option Addr} {c1:Nat} {p2:Option Addr} {c2:Nat} (hb1:Big.ln x1≤1099511627776) (hb2:Big.ln x2≤1099511627776):Con Try.prog 62 [.agg #[.bool (decide ((x1)<0)),.slice (p1) ((Big.digs ((x1).natAbs)).length) (c1)],.agg #[.bool (decide ((x2)<0)),.slice (p2) ((Big.digs ((x2).natAbs)).length) (c2)]] [] [slF (rI .u32) (p1) (c1) (Big.digs ((x1).natAbs)),slF (rI .u32) (p2) (c2) (Big.digs ((x2).natAbs))] (Y:=(Option Addr)×(Nat)) (fun y=>True) (fun y=> .agg #[.bool (decide ((x1+x2)<0)),.slice (y.1) ((Big.digs ((x1+x2).natAbs)).length) (y.2)]) (fun y=>[]) (fun y=>[slF (rI .u32) (y.1) (y.2) (Big.digs ((x1+x2).natAbs))]):=by
  have h:= @zzd (decide ((x1)<0)) p1 (Big.digs (x1).natAbs).length c1 (Big.digs (x1).natAbs) (decide ((x2)<0)) p2 (Big.digs (x2).natAbs).length c2 (Big.digs (x2).natAbs) rfl rfl hb1 hb2
  rw [Big.raw_big,Big.raw_big] at h
  exact h
theorem zWa {w1:Wd} {w2:Wd} {x1:Int} {x2:Int} (hb1:Big.ln x1≤1099511627776) (hb2:Big.ln x2≤1099511627776):Con Try.prog 62 [.agg #[w1.b,w1.l],.agg #[w2.b,w2.l]] [] [zF w1 (x1),zF w2 (x2)] (Y:=(Wd)) (fun y=>True) (fun y=> .agg #[y.b,y.l]) (fun y=>[]) (fun y=>[zF y (x1+x2)]):=by
  exact zkc (zBc (fun p1 c1 p2 c2=>zqe hb1 hb2))
theorem zPe {s:Bool} {p:Option Addr} {n:Nat} {cap:Nat} {l:List Int} (hn:l.length=n) (hln:n≤1099511627776):Con Try.prog 43 [.agg #[.bool s,.slice p n cap]] [] [slF (rI .u32) p cap l] (Y:=(Option Addr)×Nat) (fun y=>True) (fun y=> .agg #[.bool (decide ((- Big.raw s l)<0)),.slice (y.1) ((Big.digs ((- Big.raw s l).natAbs)).length) (y.2)]) (fun y=>[]) (fun y=>[slF (rI .u32) (y.1) (y.2) (Big.digs ((- Big.raw s l).natAbs))]):=by
 refine zB Try.func43 rfl rfl rfl (fun c=> ?_)
 show RunC _ _ _ _ _ [(0,.agg #[.bool s,.slice p n cap])] [] [slF (rI .u32) p cap l]
 refine zoa 0 rfl (fun hL0=> ?_)
 refine zCb 0 rfl (fun hE0=> ?_)
 have hnn:Big.nn l:=fun g hg=>(zda.1 (hE0 g hg)).1
 have hb:Big.ln (Big.raw s l)≤n:=by have:=Big.zAc (s:=s) hnn;omega
 unfold Big.ln at hb
 refine zh<|za<|zS rfl rfl (zca rfl rfl) (fun b1=> ?_)
 refine zS rfl rfl (zn zr34 rfl) (fun b2=> ?_)
 refine zj<|zc<|zh<|za<|r_u rfl rfl (zf 1 ty34 rfl rfl (.take (.take .nil)))<|zea rfl rfl (.c rfl .n) ce85 (zsb (s:=s) (p:=p) (n:=n) (cap:=cap) (l:=l) (hn:=by assumption) (hln:=by assumption)) (.c (j:=0) rfl .n) ?_
 rintro ⟨p23,c24⟩ -
 dsimp only [List.append_eq,List.nil_append,List.cons_append]
 refine zx 1 rfl rfl rfl rfl rfl sz34 rfl (.take (.take .nil)) (.s .z)<|zj<|zc<|zh<|za<|r_pv rfl rfl (zm Try.underlying34 rfl sz4 rfl rfl)<|r_u rfl rfl (zd 1 ty4 rfl rfl rfl)<|r_pv rfl rfl (zob rfl)<|r_pv rfl rfl (zm Try.underlying34 rfl sz32 rfl rfl)<|r_u rfl rfl (zd 1 ty32 rfl rfl rfl)<|zea rfl rfl (.c rfl (.c rfl .n)) ce86 (zLb (s:= !(decide ((Big.raw s l)<0))) (a:=(Big.raw s l).natAbs) (p:=p23) (cap:=c24) (hln:=by first|rfl|assumption|omega|(simp;done)|(simp;omega)|(simp_all;done))) (.c (j:=0) rfl .n) ?_
 rintro ⟨p25,c26⟩ -
 dsimp only [List.append_eq,List.nil_append,List.cons_append]
 refine zx 0 rfl rfl rfl rfl rfl sz34 rfl (.take (.take .nil)) .z<|zj<|zc<|zP ?_
 have hz:Big.sg (!decide (Big.raw s l<0)) ((Big.raw s l).natAbs:Int)= - Big.raw s l:=by rw [Big.sg_not,Big.sg_big]
 exact zG Try.results43 (p25,c26) trivial (zV 0 ty34 rfl rfl (.take (.take .nil))) (by rw [hz]) (ho:=(.n:PickO _ _ _)) ((.e (j:=0) rfl (by rw [hz]) .n):SelR _ _ _)
theorem zre {s:Bool} {p:Option Addr} {n:Nat} {cap:Nat} {l:List Int} (hn:l.length=n) (hln:n≤1099511627776):Con Try.prog 83 [.agg #[.bool s,.slice p n cap]] [] [slF (rI .u32) p cap l] (Y:=Unit) (fun y=>True) (fun y=> .int .i64 ((Big.raw s l).sign)) (fun y=>[]) (fun y=>[]):=by
 refine zB Try.func83 rfl rfl rfl (fun c=> ?_)
 show RunC _ _ _ _ _ [(0,.agg #[.bool s,.slice p n cap])] [] [slF (rI .u32) p cap l]
 refine zoa 0 rfl (fun hL0=> ?_)
 refine zCb 0 rfl (fun hE0=> ?_)
 have hnn:Big.nn l:=fun g hg=>(zda.1 (hE0 g hg)).1
 refine zh<|za<|zS rfl rfl (zca rfl rfl) (fun b1=> ?_)
 refine r_pv rfl rfl (ze rfl)<|zj<|zc<|zh<|za<|r_u rfl rfl (zf 0 ty34 rfl rfl (.take (.take .nil)))<|zea rfl rfl (.c rfl .n) ce85 (zsb (s:=s) (p:=p) (n:=n) (cap:=cap) (l:=l) (hn:=by assumption) (hln:=by assumption)) (.c (j:=0) rfl .n) ?_
 rintro ⟨p22,c23⟩ -
 dsimp only [List.append_eq,List.nil_append,List.cons_append]
 refine zx 0 rfl rfl rfl rfl rfl sz34 rfl (.take (.take .nil)) .z<|zj<|zc<|zh<|zh<|za<|r_pv rfl rfl (zm Try.underlying34 rfl sz32 rfl rfl)<|r_u rfl rfl (zd 0 ty32 rfl rfl rfl)<|r_pv rfl rfl (zX Try.underlying32 rfl)<|r_pv rfl rfl (zxa rfl rfl)<|zj<|zc<|zI rfl (fun h0=> ?_) (fun h0=> ?_)
 ·
  refine zh<|za<|r_pv rfl rfl (ze rfl)<|zj<|zc<|zP<|zl ?_
  exact zG Try.results83 () trivial (zz rfl) (by rw [show Big.raw s l=0 by have:=Big.len_digs_nil.1 (show (Big.digs (Big.raw s l).natAbs).length=0 by omega);omega];rfl) (ho:=(.n:PickO _ _ _)) (.n:SelR _ _ _)
 ·
  refine zw<|zc<|zh<|zh<|za<|r_pv rfl rfl (zm Try.underlying34 rfl sz4 rfl rfl)<|r_u rfl rfl (zd 0 ty4 rfl rfl rfl)<|zj<|zc<|zGa rfl (fun hs=> ?_) (fun hs=> ?_)
  ·
   refine zh<|za<|r_pv rfl rfl (ze rfl)<|zj<|zc<|zP<|zl ?_
   exact zG Try.results83 () trivial (zz rfl) (by rw [Int.sign_eq_neg_one_of_neg (by simpa using hs)]) (ho:=(.n:PickO _ _ _)) (.n:SelR _ _ _)
  ·
   refine zw<|zc<|zh<|za<|r_pv rfl rfl (ze rfl)<|zj<|zc<|zP ?_
   exact zG Try.results83 () trivial (zz rfl) (by rw [Int.sign_eq_one_of_pos (by have h2:¬Big.raw s l<0:=(by simpa using hs);have:(Big.raw s l).natAbs≠0:=(fun e=>h0 (by rw [e];rfl));omega)]) (ho:=(.n:PickO _ _ _)) (.n:SelR _ _ _)
theorem zId {z:Int} {p:Option Addr} {cap:Nat} (hln:Big.ln z≤1099511627776):Con Try.prog 83 [.agg #[.bool (decide ((z)<0)),.slice (p) ((Big.digs ((z).natAbs)).length) (cap)]] [] [slF (rI .u32) (p) (cap) (Big.digs ((z).natAbs))] (Y:=Unit) (fun y=>True) (fun y=> .int .i64 ((z).sign)) (fun y=>[]) (fun y=>[]):=by
  have h:= @zre (decide ((z)<0)) p (Big.digs (z).natAbs).length cap (Big.digs (z).natAbs) rfl hln
  rw [Big.raw_big] at h
  exact h
theorem zNa {w1:Wd} {x1:Int} (hln:Big.ln x1≤1099511627776):Con Try.prog 83 [.agg #[w1.b,w1.l]] [] [zF w1 (x1)] (Y:=Unit) (fun y=>True) (fun y=> .int .i64 ((x1).sign)) (fun y=>[]) (fun y=>[]):=by
  exact zXe (fun p c=>zId hln)
theorem zse {s:Bool} {p1:Option Addr} {n1:Nat} {c1:Nat} {l1:List Int} {t:Bool} {p2:Option Addr} {n2:Nat} {c2:Nat} {l2:List Int} (hn1:l1.length=n1) (hn2:l2.length=n2):Con Try.prog 18 [.agg #[.bool s,.slice p1 n1 c1],.agg #[.bool t,.slice p2 n2 c2]] [] [slF (rI .u32) p1 c1 l1,slF (rI .u32) p2 c2 l2] (Y:=Unit) (fun y=>True) (fun y=> .bool (decide (s=t∧l1=l2))) (fun y=>[]) (fun y=>[]):=by
 refine zB Try.func18 rfl rfl rfl (fun c=> ?_)
 show RunC _ _ _ _ _ [(0,.agg #[.bool s,.slice p1 n1 c1]),(1,.agg #[.bool t,.slice p2 n2 c2])] [] [slF (rI .u32) p1 c1 l1,slF (rI .u32) p2 c2 l2]
 refine zoa 0 rfl (fun hL0=> ?_)
 refine zoa 1 rfl (fun hL1=> ?_)
 refine zh<|za<|zS rfl rfl (zca rfl rfl) (fun b1=> ?_)
 refine zS rfl rfl (zca rfl rfl) (fun b2=> ?_)
 refine r_pv rfl rfl (ze rfl)<|zj<|zc<|zh<|zLa (X:=Unit) (fun x=>True) (fun x=>[(19,.bool (decide (¬(s=t∧n1=n2)))),(4,.bool false),(3,.pointer (some ⟨b2,0,none⟩)),(2,.pointer (some ⟨b1,0,none⟩))]) (fun x=>[boxA b2 34 [.bool t,.slice p2 n2 c2],boxA b1 34 [.bool s,.slice p1 n1 c1]]) (fun x=>[slF (rI .u32) p1 c1 l1,slF (rI .u32) p2 c2 l2]) ?_ ?_
 ·
  refine za<|r_pv rfl rfl (zm Try.underlying34 rfl sz4 rfl rfl)<|r_u rfl rfl (zd 1 ty4 rfl rfl rfl)<|r_pv rfl rfl (zm Try.underlying34 rfl sz4 rfl rfl)<|r_u rfl rfl (zd 0 ty4 rfl rfl rfl)<|r_pv rfl rfl (zRb Try.underlying4 rfl rfl)<|zZ rfl rfl (zb rfl) (fun h3=> ?_) (fun h3=> ?_)
  ·
   refine zi rfl rfl<|zi rfl rfl<|zi rfl rfl<|zi rfl rfl<|zi rfl rfl<|zi rfl rfl<|zi rfl rfl<|r_pv rfl rfl (zy rfl rfl)<|zj ?_
   exact zfa () (show True from by first|trivial|omega|simp_all) ((.e rfl (congrArg Value.bool (by simp_all)) (.of rfl)):SubM _ _) (ho:=((.of [0,0] rfl):PickO _ _ _)) ((.of [0,1] rfl):SelR _ _ _)
  ·
   refine r_pv rfl rfl (zm Try.underlying34 rfl sz32 rfl rfl)<|r_u rfl rfl (zd 1 ty32 rfl rfl rfl)<|r_pv rfl rfl (zX Try.underlying32 rfl)<|r_pv rfl rfl (zm Try.underlying34 rfl sz32 rfl rfl)<|r_u rfl rfl (zd 0 ty32 rfl rfl rfl)<|r_pv rfl rfl (zX Try.underlying32 rfl)<|r_pv rfl rfl (zZa rfl rfl)<|r_pv rfl rfl (zy rfl rfl)<|zj ?_
   exact zfa () (show True from by first|trivial|omega|simp_all) ((.e rfl (congrArg Value.bool (by simp_all;try omega)) (.of rfl)):SubM _ _) (ho:=((.of [0,0] rfl):PickO _ _ _)) ((.of [0,1] rfl):SelR _ _ _)
 ·
  rintro ⟨⟩ -
  try dsimp only
  refine zI rfl (fun hne=> ?_) (fun hne=> ?_)
  ·
   refine zh<|za<|r_pv rfl rfl (ze rfl)<|zj<|zc<|zP<|zl ?_
   exact zG Try.results18 () trivial (zz rfl) (congrArg Value.bool (decide_eq_false (fun h=>hne ⟨h.1,by rw [← hn1,←hn2,h.2]⟩))) (ho:=(.n:PickO _ _ _)) (.n:SelR _ _ _)
  ·
   replace hne:s=t∧n1=n2:=Decidable.not_not.1 hne
   refine zw<|zc<|zh<|zh<|za<|r_pv rfl rfl (ze rfl)<|zj<|zc<|zr<|zua (X:=Nat) (fun x:Nat=>x≤n1∧∀j,j<x→l1.getD j 0=l2.getD j 0) (fun x=>[(5,.int .i64 ((x:Nat):Int)),(3,.pointer (some ⟨b2,0,none⟩)),(2,.pointer (some ⟨b1,0,none⟩))]) (fun x=>[boxA b2 34 [.bool t,.slice p2 n2 c2],boxA b1 34 [.bool s,.slice p1 n1 c1]]) (fun x=>[slF (rI .u32) p1 c1 l1,slF (rI .u32) p2 c2 l2]) (fun x:Nat=>n1 - x) 0 (show 0≤n1∧∀j,j<0→l1.getD j 0=l2.getD j 0 from by exact ⟨by omega,fun j h=>by omega⟩) ((.e rfl (by first|rfl|(congr 1;omega)|simp_all) (.c rfl (.c rfl .n))):SubM _ _) (ho:=((.of [0,0] rfl):PickO _ _ _)) ((.of [0,1] rfl):SelR _ _ _) ?_
   rintro i hI
   replace hI:i≤n1∧∀j,j<i→l1.getD j 0=l2.getD j 0:=hI
   try dsimp only
   obtain ⟨hi,hall⟩:=hI
   refine zh<|zh<|za<|r_pv rfl rfl (zb rfl)<|r_pv rfl rfl (zm Try.underlying34 rfl sz32 rfl rfl)<|r_u rfl rfl (zd 1 ty32 rfl rfl rfl)<|r_pv rfl rfl (zX Try.underlying32 rfl)<|r_pv rfl rfl (zD rfl rfl)<|zj<|zc<|zI rfl (fun h4=> ?_) (fun h4=> ?_)
   ·
    refine zw<|zc<|zh<|zr<|zh<|zla (OW:=[]) (O:=[boxA b2 34 [.bool t,.slice p2 n2 c2],boxA b1 34 [.bool s,.slice p1 n1 c1]]) 100000 mixed (.then (.block (.then (.then (.block (.then .ret)))))) (by kernel_rfl)<|d_pv 0 rfl rfl (by kernel_rfl) (by kernel_rfl) rfl rfl (zm Try.underlying34 rfl sz32 rfl rfl)<|d_u 1 rfl rfl (by kernel_rfl) (by kernel_rfl) rfl rfl (zd 1 ty32 rfl rfl rfl)<|d_pv 2 rfl rfl (by kernel_rfl) (by kernel_rfl) rfl rfl (zb rfl)<|zta (x0:=(l1.getD i 0)) 3 rfl rfl (by kernel_rfl) (by kernel_rfl) 0 i rfl Try.underlying32 sz95 rfl rfl rfl (by first|rfl|assumption|(simp_all;done)|omega) rfl rfl (gD (d:=0) (by omega)) (fun b5 o6 hok7=> ?_)
    replace hok7:=zda.1 hok7
    refine d_u 4 rfl rfl (by kernel_rfl) (by kernel_rfl) rfl rfl (zH (j:=0) 0 ty95 rfl rfl rfl rfl)<|d_pv 5 rfl rfl (by kernel_rfl) (by kernel_rfl) rfl rfl (zm Try.underlying34 rfl sz32 rfl rfl)<|d_u 6 rfl rfl (by kernel_rfl) (by kernel_rfl) rfl rfl (zd 0 ty32 rfl rfl rfl)<|d_pv 7 rfl rfl (by kernel_rfl) (by kernel_rfl) rfl rfl (zb rfl)<|zta (x0:=(l2.getD i 0)) 8 rfl rfl (by kernel_rfl) (by kernel_rfl) 2 i rfl Try.underlying32 sz95 rfl rfl rfl (by first|rfl|assumption|(simp_all;done)|omega) rfl rfl (gD (d:=0) (by omega)) (fun b8 o9 hok10=> ?_)
    replace hok10:=zda.1 hok10
    refine d_u 9 rfl rfl (by kernel_rfl) (by kernel_rfl) rfl rfl (zH (j:=0) 0 ty95 rfl rfl rfl rfl)<|d_pv 10 rfl rfl (by kernel_rfl) (by kernel_rfl) rfl rfl (zZa rfl rfl)<|zma (by kernel_rfl)<|zc<|zI rfl (fun hd=> ?_) (fun hd=> ?_)
    ·
     refine zh<|za<|r_pv rfl rfl (ze rfl)<|zj<|zc<|zP<|zq<|zl<|zl<|zq<|zl ?_
     exact zG Try.results18 () trivial (zz rfl) (congrArg Value.bool (decide_eq_false (fun h=>hd (by rw [h.2])))) (ho:=(.n:PickO _ _ _)) (.n:SelR _ _ _)
    ·
     refine zw<|zA<|zc<|za<|r_pv rfl rfl (zb rfl)<|r_pv rfl rfl (zC (z:=(((i+1):Nat):Int)) rfl rfl (w64 (by omega)))<|r_pv rfl rfl (ze rfl)<|zj<|zga (i+1) (show (i+1)≤n1∧∀j,j<(i+1)→l1.getD j 0=l2.getD j 0 from by refine ⟨by omega,fun j hj=> ?_⟩;by_cases e:j=i;subst e;omega;exact hall j (by omega)) (by show n1 - (i+1)<n1 - i;omega) ((.of rfl):SubM _ _) (ho:=((.of [0,0] rfl):PickO _ _ _)) ((.of [2,3] rfl):SelR _ _ _)
   ·
    refine zaa<|zk<|zk<|zt<|zc<|zh<|za<|r_pv rfl rfl (ze rfl)<|zj<|zc<|zP ?_
    exact zG Try.results18 () trivial (zz rfl) (congrArg Value.bool (decide_eq_true ⟨hne.1,Big.ext_getD (by omega) (fun j hj=>hall j (by omega))⟩)) (ho:=(.n:PickO _ _ _)) (.n:SelR _ _ _)
theorem zJd {x1:Int} {x2:Int} {p1:Option Addr} {c1:Nat} {p2:Option Addr} {c2:Nat}:Con Try.prog 18 [.agg #[.bool (decide ((x1)<0)),.slice (p1) ((Big.digs ((x1).natAbs)).length) (c1)],.agg #[.bool (decide ((x2)<0)),.slice (p2) ((Big.digs ((x2).natAbs)).length) (c2)]] [] [slF (rI .u32) (p1) (c1) (Big.digs ((x1).natAbs)),slF (rI .u32) (p2) (c2) (Big.digs ((x2).natAbs))] (Y:=Unit) (fun y=>True) (fun y=> .bool (decide (x1=x2))) (fun y=>[]) (fun y=>[]):=by
  have h:= @zse (decide ((x1)<0)) p1 (Big.digs (x1).natAbs).length c1 (Big.digs (x1).natAbs) (decide ((x2)<0)) p2 (Big.digs (x2).natAbs).length c2 (Big.digs (x2).natAbs) rfl rfl
  rw [show decide (decide ((x1)<0)=decide ((x2)<0)∧Big.digs (x1).natAbs=Big.digs (x2).natAbs)=decide (x1=x2) from decide_eq_decide.2 Big.same_iff] at h
  exact h
theorem zKd {w1:Wd} {w2:Wd} {x1:Int} {x2:Int}:Con Try.prog 18 [.agg #[w1.b,w1.l],.agg #[w2.b,w2.l]] [] [zF w1 (x1),zF w2 (x2)] (Y:=Unit) (fun y=>True) (fun y=> .bool (decide (x1=x2))) (fun y=>[]) (fun y=>[]):=by
  exact zBc (fun p1 c1 p2 c2=>zJd)
theorem zQe {s:Bool} {p1:Option Addr} {n1:Nat} {c1:Nat} {l1:List Int} {t:Bool} {p2:Option Addr} {n2:Nat} {c2:Nat} {l2:List Int} (hn1:l1.length=n1) (hn2:l2.length=n2) (hm1:n1≤1099511627776) (hm2:n2≤1099511627776):Con Try.prog 98 [.agg #[.bool s,.slice p1 n1 c1],.agg #[.bool t,.slice p2 n2 c2]] [] [slF (rI .u32) p1 c1 l1,slF (rI .u32) p2 c2 l2] (Y:=(Option Addr)×Nat) (fun y=>True) (fun y=> .agg #[.bool (decide ((Big.raw s l1 - Big.raw t l2)<0)),.slice (y.1) ((Big.digs ((Big.raw s l1 - Big.raw t l2).natAbs)).length) (y.2)]) (fun y=>[]) (fun y=>[slF (rI .u32) (y.1) (y.2) (Big.digs ((Big.raw s l1 - Big.raw t l2).natAbs))]):=by
 refine zB Try.func98 rfl rfl rfl (fun c=> ?_)
 show RunC _ _ _ _ _ [(0,.agg #[.bool s,.slice p1 n1 c1]),(1,.agg #[.bool t,.slice p2 n2 c2])] [] [slF (rI .u32) p1 c1 l1,slF (rI .u32) p2 c2 l2]
 refine zoa 0 rfl (fun hL0=> ?_)
 refine zCb 0 rfl (fun hE0=> ?_)
 refine zoa 1 rfl (fun hL1=> ?_)
 refine zCb 1 rfl (fun hE1=> ?_)
 have hnn1:Big.nn l1:=fun g hg=>(zda.1 (hE0 g hg)).1
 have hnn2:Big.nn l2:=fun g hg=>(zda.1 (hE1 g hg)).1
 have hb1:Big.ln (Big.raw s l1)≤n1:=by have:=Big.zAc (s:=s) hnn1;omega
 have hb2:Big.ln (Big.raw t l2)≤n2:=by have:=Big.zAc (s:=t) hnn2;omega
 unfold Big.ln at hb1 hb2
 refine zh<|za<|zS rfl rfl (zca rfl rfl) (fun b1=> ?_)
 refine zS rfl rfl (zca rfl rfl) (fun b2=> ?_)
 refine zS rfl rfl (zn zr34 rfl) (fun b3=> ?_)
 refine zj<|zc<|zh<|zla (OW:=[boxA b3 34 [.bool false,.slice none 0 0]]) (O:=[boxA b2 34 [.bool t,.slice p2 n2 c2],boxA b1 34 [.bool s,.slice p1 n1 c1]]) 4 mixed (.then .ret) (by kernel_rfl)<|d_uw 0 rfl rfl (by kernel_rfl) (by kernel_rfl) (by kernel_rfl) rfl rfl (zf 2 ty34 rfl rfl (.take (.take .nil)))<|d_uw 1 rfl rfl (by kernel_rfl) (by kernel_rfl) (by kernel_rfl) rfl rfl (zf 1 ty34 rfl rfl (.take (.take .nil)))<|zE 2 (by kernel_rfl) (zu rfl rfl rfl rfl (.c rfl .n) ce43 (zPe (s:=t) (p:=p2) (n:=n2) (cap:=c2) (l:=l2) (hn:=by assumption) (hln:=by assumption)) (.c (j:=1) rfl .n) ?_)
 rintro ⟨p24,c25⟩ -
 dsimp only [List.append_eq,List.nil_append,List.cons_append]
 refine zE 3 (by kernel_rfl) (zu rfl rfl rfl rfl (.c rfl (.c rfl .n)) ce62 (zzd (s:=s) (p1:=p1) (n1:=n1) (c1:=c1) (l1:=l1) (t:=decide ((- Big.raw t l2)<0)) (p2:=p24) (n2:=(Big.digs ((- Big.raw t l2).natAbs)).length) (c2:=c25) (l2:=Big.digs ((- Big.raw t l2).natAbs)) (hn1:=by assumption) (hn2:=by first|rfl|assumption|omega|(rw [Int.natAbs_neg];omega)) (hm1:=by assumption) (hm2:=by first|rfl|assumption|omega|(rw [Int.natAbs_neg];omega))) (.c (j:=1) rfl (.c (j:=0) rfl .n)) ?_)
 rintro ⟨p36,c37⟩ -
 dsimp only [List.append_eq,List.nil_append,List.cons_append]
 refine zE 4 (by kernel_rfl) (zM (by kernel_rfl) rfl rfl rfl rfl rfl sz34 rfl (.take (.take .nil)) ?_)
 refine zma (by kernel_rfl)<|zc<|zP ?_
 have hz:Big.raw s l1+Big.raw (decide ((- Big.raw t l2)<0)) (Big.digs (- Big.raw t l2).natAbs)=Big.raw s l1 - Big.raw t l2:=by rw [Big.raw_big];omega
 exact zG Try.results98 (p36,c37) trivial (zV 0 ty34 rfl rfl (.take (.take .nil))) (by rw [hz]) (ho:=(.n:PickO _ _ _)) ((.e (j:=0) rfl (by rw [hz]) .n):SelR _ _ _)
theorem zte {x1:Int} {x2:Int} {p1:Option Addr} {c1:Nat} {p2:Option Addr} {c2:Nat} (hb1:Big.ln x1≤1099511627776) (hb2:Big.ln x2≤1099511627776):Con Try.prog 98 [.agg #[.bool (decide ((x1)<0)),.slice (p1) ((Big.digs ((x1).natAbs)).length) (c1)],.agg #[.bool (decide ((x2)<0)),.slice (p2) ((Big.digs ((x2).natAbs)).length) (c2)]] [] [slF (rI .u32) (p1) (c1) (Big.digs ((x1).natAbs)),slF (rI .u32) (p2) (c2) (Big.digs ((x2).natAbs))] (Y:=(Option Addr)×(Nat)) (fun y=>True) (fun y=> .agg #[.bool (decide ((x1 - x2)<0)),.slice (y.1) ((Big.digs ((x1 - x2).natAbs)).length) (y.2)]) (fun y=>[]) (fun y=>[slF (rI .u32) (y.1) (y.2) (Big.digs ((x1 - x2).natAbs))]):=by
  have h:= @zQe (decide ((x1)<0)) p1 (Big.digs (x1).natAbs).length c1 (Big.digs (x1).natAbs) (decide ((x2)<0)) p2 (Big.digs (x2).natAbs).length c2 (Big.digs (x2).natAbs) rfl rfl hb1 hb2
  rw [Big.raw_big,Big.raw_big] at h
  exact h
theorem zEc {w1:Wd} {w2:Wd} {x1:Int} {x2:Int} (hb1:Big.ln x1≤1099511627776) (hb2:Big.ln x2≤1099511627776):Con Try.prog 98 [.agg #[w1.b,w1.l],.agg #[w2.b,w2.l]] [] [zF w1 (x1),zF w2 (x2)] (Y:=(Wd)) (fun y=>True) (fun y=> .agg #[y.b,y.l]) (fun y=>[]) (fun y=>[zF y (x1 - x2)]):=by
  exact zkc (zBc (fun p1 c1 p2 c2=>zte hb1 hb2))
theorem zRe {s:Bool} {p1:Option Addr} {n1:Nat} {c1:Nat} {l1:List Int} {t:Bool} {p2:Option Addr} {n2:Nat} {c2:Nat} {l2:List Int} (hn1:l1.length=n1) (hn2:l2.length=n2) (hm1:n1≤1099511627776) (hm2:n2≤1099511627776):Con Try.prog 97 [.agg #[.bool s,.slice p1 n1 c1],.agg #[.bool t,.slice p2 n2 c2]] [] [slF (rI .u32) p1 c1 l1,slF (rI .u32) p2 c2 l2] (Y:=(Option Addr)×Nat) (fun y=>True) (fun y=> .agg #[.bool (decide ((Big.raw s l1*Big.raw t l2)<0)),.slice (y.1) ((Big.digs ((Big.raw s l1*Big.raw t l2).natAbs)).length) (y.2)]) (fun y=>[]) (fun y=>[slF (rI .u32) (y.1) (y.2) (Big.digs ((Big.raw s l1*Big.raw t l2).natAbs))]):=by
 refine zB Try.func97 rfl rfl rfl (fun c=> ?_)
 show RunC _ _ _ _ _ [(0,.agg #[.bool s,.slice p1 n1 c1]),(1,.agg #[.bool t,.slice p2 n2 c2])] [] [slF (rI .u32) p1 c1 l1,slF (rI .u32) p2 c2 l2]
 refine zoa 0 rfl (fun hL0=> ?_)
 refine zCb 0 rfl (fun hE0=> ?_)
 refine zoa 1 rfl (fun hL1=> ?_)
 refine zCb 1 rfl (fun hE1=> ?_)
 have hnn1:Big.nn l1:=fun g hg=>(zda.1 (hE0 g hg)).1
 have hnn2:Big.nn l2:=fun g hg=>(zda.1 (hE1 g hg)).1
 have hb1:Big.ln (Big.raw s l1)≤n1:=by have:=Big.zAc (s:=s) hnn1;omega
 have hb2:Big.ln (Big.raw t l2)≤n2:=by have:=Big.zAc (s:=t) hnn2;omega
 unfold Big.ln at hb1 hb2
 have hoa:=Big.digs_ok (Big.raw s l1).natAbs
 have hob:=Big.digs_ok (Big.raw t l2).natAbs
 refine zh<|za<|zS rfl rfl (zca rfl rfl) (fun b1=> ?_)
 refine zS rfl rfl (zca rfl rfl) (fun b2=> ?_)
 refine zS rfl rfl (zn zr34 rfl) (fun b3=> ?_)
 refine zj<|zc<|zh<|zgb (.c (i:=2) rfl (.c (i:=1) rfl (.c (i:=0) rfl .n)))<|zla (OW:=[boxA b1 34 [.bool s,.slice p1 n1 c1],boxA b2 34 [.bool t,.slice p2 n2 c2]]) (O:=[boxA b3 34 [.bool false,.slice none 0 0]]) 4 mixed (.then .ret) (by kernel_rfl)<|d_uw 0 rfl rfl (by kernel_rfl) (by kernel_rfl) (by kernel_rfl) rfl rfl (zf 0 ty34 rfl rfl (.take (.take .nil)))<|d_uw 2 rfl rfl (by kernel_rfl) (by kernel_rfl) (by kernel_rfl) rfl rfl (zf 1 ty34 rfl rfl (.take (.take .nil)))<|zE 1 (by kernel_rfl) (zu rfl rfl rfl rfl (.c rfl .n) ce85 (zsb (s:=s) (p:=p1) (n:=n1) (cap:=c1) (l:=l1) (hn:=by assumption) (hln:=by assumption)) (.c (j:=0) rfl .n) ?_)
 rintro ⟨p24,c25⟩ -
 dsimp only [List.append_eq,List.nil_append,List.cons_append]
 refine zE 3 (by kernel_rfl) (zu rfl rfl rfl rfl (.c rfl .n) ce85 (zsb (s:=t) (p:=p2) (n:=n2) (cap:=c2) (l:=l2) (hn:=by assumption) (hln:=by assumption)) (.c (j:=2) rfl .n) ?_)
 rintro ⟨p26,c27⟩ -
 dsimp only [List.append_eq,List.nil_append,List.cons_append]
 refine zE 4 (by kernel_rfl) (zM (by kernel_rfl) rfl rfl rfl rfl rfl sz34 rfl (.take (.take .nil)) ?_)
 refine zcc (zia (i:=1) rfl)<|zE 5 (by kernel_rfl) (zM (by kernel_rfl) rfl rfl rfl rfl rfl sz34 rfl (.take (.take .nil)) ?_)
 refine zma (by kernel_rfl)<|zc<|zh<|za<|r_pv rfl rfl (zm Try.underlying34 rfl sz32 rfl rfl)<|r_u rfl rfl (zd 1 ty32 rfl rfl rfl)<|r_pv rfl rfl (zX Try.underlying32 rfl)<|r_pv rfl rfl (zm Try.underlying34 rfl sz32 rfl rfl)<|r_u rfl rfl (zd 0 ty32 rfl rfl rfl)<|r_pv rfl rfl (zX Try.underlying32 rfl)<|r_pv rfl rfl (zC (z:=(((((Big.digs ((Big.raw s l1).natAbs)).length)+((Big.digs ((Big.raw t l2).natAbs)).length)):Nat):Int)) rfl rfl (w64 (by omega)))<|zKa rfl rfl (zsc (r:=rI .u32) (k:=(((Big.digs ((Big.raw s l1).natAbs)).length)+((Big.digs ((Big.raw t l2).natAbs)).length))) (x0:=0) (γ0:=()) Try.underlying32 inf95 rfl rfl rfl rfl (by omega) (by omega) rfl (fun _ _=>by exact zda.2 (by decide)) (by decide)) (fun b8 _=> ?_)
 refine r_pv rfl rfl (ze rfl)<|zj<|zc<|zh<|zh<|za<|r_pv rfl rfl (ze rfl)<|zj<|zc<|zr<|zua (X:=Nat×(List Int)) (fun x:Nat×(List Int)=>x.1≤(Big.digs (Big.raw s l1).natAbs).length∧x.2.length=(Big.digs (Big.raw s l1).natAbs).length+(Big.digs (Big.raw t l2).natAbs).length∧Big.okL x.2∧(∀k,x.1+(Big.digs (Big.raw t l2).natAbs).length≤k→x.2.getD k 0=0)∧Big.valL x.2=Big.valL ((Big.digs (Big.raw s l1).natAbs).take x.1)*Big.valL (Big.digs (Big.raw t l2).natAbs)) (fun x=>[(6,.int .i64 ((x.1:Nat):Int)),(5,.slice (some ⟨b8,0,none⟩) (((Big.digs ((Big.raw s l1).natAbs)).length)+((Big.digs ((Big.raw t l2).natAbs)).length)) (((Big.digs ((Big.raw s l1).natAbs)).length)+((Big.digs ((Big.raw t l2).natAbs)).length))),(4,.pointer (some ⟨b3,0,none⟩)),(3,.pointer (some ⟨b2,0,none⟩)),(2,.pointer (some ⟨b1,0,none⟩))]) (fun x=>[rowA 95 (rI .u32) (some ⟨b8,0,none⟩) (((Big.digs ((Big.raw s l1).natAbs)).length)+((Big.digs ((Big.raw t l2).natAbs)).length)) (x.2),boxA b2 34 [.bool (decide ((Big.raw t l2)<0)),.slice p26 ((Big.digs ((Big.raw t l2).natAbs)).length) c27],boxA b1 34 [.bool (decide ((Big.raw s l1)<0)),.slice p24 ((Big.digs ((Big.raw s l1).natAbs)).length) c25],boxA b3 34 [.bool false,.slice none 0 0]]) (fun x=>[slF (rI .u32) p26 c27 (Big.digs ((Big.raw t l2).natAbs)),slF (rI .u32) p24 c25 (Big.digs ((Big.raw s l1).natAbs)),slF (rI .u32) p1 c1 l1,slF (rI .u32) p2 c2 l2]) (fun x:Nat×(List Int)=>(Big.digs (Big.raw s l1).natAbs).length - x.1) (0,List.replicate ((Big.digs (Big.raw s l1).natAbs).length+(Big.digs (Big.raw t l2).natAbs).length) 0) (show 0≤(Big.digs (Big.raw s l1).natAbs).length∧(List.replicate ((Big.digs (Big.raw s l1).natAbs).length+(Big.digs (Big.raw t l2).natAbs).length) 0).length=(Big.digs (Big.raw s l1).natAbs).length+(Big.digs (Big.raw t l2).natAbs).length∧Big.okL (List.replicate ((Big.digs (Big.raw s l1).natAbs).length+(Big.digs (Big.raw t l2).natAbs).length) 0)∧(∀k,0+(Big.digs (Big.raw t l2).natAbs).length≤k→(List.replicate ((Big.digs (Big.raw s l1).natAbs).length+(Big.digs (Big.raw t l2).natAbs).length) 0).getD k 0=0)∧Big.valL (List.replicate ((Big.digs (Big.raw s l1).natAbs).length+(Big.digs (Big.raw t l2).natAbs).length) 0)=Big.valL ((Big.digs (Big.raw s l1).natAbs).take 0)*Big.valL (Big.digs (Big.raw t l2).natAbs) from by exact ⟨by omega,by simp,Big.okL_zeros _,fun k _=>Big.getD_zeros _ k,by simp [Big.valL_zeros,Big.valL]⟩) ((.e rfl (by first|rfl|(congr 1;omega)|simp_all) (.of rfl)):SubM _ _) (ho:=((.e (i:=0) rfl (by first|rfl|(congr 1;omega)|simp_all) (.of [0,0,0] rfl)):PickO _ _ _)) ((.of [0,1,2,3] rfl):SelR _ _ _) ?_
 rintro ⟨i,os⟩ hI
 replace hI:i≤(Big.digs (Big.raw s l1).natAbs).length∧os.length=(Big.digs (Big.raw s l1).natAbs).length+(Big.digs (Big.raw t l2).natAbs).length∧Big.okL os∧(∀k,i+(Big.digs (Big.raw t l2).natAbs).length≤k→os.getD k 0=0)∧Big.valL os=Big.valL ((Big.digs (Big.raw s l1).natAbs).take i)*Big.valL (Big.digs (Big.raw t l2).natAbs):=hI
 try dsimp only
 obtain ⟨hi,hol,hok,hz,hv⟩:=hI
 have hg1:=Big.okL_getD hoa i
 refine zh<|zh<|za<|r_pv rfl rfl (zb rfl)<|r_pv rfl rfl (zm Try.underlying34 rfl sz32 rfl rfl)<|r_u rfl rfl (zd 2 ty32 rfl rfl rfl)<|r_pv rfl rfl (zX Try.underlying32 rfl)<|r_pv rfl rfl (zD rfl rfl)<|zj<|zc<|zI rfl (fun h9=> ?_) (fun h9=> ?_)
 ·
  refine zw<|zc<|zh<|zr<|zh<|za<|r_pv rfl rfl (ze rfl)<|zj<|zc<|zh<|zh<|za<|r_pv rfl rfl (ze rfl)<|zj<|zc<|zr<|zua (X:=Nat×(List Int)×Int) (fun x:Nat×(List Int)×Int=>x.1≤(Big.digs (Big.raw t l2).natAbs).length∧x.2.1.length=(Big.digs (Big.raw s l1).natAbs).length+(Big.digs (Big.raw t l2).natAbs).length∧Big.okL x.2.1∧0≤x.2.2∧x.2.2<1000000000∧(∀k,i+(Big.digs (Big.raw t l2).natAbs).length≤k→x.2.1.getD k 0=0)∧Big.valL x.2.1+Big.pw (i+x.1)*x.2.2=Big.valL ((Big.digs (Big.raw s l1).natAbs).take i)*Big.valL (Big.digs (Big.raw t l2).natAbs)+Big.pw i*(Big.digs (Big.raw s l1).natAbs).getD i 0*Big.valL ((Big.digs (Big.raw t l2).natAbs).take x.1)) (fun x=>[(7,.int .u64 (x.2.2)),(8,.int .i64 ((x.1:Nat):Int)),(6,.int .i64 ((i:Nat):Int)),(5,.slice (some ⟨b8,0,none⟩) (((Big.digs ((Big.raw s l1).natAbs)).length)+((Big.digs ((Big.raw t l2).natAbs)).length)) (((Big.digs ((Big.raw s l1).natAbs)).length)+((Big.digs ((Big.raw t l2).natAbs)).length))),(4,.pointer (some ⟨b3,0,none⟩)),(3,.pointer (some ⟨b2,0,none⟩)),(2,.pointer (some ⟨b1,0,none⟩))]) (fun x=>[rowA 95 (rI .u32) (some ⟨b8,0,none⟩) (((Big.digs ((Big.raw s l1).natAbs)).length)+((Big.digs ((Big.raw t l2).natAbs)).length)) (x.2.1),boxA b2 34 [.bool (decide ((Big.raw t l2)<0)),.slice p26 ((Big.digs ((Big.raw t l2).natAbs)).length) c27],boxA b1 34 [.bool (decide ((Big.raw s l1)<0)),.slice p24 ((Big.digs ((Big.raw s l1).natAbs)).length) c25],boxA b3 34 [.bool false,.slice none 0 0]]) (fun x=>[slF (rI .u32) p26 c27 (Big.digs ((Big.raw t l2).natAbs)),slF (rI .u32) p24 c25 (Big.digs ((Big.raw s l1).natAbs)),slF (rI .u32) p1 c1 l1,slF (rI .u32) p2 c2 l2]) (fun x:Nat×(List Int)×Int=>(Big.digs (Big.raw t l2).natAbs).length - x.1) (0,os,0) (show 0≤(Big.digs (Big.raw t l2).natAbs).length∧os.length=(Big.digs (Big.raw s l1).natAbs).length+(Big.digs (Big.raw t l2).natAbs).length∧Big.okL os∧0≤0∧0<1000000000∧(∀k,i+(Big.digs (Big.raw t l2).natAbs).length≤k→os.getD k 0=0)∧Big.valL os+Big.pw (i+0)*0=Big.valL ((Big.digs (Big.raw s l1).natAbs).take i)*Big.valL (Big.digs (Big.raw t l2).natAbs)+Big.pw i*(Big.digs (Big.raw s l1).natAbs).getD i 0*Big.valL ((Big.digs (Big.raw t l2).natAbs).take 0) from by exact ⟨by omega,hol,hok,by decide,by decide,hz,by rw [hv];simp [Big.valL]⟩) ((.c rfl (.e rfl (by first|rfl|(congr 1;omega)|simp_all) (.of rfl))):SubM _ _) (ho:=((.of [0,0,0,0] rfl):PickO _ _ _)) ((.of [0,1,2,3] rfl):SelR _ _ _) ?_
  rintro ⟨j,os2,cy⟩ hJ
  replace hJ:j≤(Big.digs (Big.raw t l2).natAbs).length∧os2.length=(Big.digs (Big.raw s l1).natAbs).length+(Big.digs (Big.raw t l2).natAbs).length∧Big.okL os2∧0≤cy∧cy<1000000000∧(∀k,i+(Big.digs (Big.raw t l2).natAbs).length≤k→os2.getD k 0=0)∧Big.valL os2+Big.pw (i+j)*cy=Big.valL ((Big.digs (Big.raw s l1).natAbs).take i)*Big.valL (Big.digs (Big.raw t l2).natAbs)+Big.pw i*(Big.digs (Big.raw s l1).natAbs).getD i 0*Big.valL ((Big.digs (Big.raw t l2).natAbs).take j):=hJ
  try dsimp only
  obtain ⟨hj,hol2,hok2,hcy0,hcy1,hz2,hv2⟩:=hJ
  have hg2:=Big.okL_getD hob j
  have hg3:=Big.okL_getD hok2 (i+j)
  have hpq:=Big.mul_lim hg1 hg2
  refine zh<|zh<|za<|r_pv rfl rfl (zb rfl)<|r_pv rfl rfl (zm Try.underlying34 rfl sz32 rfl rfl)<|r_u rfl rfl (zd 1 ty32 rfl rfl rfl)<|r_pv rfl rfl (zX Try.underlying32 rfl)<|r_pv rfl rfl (zD rfl rfl)<|zj<|zc<|zI rfl (fun h10=> ?_) (fun h10=> ?_)
  ·
   refine zw<|zc<|zh<|zr<|zh<|zla (OW:=[]) (O:=[rowA 95 (rI .u32) (some ⟨b8,0,none⟩) (((Big.digs ((Big.raw s l1).natAbs)).length)+((Big.digs ((Big.raw t l2).natAbs)).length)) os2,boxA b2 34 [.bool (decide ((Big.raw t l2)<0)),.slice p26 ((Big.digs ((Big.raw t l2).natAbs)).length) c27],boxA b1 34 [.bool (decide ((Big.raw s l1)<0)),.slice p24 ((Big.digs ((Big.raw s l1).natAbs)).length) c25],boxA b3 34 [.bool false,.slice none 0 0]]) 100000 mixed (.then (.block (.then (.then (.block (.then (.block (.then (.then (.block (.then .ret))))))))))) (by kernel_rfl)<|d_pv 0 rfl rfl (by kernel_rfl) (by kernel_rfl) rfl rfl (zb rfl)<|d_pv 1 rfl rfl (by kernel_rfl) (by kernel_rfl) rfl rfl (zb rfl)<|d_pv 2 rfl rfl (by kernel_rfl) (by kernel_rfl) rfl rfl (zb rfl)<|d_pv 3 rfl rfl (by kernel_rfl) (by kernel_rfl) rfl rfl (zC (z:=(((i+j):Nat):Int)) rfl rfl (w64 (by omega)))<|d_pv 4 rfl rfl (by kernel_rfl) (by kernel_rfl) rfl rfl (zBa (j:=(i+j)) Try.underlying32 sz95 rfl rfl rfl (by omega))<|d_vl 5 rfl rfl (by kernel_rfl) (by kernel_rfl) rfl rfl (zYa 0 (i+j) rfl ty95 rfl rfl (gD (d:=0) (by omega)) rfl) (fun _ hok11=> ?_)
   replace hok11:=zda.1 hok11
   refine d_pv 6 rfl rfl (by kernel_rfl) (by kernel_rfl) rfl rfl (zDa (z:=(os2.getD (i+j) 0)) rfl (by rw [Try.underlying95];rfl) Try.underlying123 (wu64 (by omega)))<|d_pv 7 rfl rfl (by kernel_rfl) (by kernel_rfl) rfl rfl (zm Try.underlying34 rfl sz32 rfl rfl)<|d_u 8 rfl rfl (by kernel_rfl) (by kernel_rfl) rfl rfl (zd 2 ty32 rfl rfl rfl)<|d_pv 9 rfl rfl (by kernel_rfl) (by kernel_rfl) rfl rfl (zb rfl)<|zta (x0:=((Big.digs ((Big.raw s l1).natAbs)).getD i 0)) 10 rfl rfl (by kernel_rfl) (by kernel_rfl) 1 i rfl Try.underlying32 sz95 rfl rfl rfl (by first|rfl|assumption|(simp;omega)|omega) rfl rfl (gD (d:=0) (by omega)) (fun b12 o13 hok14=> ?_)
   replace hok14:=zda.1 hok14
   refine d_u 11 rfl rfl (by kernel_rfl) (by kernel_rfl) rfl rfl (zH (j:=0) 0 ty95 rfl rfl rfl rfl)<|d_pv 12 rfl rfl (by kernel_rfl) (by kernel_rfl) rfl rfl (zDa (z:=((Big.digs ((Big.raw s l1).natAbs)).getD i 0)) rfl (by rw [Try.underlying95];rfl) Try.underlying123 (wu64 (by omega)))<|d_pv 13 rfl rfl (by kernel_rfl) (by kernel_rfl) rfl rfl (zm Try.underlying34 rfl sz32 rfl rfl)<|d_u 14 rfl rfl (by kernel_rfl) (by kernel_rfl) rfl rfl (zd 1 ty32 rfl rfl rfl)<|d_pv 15 rfl rfl (by kernel_rfl) (by kernel_rfl) rfl rfl (zb rfl)<|zta (x0:=((Big.digs ((Big.raw t l2).natAbs)).getD j 0)) 16 rfl rfl (by kernel_rfl) (by kernel_rfl) 1 j rfl Try.underlying32 sz95 rfl rfl rfl (by first|rfl|assumption|(simp;omega)|omega) rfl rfl (gD (d:=0) (by omega)) (fun b15 o16 hok17=> ?_)
   replace hok17:=zda.1 hok17
   refine d_u 17 rfl rfl (by kernel_rfl) (by kernel_rfl) rfl rfl (zH (j:=0) 0 ty95 rfl rfl rfl rfl)<|d_pv 18 rfl rfl (by kernel_rfl) (by kernel_rfl) rfl rfl (zDa (z:=((Big.digs ((Big.raw t l2).natAbs)).getD j 0)) rfl (by rw [Try.underlying95];rfl) Try.underlying123 (wu64 (by omega)))<|d_pv 19 rfl rfl (by kernel_rfl) (by kernel_rfl) rfl rfl (znb (z:=(((Big.digs ((Big.raw s l1).natAbs)).getD i 0)*((Big.digs ((Big.raw t l2).natAbs)).getD j 0))) rfl rfl (wu64 (by omega)))<|d_pv 20 rfl rfl (by kernel_rfl) (by kernel_rfl) rfl rfl (zC (z:=((os2.getD (i+j) 0)+(((Big.digs ((Big.raw s l1).natAbs)).getD i 0)*((Big.digs ((Big.raw t l2).natAbs)).getD j 0)))) rfl rfl (wu64 (by omega)))<|d_pv 21 rfl rfl (by kernel_rfl) (by kernel_rfl) rfl rfl (zb rfl)<|d_pv 22 rfl rfl (by kernel_rfl) (by kernel_rfl) rfl rfl (zC (z:=(((os2.getD (i+j) 0)+(((Big.digs ((Big.raw s l1).natAbs)).getD i 0)*((Big.digs ((Big.raw t l2).natAbs)).getD j 0)))+cy)) rfl rfl (wu64 (by omega)))<|d_pv 23 rfl rfl (by kernel_rfl) (by kernel_rfl) rfl rfl (ze rfl)<|zma (by kernel_rfl)<|zc<|zh<|za<|r_pv rfl rfl (zb rfl)<|r_pv rfl rfl (zb rfl)<|r_pv rfl rfl (zb rfl)<|r_pv rfl rfl (zC (z:=(((i+j):Nat):Int)) rfl rfl (w64 (by omega)))<|r_pv rfl rfl (zb rfl)<|r_pv rfl rfl (zdb (z:=((((os2.getD (i+j) 0)+(((Big.digs ((Big.raw s l1).natAbs)).getD i 0)*((Big.digs ((Big.raw t l2).natAbs)).getD j 0)))+cy)%1000000000)) rfl rfl (by omega) (remN (by omega) (by omega)))<|r_pv rfl rfl (zDa (z:=((((os2.getD (i+j) 0)+(((Big.digs ((Big.raw s l1).natAbs)).getD i 0)*((Big.digs ((Big.raw t l2).natAbs)).getD j 0)))+cy)%1000000000)) rfl (by rw [Try.underlying123];rfl) Try.underlying95 (wu32 (by omega)))<|r_pv rfl rfl (zBa (j:=(i+j)) Try.underlying32 sz95 rfl rfl rfl (by omega))<|zJa 0 rfl rfl rfl (zIa (j:=(i+j)) (x0:=((((os2.getD (i+j) 0)+(((Big.digs ((Big.raw s l1).natAbs)).getD i 0)*((Big.digs ((Big.raw t l2).natAbs)).getD j 0)))+cy)%1000000000)) (γ0:=()) rfl rfl (by first|omega|(rw [List.length_map];omega)|(simp only [List.length_set];omega)|(simp;omega)) rfl rfl sz95 (fun _ _=>by exact zda.2 (by omega))) (fun _=> .z) (fun _ _=> ?_)
   refine zj<|zc<|za<|r_pv rfl rfl (zb rfl)<|r_pv rfl rfl (zJc (z:=((((os2.getD (i+j) 0)+(((Big.digs ((Big.raw s l1).natAbs)).getD i 0)*((Big.digs ((Big.raw t l2).natAbs)).getD j 0)))+cy) / 1000000000)) rfl rfl (by omega) (by rw [quoN (z:=((((os2.getD (i+j) 0)+(((Big.digs ((Big.raw s l1).natAbs)).getD i 0)*((Big.digs ((Big.raw t l2).natAbs)).getD j 0)))+cy) / 1000000000)) (by omega) (by omega)];exact wu64 (by omega)))<|r_pv rfl rfl (ze rfl)<|zj<|zA<|zc<|za<|r_pv rfl rfl (zb rfl)<|r_pv rfl rfl (zC (z:=(((j+1):Nat):Int)) rfl rfl (w64 (by omega)))<|r_pv rfl rfl (ze rfl)<|zj<|zga ((j+1),os2.set (i+j) ((os2.getD (i+j) 0+(Big.digs (Big.raw s l1).natAbs).getD i 0*(Big.digs (Big.raw t l2).natAbs).getD j 0+cy)%1000000000),(os2.getD (i+j) 0+(Big.digs (Big.raw s l1).natAbs).getD i 0*(Big.digs (Big.raw t l2).natAbs).getD j 0+cy) / 1000000000) (show (j+1)≤(Big.digs (Big.raw t l2).natAbs).length∧(os2.set (i+j) ((os2.getD (i+j) 0+(Big.digs (Big.raw s l1).natAbs).getD i 0*(Big.digs (Big.raw t l2).natAbs).getD j 0+cy)%1000000000)).length=(Big.digs (Big.raw s l1).natAbs).length+(Big.digs (Big.raw t l2).natAbs).length∧Big.okL (os2.set (i+j) ((os2.getD (i+j) 0+(Big.digs (Big.raw s l1).natAbs).getD i 0*(Big.digs (Big.raw t l2).natAbs).getD j 0+cy)%1000000000))∧0≤((os2.getD (i+j) 0+(Big.digs (Big.raw s l1).natAbs).getD i 0*(Big.digs (Big.raw t l2).natAbs).getD j 0+cy) / 1000000000)∧((os2.getD (i+j) 0+(Big.digs (Big.raw s l1).natAbs).getD i 0*(Big.digs (Big.raw t l2).natAbs).getD j 0+cy) / 1000000000)<1000000000∧(∀k,i+(Big.digs (Big.raw t l2).natAbs).length≤k→(os2.set (i+j) ((os2.getD (i+j) 0+(Big.digs (Big.raw s l1).natAbs).getD i 0*(Big.digs (Big.raw t l2).natAbs).getD j 0+cy)%1000000000)).getD k 0=0)∧Big.valL (os2.set (i+j) ((os2.getD (i+j) 0+(Big.digs (Big.raw s l1).natAbs).getD i 0*(Big.digs (Big.raw t l2).natAbs).getD j 0+cy)%1000000000))+Big.pw (i+(j+1))*((os2.getD (i+j) 0+(Big.digs (Big.raw s l1).natAbs).getD i 0*(Big.digs (Big.raw t l2).natAbs).getD j 0+cy) / 1000000000)=Big.valL ((Big.digs (Big.raw s l1).natAbs).take i)*Big.valL (Big.digs (Big.raw t l2).natAbs)+Big.pw i*(Big.digs (Big.raw s l1).natAbs).getD i 0*Big.valL ((Big.digs (Big.raw t l2).natAbs).take (j+1)) from by exact ⟨by omega,by simpa using hol2,Big.okL_set hok2 (by omega) (by omega),by omega,by omega,fun k hk=>by rw [Big.getD_set_ne (by omega)];exact hz2 k (by omega),Big.mul_step hv2 (by omega) (by omega)⟩) (by show (Big.digs (Big.raw t l2).natAbs).length - (j+1)<(Big.digs (Big.raw t l2).natAbs).length - j;omega) ((.e rfl (by first|rfl|(congr 1;omega)|simp_all) (.of rfl)):SubM _ _) (ho:=((.e (i:=0) rfl (by first|rfl|(congr 1;omega)|simp_all) (.of [0,0,0] rfl)):PickO _ _ _)) ((.of [2,3,4,5] rfl):SelR _ _ _)
  ·
   have hjb:j=(Big.digs (Big.raw t l2).natAbs).length:=by omega
   subst hjb
   have hv3:=hv2
   refine zaa<|zk<|zk<|zt<|zc<|za<|r_pv rfl rfl (zb rfl)<|r_pv rfl rfl (zb rfl)<|r_pv rfl rfl (zm Try.underlying34 rfl sz32 rfl rfl)<|r_u rfl rfl (zd 1 ty32 rfl rfl rfl)<|r_pv rfl rfl (zX Try.underlying32 rfl)<|r_pv rfl rfl (zC (z:=(((i+((Big.digs ((Big.raw t l2).natAbs)).length)):Nat):Int)) rfl rfl (w64 (by omega)))<|r_pv rfl rfl (zb rfl)<|r_pv rfl rfl (zDa (z:=cy) rfl (by rw [Try.underlying123];rfl) Try.underlying95 (wu32 (by omega)))<|r_pv rfl rfl (zBa (j:=(i+((Big.digs ((Big.raw t l2).natAbs)).length))) Try.underlying32 sz95 rfl rfl rfl (by omega))<|zJa 0 rfl rfl rfl (zIa (j:=(i+((Big.digs ((Big.raw t l2).natAbs)).length))) (x0:=cy) (γ0:=()) rfl rfl (by first|omega|(rw [List.length_map];omega)|(simp only [List.length_set];omega)|(simp;omega)) rfl rfl sz95 (fun _ _=>by exact zda.2 (by omega))) (fun _=> .z) (fun _ _=> ?_)
   refine zj<|zA<|zc<|za<|r_pv rfl rfl (zb rfl)<|r_pv rfl rfl (zC (z:=(((i+1):Nat):Int)) rfl rfl (w64 (by omega)))<|r_pv rfl rfl (ze rfl)<|zj<|zga ((i+1),os2.set (i+(Big.digs (Big.raw t l2).natAbs).length) cy) (show (i+1)≤(Big.digs (Big.raw s l1).natAbs).length∧(os2.set (i+(Big.digs (Big.raw t l2).natAbs).length) cy).length=(Big.digs (Big.raw s l1).natAbs).length+(Big.digs (Big.raw t l2).natAbs).length∧Big.okL (os2.set (i+(Big.digs (Big.raw t l2).natAbs).length) cy)∧(∀k,(i+1)+(Big.digs (Big.raw t l2).natAbs).length≤k→(os2.set (i+(Big.digs (Big.raw t l2).natAbs).length) cy).getD k 0=0)∧Big.valL (os2.set (i+(Big.digs (Big.raw t l2).natAbs).length) cy)=Big.valL ((Big.digs (Big.raw s l1).natAbs).take (i+1))*Big.valL (Big.digs (Big.raw t l2).natAbs) from by exact ⟨by omega,by simpa using hol2,Big.okL_set hok2 (by omega) (by omega),fun k hk=>by rw [Big.getD_set_ne (by omega)];exact hz2 k (by omega),Big.mul_round hv3 (by omega) (hz2 _ (Nat.le_refl _))⟩) (by show (Big.digs (Big.raw s l1).natAbs).length - (i+1)<(Big.digs (Big.raw s l1).natAbs).length - i;omega) ((.of rfl):SubM _ _) (ho:=((.e (i:=0) rfl (by first|rfl|(congr 1;omega)|simp_all) (.of [0,0,0] rfl)):PickO _ _ _)) ((.of [0,1,2,3] rfl):SelR _ _ _)
 ·
  have hia:i=(Big.digs (Big.raw s l1).natAbs).length:=by omega
  have hfin:Big.sg (decide (decide (Big.raw s l1<0)≠decide (Big.raw t l2<0))) (Big.valL os)=Big.raw s l1*Big.raw t l2:=by rw [hv,hia,List.take_length,Big.valL_digs,Big.valL_digs,←Int.natCast_mul,Big.sg_mul,Big.sg_big,Big.sg_big]
  refine zaa<|zk<|zk<|zt<|zc<|zh<|za<|r_pv rfl rfl (zm Try.underlying34 rfl sz4 rfl rfl)<|r_u rfl rfl (zd 2 ty4 rfl rfl rfl)<|r_pv rfl rfl (zm Try.underlying34 rfl sz4 rfl rfl)<|r_u rfl rfl (zd 1 ty4 rfl rfl rfl)<|r_pv rfl rfl (zRb Try.underlying4 rfl rfl)<|r_pv rfl rfl (zb rfl)<|zEa 0 rfl .z<|zea rfl rfl (.c rfl (.c rfl .n)) ce86 (zIb (s:=decide (decide ((Big.raw s l1)<0)≠decide ((Big.raw t l2)<0))) (p:=some ⟨b8,0,none⟩) (n:=(((Big.digs ((Big.raw s l1).natAbs)).length)+((Big.digs ((Big.raw t l2).natAbs)).length))) (cap:=(((Big.digs ((Big.raw s l1).natAbs)).length)+((Big.digs ((Big.raw t l2).natAbs)).length))) (l:=os) (hn:=by first|rfl|assumption|omega|(unfold Big.ln;omega)|(simp;done)|(simp;omega)|(simp_all;done)) (ho:=by exact hok) (hln:=by first|rfl|assumption|omega|(unfold Big.ln;omega)|(simp;done)|(simp;omega)|(simp_all;done))) (.c (j:=0) rfl .n) ?_
  rintro ⟨p218,c219⟩ -
  dsimp only [List.append_eq,List.nil_append,List.cons_append]
  refine zx 3 rfl rfl rfl rfl rfl sz34 rfl (.take (.take .nil)) (.s (.s (.s .z)))<|zj<|zc<|zP ?_
  exact zG Try.results97 (p218,c219) trivial (zV 3 ty34 rfl rfl (.take (.take .nil))) (by rw [hfin]) (ho:=(.n:PickO _ _ _)) ((.e (j:=0) rfl (by rw [hfin]) .n):SelR _ _ _)
theorem zue {x1:Int} {x2:Int} {p1:Option Addr} {c1:Nat} {p2:Option Addr} {c2:Nat} (hb1:Big.ln x1≤1099511627776) (hb2:Big.ln x2≤1099511627776):Con Try.prog 97 [.agg #[.bool (decide ((x1)<0)),.slice (p1) ((Big.digs ((x1).natAbs)).length) (c1)],.agg #[.bool (decide ((x2)<0)),.slice (p2) ((Big.digs ((x2).natAbs)).length) (c2)]] [] [slF (rI .u32) (p1) (c1) (Big.digs ((x1).natAbs)),slF (rI .u32) (p2) (c2) (Big.digs ((x2).natAbs))] (Y:=(Option Addr)×(Nat)) (fun y=>True) (fun y=> .agg #[.bool (decide ((x1*x2)<0)),.slice (y.1) ((Big.digs ((x1*x2).natAbs)).length) (y.2)]) (fun y=>[]) (fun y=>[slF (rI .u32) (y.1) (y.2) (Big.digs ((x1*x2).natAbs))]):=by
  have h:= @zRe (decide ((x1)<0)) p1 (Big.digs (x1).natAbs).length c1 (Big.digs (x1).natAbs) (decide ((x2)<0)) p2 (Big.digs (x2).natAbs).length c2 (Big.digs (x2).natAbs) rfl rfl hb1 hb2
  rw [Big.raw_big,Big.raw_big] at h
  exact h
theorem zXa {w1:Wd} {w2:Wd} {x1:Int} {x2:Int} (hb1:Big.ln x1≤1099511627776) (hb2:Big.ln x2≤1099511627776):Con Try.prog 97 [.agg #[w1.b,w1.l],.agg #[w2.b,w2.l]] [] [zF w1 (x1),zF w2 (x2)] (Y:=(Wd)) (fun y=>True) (fun y=> .agg #[y.b,y.l]) (fun y=>[]) (fun y=>[zF y (x1*x2)]):=by
  exact zkc (zBc (fun p1 c1 p2 c2=>zue hb1 hb2))
end Go.Proofs.Ytalfgjpbbongcaa.Sp
namespace Go.Proofs.Ytalfgjpbbongcaa.Sp
open Go
set_option linter.unusedVariables false
set_option maxRecDepth 100000
set_option maxHeartbeats 1000000
theorem zwa {ex:Int} {ey:Int} {ez:Int} {fx:Int} {fy:Int} {fz:Int} (hbex: -4611686018427387903≤ex∧ex≤4611686018427387903) (hbey: -4611686018427387903≤ey∧ey≤4611686018427387903) (hbez: -4611686018427387903≤ez∧ez≤4611686018427387903) (hbfx: -4611686018427387903≤fx∧fx≤4611686018427387903) (hbfy: -4611686018427387903≤fy∧fy≤4611686018427387903) (hbfz: -4611686018427387903≤fz∧fz≤4611686018427387903):Con Try.prog 58 [.agg #[.int .i64 ex,.int .i64 ey,.int .i64 ez],.agg #[.int .i64 fx,.int .i64 fy,.int .i64 fz]] [] [] (Y:=Wd×Wd×Wd) (fun y=>True) (fun y=> .agg #[y.1.b,y.1.l,y.2.1.b,y.2.1.l,y.2.2.b,y.2.2.l]) (fun y=>[]) (fun y=>[zF y.1 (fx - ex),zF y.2.1 (fy - ey),zF y.2.2 (fz - ez)]):=by
 refine zB Try.func58 rfl rfl rfl (fun c=> ?_)
 show RunC _ _ _ _ _ [(0,.agg #[.int .i64 ex,.int .i64 ey,.int .i64 ez]),(1,.agg #[.int .i64 fx,.int .i64 fy,.int .i64 fz])] [] []
 refine zh<|za<|zS rfl rfl (zca rfl rfl) (fun b1=> ?_)
 refine zS rfl rfl (zca rfl rfl) (fun b2=> ?_)
 refine zS rfl rfl (zn zr89 rfl) (fun b3=> ?_)
 refine zj<|zc<|zh<|zla (OW:=[boxA b3 89 [.bool false,.slice none 0 0,.bool false,.slice none 0 0,.bool false,.slice none 0 0]]) (O:=[boxA b2 42 [.int .i64 fx,.int .i64 fy,.int .i64 fz],boxA b1 42 [.int .i64 ex,.int .i64 ey,.int .i64 ez]]) 19 mixed (.then .ret) (by kernel_rfl)<|d_pv 0 rfl rfl (by kernel_rfl) (by kernel_rfl) rfl rfl (zm Try.underlying42 rfl sz3 rfl rfl)<|d_uw 1 rfl rfl (by kernel_rfl) (by kernel_rfl) (by kernel_rfl) rfl rfl (zd 1 ty3 rfl rfl rfl)<|d_pv 2 rfl rfl (by kernel_rfl) (by kernel_rfl) rfl rfl (zm Try.underlying42 rfl sz3 rfl rfl)<|d_uw 3 rfl rfl (by kernel_rfl) (by kernel_rfl) (by kernel_rfl) rfl rfl (zd 2 ty3 rfl rfl rfl)<|d_pv 4 rfl rfl (by kernel_rfl) (by kernel_rfl) rfl rfl (zOa (z:=(fx - ex)) rfl rfl (w64 (by omega)))<|d_pv 6 rfl rfl (by kernel_rfl) (by kernel_rfl) rfl rfl (zm Try.underlying42 rfl sz3 rfl rfl)<|d_uw 7 rfl rfl (by kernel_rfl) (by kernel_rfl) (by kernel_rfl) rfl rfl (zd 1 ty3 rfl rfl rfl)<|d_pv 8 rfl rfl (by kernel_rfl) (by kernel_rfl) rfl rfl (zm Try.underlying42 rfl sz3 rfl rfl)<|d_uw 9 rfl rfl (by kernel_rfl) (by kernel_rfl) (by kernel_rfl) rfl rfl (zd 2 ty3 rfl rfl rfl)<|d_pv 10 rfl rfl (by kernel_rfl) (by kernel_rfl) rfl rfl (zOa (z:=(fy - ey)) rfl rfl (w64 (by omega)))<|d_pv 12 rfl rfl (by kernel_rfl) (by kernel_rfl) rfl rfl (zm Try.underlying42 rfl sz3 rfl rfl)<|d_uw 13 rfl rfl (by kernel_rfl) (by kernel_rfl) (by kernel_rfl) rfl rfl (zd 1 ty3 rfl rfl rfl)<|d_pv 14 rfl rfl (by kernel_rfl) (by kernel_rfl) rfl rfl (zm Try.underlying42 rfl sz3 rfl rfl)<|d_uw 15 rfl rfl (by kernel_rfl) (by kernel_rfl) (by kernel_rfl) rfl rfl (zd 2 ty3 rfl rfl rfl)<|d_pv 16 rfl rfl (by kernel_rfl) (by kernel_rfl) rfl rfl (zOa (z:=(fz - ez)) rfl rfl (w64 (by omega)))<|zE 5 (by kernel_rfl) (zu rfl rfl rfl rfl (.c rfl .n) ce57 (zHb (z:=(fx - ex)) (hz:=by first|rfl|assumption|omega|(simp;done)|(simp;omega)|(simp_all;done))) (.n) ?_)
 rintro w34 -
 dsimp only [List.append_eq,List.nil_append,List.cons_append]
 refine zE 11 (by kernel_rfl) (zu rfl rfl rfl rfl (.c rfl .n) ce57 (zHb (z:=(fy - ey)) (hz:=by first|rfl|assumption|omega|(simp;done)|(simp;omega)|(simp_all;done))) (.n) ?_)
 rintro w35 -
 dsimp only [List.append_eq,List.nil_append,List.cons_append]
 refine zE 17 (by kernel_rfl) (zu rfl rfl rfl rfl (.c rfl .n) ce57 (zHb (z:=(fz - ez)) (hz:=by first|rfl|assumption|omega|(simp;done)|(simp;omega)|(simp_all;done))) (.n) ?_)
 rintro w36 -
 dsimp only [List.append_eq,List.nil_append,List.cons_append]
 refine d_pv 18 rfl rfl (by kernel_rfl) (by kernel_rfl) rfl rfl (zK zr89 rfl Try.underlying89 sz34 (.c rfl (.c rfl (.c rfl .n))) (.c rfl rfl rfl (.take (.take .nil)) (.c rfl rfl rfl (.skip (.skip (.take (.take .nil)))) (.c rfl rfl rfl (.skip (.skip (.skip (.skip (.take (.take .nil)))))) .n))))<|zE 19 (by kernel_rfl) (zM (by kernel_rfl) rfl rfl rfl rfl rfl sz89 rfl (.take (.take (.take (.take (.take (.take .nil)))))) ?_)
 refine zma (by kernel_rfl)<|zc<|zP ?_
 exact zG Try.results58 (w34,w35,w36) trivial (zV 0 ty89 rfl rfl (.take (.take (.take (.take (.take (.take .nil))))))) rfl (ho:=(.n:PickO _ _ _)) ((.of [2,1,0] rfl):SelR _ _ _)
theorem zjb {ex:Int} {ey:Int} {ez:Int} {wa0:Wd} {wa1:Wd} {wa2:Wd} {fx:Int} {fy:Int} {fz:Int} {wb0:Wd} {wb1:Wd} {wb2:Wd} (hlex:Big.ln ex≤1000) (hley:Big.ln ey≤1000) (hlez:Big.ln ez≤1000) (hlfx:Big.ln fx≤1000) (hlfy:Big.ln fy≤1000) (hlfz:Big.ln fz≤1000):Con Try.prog 60 [.agg #[wa0.b,wa0.l,wa1.b,wa1.l,wa2.b,wa2.l],.agg #[wb0.b,wb0.l,wb1.b,wb1.l,wb2.b,wb2.l]] [] [zF wa0 ex,zF wa1 ey,zF wa2 ez,zF wb0 fx,zF wb1 fy,zF wb2 fz] (Y:=Wd) (fun y=>True) (fun y=> .agg #[y.b,y.l]) (fun y=>[]) (fun y=>[zF y (Ms.dot (ex,ey,ez) (fx,fy,fz))]):=by
 refine zB Try.func60 rfl rfl rfl (fun c=> ?_)
 show RunC _ _ _ _ _ [(0,.agg #[wa0.b,wa0.l,wa1.b,wa1.l,wa2.b,wa2.l]),(1,.agg #[wb0.b,wb0.l,wb1.b,wb1.l,wb2.b,wb2.l])] [] [zF wa0 ex,zF wa1 ey,zF wa2 ez,zF wb0 fx,zF wb1 fy,zF wb2 fz]
 have hnexfx:=Big.zbb ex fx
 have hneyfy:=Big.zbb ey fy
 have hnezfz:=Big.zbb ez fz
 have ha0:=Big.zyc
 have ha1:=Big.zab 0 (ex*fx)
 have ha2:=Big.zab (0+ex*fx) (ey*fy)
 have ha3:=Big.zab ((0+ex*fx)+ey*fy) (ez*fz)
 refine zh<|za<|zS rfl rfl (zca rfl rfl) (fun b1=> ?_)
 refine zS rfl rfl (zca rfl rfl) (fun b2=> ?_)
 refine zS rfl rfl (zn zr34 rfl) (fun b3=> ?_)
 refine zj<|zc<|zh<|za<|zea rfl rfl (.c rfl .n) ce57 (zHb (z:=(0:Int)) (hz:=by first|omega|rfl)) (.n) ?_
 rintro w34 -
 dsimp only [List.append_eq,List.nil_append,List.cons_append]
 refine zS rfl rfl (zn zr34 rfl) (fun b5=> ?_)
 refine zx 0 rfl rfl rfl rfl rfl sz34 rfl (.take (.take .nil)) .z<|zj<|zc<|zh<|zh<|za<|r_pv rfl rfl (zb rfl)<|zj<|zc<|zr<|zSa<|zQ<|zh<|za<|r_pv rfl rfl (zD rfl rfl)<|zj<|zc<|zh<|zT rfl rfl<|zw<|zc<|zh<|zr<|zh<|za<|r_pv rfl rfl (zb rfl)<|r_pv rfl rfl (ze rfl)<|zj<|zc<|zla (OW:=[boxA b5 34 [w34.b,w34.l]]) (O:=[boxA b3 34 [.bool false,.slice none 0 0],boxA b2 89 [wb0.b,wb0.l,wb1.b,wb1.l,wb2.b,wb2.l],boxA b1 89 [wa0.b,wa0.l,wa1.b,wa1.l,wa2.b,wa2.l]]) 9 mixed (.block (.then (.then (.block (.then .ret))))) (by kernel_rfl)<|d_uw 0 rfl rfl (by kernel_rfl) (by kernel_rfl) (by kernel_rfl) rfl rfl (zf 0 ty34 rfl rfl (.take (.take .nil)))<|d_pv 1 rfl rfl (by kernel_rfl) (by kernel_rfl) rfl rfl (zb rfl)<|d_pv 2 rfl rfl (by kernel_rfl) (by kernel_rfl) rfl rfl (zg (i:=0) Try.underlying89 sz34 rfl rfl (by decide) rfl)<|d_uw 3 rfl rfl (by kernel_rfl) (by kernel_rfl) (by kernel_rfl) rfl rfl (zf 3 ty34 rfl rfl (.take (.take .nil)))<|d_pv 4 rfl rfl (by kernel_rfl) (by kernel_rfl) rfl rfl (zb rfl)<|d_pv 5 rfl rfl (by kernel_rfl) (by kernel_rfl) rfl rfl (zg (i:=0) Try.underlying89 sz34 rfl rfl (by decide) rfl)<|d_uw 6 rfl rfl (by kernel_rfl) (by kernel_rfl) (by kernel_rfl) rfl rfl (zf 2 ty34 rfl rfl (.take (.take .nil)))<|zE 7 (by kernel_rfl) (zu rfl rfl rfl rfl (.c rfl (.c rfl .n)) ce92 (zpb (w1:=wa0) (w2:=wb0) (x1:=ex) (x2:=fx) (hb1:=by first|omega|rfl) (hb2:=by first|omega|rfl)) (.c (j:=1) rfl (.c (j:=4) rfl .n)) ?_)
 rintro w36 -
 dsimp only [List.append_eq,List.nil_append,List.cons_append]
 refine zE 8 (by kernel_rfl) (zu rfl rfl rfl rfl (.c rfl (.c rfl .n)) ce59 (zlb (w1:=w34) (w2:=w36) (x1:=(0:Int)) (x2:=ex*fx) (hb1:=by first|omega|rfl) (hb2:=by first|omega|rfl)) (.c (j:=1) rfl (.c (j:=0) rfl .n)) ?_)
 rintro w37 -
 dsimp only [List.append_eq,List.nil_append,List.cons_append]
 refine zE 9 (by kernel_rfl) (zM (by kernel_rfl) rfl rfl rfl rfl rfl sz34 rfl (.take (.take .nil)) ?_)
 refine zma (by kernel_rfl)<|zA<|zc<|za<|r_pv rfl rfl (zC (z:=1) rfl rfl (w64 (by decide)))<|r_pv rfl rfl (zb rfl)<|zj<|zba<|zQ<|zh<|za<|r_pv rfl rfl (zD rfl rfl)<|zj<|zc<|zh<|zT rfl rfl<|zw<|zc<|zh<|zr<|zh<|za<|r_pv rfl rfl (zb rfl)<|r_pv rfl rfl (ze rfl)<|zj<|zc<|zla (OW:=[boxA b5 34 [w37.b,w37.l]]) (O:=[boxA b3 34 [.bool false,.slice none 0 0],boxA b2 89 [wb0.b,wb0.l,wb1.b,wb1.l,wb2.b,wb2.l],boxA b1 89 [wa0.b,wa0.l,wa1.b,wa1.l,wa2.b,wa2.l]]) 9 mixed (.block (.then (.then (.block (.then .ret))))) (by kernel_rfl)<|d_uw 0 rfl rfl (by kernel_rfl) (by kernel_rfl) (by kernel_rfl) rfl rfl (zf 0 ty34 rfl rfl (.take (.take .nil)))<|d_pv 1 rfl rfl (by kernel_rfl) (by kernel_rfl) rfl rfl (zb rfl)<|d_pv 2 rfl rfl (by kernel_rfl) (by kernel_rfl) rfl rfl (zg (i:=1) Try.underlying89 sz34 rfl rfl (by decide) rfl)<|d_uw 3 rfl rfl (by kernel_rfl) (by kernel_rfl) (by kernel_rfl) rfl rfl (zf 3 ty34 rfl rfl (.skip (.skip (.take (.take .nil)))))<|d_pv 4 rfl rfl (by kernel_rfl) (by kernel_rfl) rfl rfl (zb rfl)<|d_pv 5 rfl rfl (by kernel_rfl) (by kernel_rfl) rfl rfl (zg (i:=1) Try.underlying89 sz34 rfl rfl (by decide) rfl)<|d_uw 6 rfl rfl (by kernel_rfl) (by kernel_rfl) (by kernel_rfl) rfl rfl (zf 2 ty34 rfl rfl (.skip (.skip (.take (.take .nil)))))<|zE 7 (by kernel_rfl) (zu rfl rfl rfl rfl (.c rfl (.c rfl .n)) ce92 (zpb (w1:=wa1) (w2:=wb1) (x1:=ey) (x2:=fy) (hb1:=by first|omega|rfl) (hb2:=by first|omega|rfl)) (.c (j:=4) rfl (.c (j:=7) rfl .n)) ?_)
 rintro w38 -
 dsimp only [List.append_eq,List.nil_append,List.cons_append]
 refine zE 8 (by kernel_rfl) (zu rfl rfl rfl rfl (.c rfl (.c rfl .n)) ce59 (zlb (w1:=w37) (w2:=w38) (x1:=(0:Int)+(ex*fx)) (x2:=ey*fy) (hb1:=by first|omega|rfl) (hb2:=by first|omega|rfl)) (.c (j:=1) rfl (.c (j:=0) rfl .n)) ?_)
 rintro w39 -
 dsimp only [List.append_eq,List.nil_append,List.cons_append]
 refine zE 9 (by kernel_rfl) (zM (by kernel_rfl) rfl rfl rfl rfl rfl sz34 rfl (.take (.take .nil)) ?_)
 refine zma (by kernel_rfl)<|zA<|zc<|za<|r_pv rfl rfl (zC (z:=2) rfl rfl (w64 (by decide)))<|r_pv rfl rfl (zb rfl)<|zj<|zba<|zQ<|zh<|za<|r_pv rfl rfl (zD rfl rfl)<|zj<|zc<|zh<|zT rfl rfl<|zw<|zc<|zh<|zr<|zh<|za<|r_pv rfl rfl (zb rfl)<|r_pv rfl rfl (ze rfl)<|zj<|zc<|zla (OW:=[boxA b5 34 [w39.b,w39.l]]) (O:=[boxA b3 34 [.bool false,.slice none 0 0],boxA b2 89 [wb0.b,wb0.l,wb1.b,wb1.l,wb2.b,wb2.l],boxA b1 89 [wa0.b,wa0.l,wa1.b,wa1.l,wa2.b,wa2.l]]) 9 mixed (.block (.then (.then (.block (.then .ret))))) (by kernel_rfl)<|d_uw 0 rfl rfl (by kernel_rfl) (by kernel_rfl) (by kernel_rfl) rfl rfl (zf 0 ty34 rfl rfl (.take (.take .nil)))<|d_pv 1 rfl rfl (by kernel_rfl) (by kernel_rfl) rfl rfl (zb rfl)<|d_pv 2 rfl rfl (by kernel_rfl) (by kernel_rfl) rfl rfl (zg (i:=2) Try.underlying89 sz34 rfl rfl (by decide) rfl)<|d_uw 3 rfl rfl (by kernel_rfl) (by kernel_rfl) (by kernel_rfl) rfl rfl (zf 3 ty34 rfl rfl (.skip (.skip (.skip (.skip (.take (.take .nil)))))))<|d_pv 4 rfl rfl (by kernel_rfl) (by kernel_rfl) rfl rfl (zb rfl)<|d_pv 5 rfl rfl (by kernel_rfl) (by kernel_rfl) rfl rfl (zg (i:=2) Try.underlying89 sz34 rfl rfl (by decide) rfl)<|d_uw 6 rfl rfl (by kernel_rfl) (by kernel_rfl) (by kernel_rfl) rfl rfl (zf 2 ty34 rfl rfl (.skip (.skip (.skip (.skip (.take (.take .nil)))))))<|zE 7 (by kernel_rfl) (zu rfl rfl rfl rfl (.c rfl (.c rfl .n)) ce92 (zpb (w1:=wa2) (w2:=wb2) (x1:=ez) (x2:=fz) (hb1:=by first|omega|rfl) (hb2:=by first|omega|rfl)) (.c (j:=7) rfl (.c (j:=10) rfl .n)) ?_)
 rintro w310 -
 dsimp only [List.append_eq,List.nil_append,List.cons_append]
 refine zE 8 (by kernel_rfl) (zu rfl rfl rfl rfl (.c rfl (.c rfl .n)) ce59 (zlb (w1:=w39) (w2:=w310) (x1:=((0:Int)+(ex*fx))+(ey*fy)) (x2:=ez*fz) (hb1:=by first|omega|rfl) (hb2:=by first|omega|rfl)) (.c (j:=1) rfl (.c (j:=0) rfl .n)) ?_)
 rintro w311 -
 dsimp only [List.append_eq,List.nil_append,List.cons_append]
 refine zE 9 (by kernel_rfl) (zM (by kernel_rfl) rfl rfl rfl rfl rfl sz34 rfl (.take (.take .nil)) ?_)
 refine zma (by kernel_rfl)<|zA<|zc<|za<|r_pv rfl rfl (zC (z:=3) rfl rfl (w64 (by decide)))<|r_pv rfl rfl (zb rfl)<|zj<|zba<|zQ<|zh<|za<|r_pv rfl rfl (zD rfl rfl)<|zj<|zc<|zh<|zva rfl rfl<|zaa<|zk<|zk<|zt<|zc<|zh<|za<|r_u rfl rfl (zf 0 ty34 rfl rfl (.take (.take .nil)))<|zx 1 rfl rfl rfl rfl rfl sz34 rfl (.take (.take .nil)) (.s .z)<|zj<|zc<|zP ?_
 have hz9:((((0:Int)+ex*fx)+ey*fy)+ez*fz)=Ms.dot (ex,ey,ez) (fx,fy,fz):=by simp [Ms.dot,Ms.det,Ms.cross]
 exact zG Try.results60 w311 trivial (zV 1 ty34 rfl rfl (.take (.take .nil))) rfl (ho:=(.n:PickO _ _ _)) ((.e (j:=0) rfl (by rw [hz9]) .n):SelR _ _ _)
theorem zka {ex:Int} {ey:Int} {ez:Int} {wa0:Wd} {wa1:Wd} {wa2:Wd} {fx:Int} {fy:Int} {fz:Int} {wb0:Wd} {wb1:Wd} {wb2:Wd} (hlex:Big.ln ex≤1000) (hley:Big.ln ey≤1000) (hlez:Big.ln ez≤1000) (hlfx:Big.ln fx≤1000) (hlfy:Big.ln fy≤1000) (hlfz:Big.ln fz≤1000):Con Try.prog 61 [.agg #[wa0.b,wa0.l,wa1.b,wa1.l,wa2.b,wa2.l],.agg #[wb0.b,wb0.l,wb1.b,wb1.l,wb2.b,wb2.l]] [] [zF wa0 ex,zF wa1 ey,zF wa2 ez,zF wb0 fx,zF wb1 fy,zF wb2 fz] (Y:=Wd×Wd×Wd) (fun y=>True) (fun y=> .agg #[y.1.b,y.1.l,y.2.1.b,y.2.1.l,y.2.2.b,y.2.2.l]) (fun y=>[]) (fun y=>[zF y.1 (ey*fz - ez*fy),zF y.2.1 (ez*fx - ex*fz),zF y.2.2 (ex*fy - ey*fx)]):=by
 refine zB Try.func61 rfl rfl rfl (fun c=> ?_)
 show RunC _ _ _ _ _ [(0,.agg #[wa0.b,wa0.l,wa1.b,wa1.l,wa2.b,wa2.l]),(1,.agg #[wb0.b,wb0.l,wb1.b,wb1.l,wb2.b,wb2.l])] [] [zF wa0 ex,zF wa1 ey,zF wa2 ez,zF wb0 fx,zF wb1 fy,zF wb2 fz]
 have hnexfy:=Big.zbb ex fy
 have hnexfz:=Big.zbb ex fz
 have hneyfx:=Big.zbb ey fx
 have hneyfz:=Big.zbb ey fz
 have hnezfx:=Big.zbb ez fx
 have hnezfy:=Big.zbb ez fy
 refine zh<|za<|zS rfl rfl (zca rfl rfl) (fun b1=> ?_)
 refine zS rfl rfl (zca rfl rfl) (fun b2=> ?_)
 refine zS rfl rfl (zn zr89 rfl) (fun b3=> ?_)
 refine zj<|zc<|zh<|za<|zS rfl rfl (zn zr89 rfl) (fun b4=> ?_)
 refine zj<|zc<|zh<|zh<|za<|r_pv rfl rfl (zb rfl)<|zj<|zc<|zr<|zSa<|zQ<|zh<|za<|r_pv rfl rfl (zD rfl rfl)<|zj<|zc<|zh<|zT rfl rfl<|zw<|zc<|zh<|zr<|zh<|za<|r_pv rfl rfl (zb rfl)<|r_pv rfl rfl (ze rfl)<|zj<|zc<|zh<|za<|r_pv rfl rfl (zb rfl)<|r_pv rfl rfl (zC (z:=1) rfl rfl (w64 (by decide)))<|r_pv rfl rfl (zdb (z:=1) rfl rfl (by decide) (by decide))<|r_pv rfl rfl (zb rfl)<|r_pv rfl rfl (zC (z:=2) rfl rfl (w64 (by decide)))<|r_pv rfl rfl (zdb (z:=2) rfl rfl (by decide) (by decide))<|r_pv rfl rfl (ze rfl)<|r_pv rfl rfl (ze rfl)<|zj<|zc<|zla (OW:=[boxA b4 89 [.bool false,.slice none 0 0,.bool false,.slice none 0 0,.bool false,.slice none 0 0]]) (O:=[boxA b3 89 [.bool false,.slice none 0 0,.bool false,.slice none 0 0,.bool false,.slice none 0 0],boxA b2 89 [wb0.b,wb0.l,wb1.b,wb1.l,wb2.b,wb2.l],boxA b1 89 [wa0.b,wa0.l,wa1.b,wa1.l,wa2.b,wa2.l]]) 17 mixed (.block (.then (.then (.block (.then .ret))))) (by kernel_rfl)<|d_pv 0 rfl rfl (by kernel_rfl) (by kernel_rfl) rfl rfl (zb rfl)<|d_pv 1 rfl rfl (by kernel_rfl) (by kernel_rfl) rfl rfl (zb rfl)<|d_pv 2 rfl rfl (by kernel_rfl) (by kernel_rfl) rfl rfl (zg (i:=1) Try.underlying89 sz34 rfl rfl (by decide) rfl)<|d_uw 3 rfl rfl (by kernel_rfl) (by kernel_rfl) (by kernel_rfl) rfl rfl (zf 3 ty34 rfl rfl (.skip (.skip (.take (.take .nil)))))<|d_pv 4 rfl rfl (by kernel_rfl) (by kernel_rfl) rfl rfl (zb rfl)<|d_pv 5 rfl rfl (by kernel_rfl) (by kernel_rfl) rfl rfl (zg (i:=2) Try.underlying89 sz34 rfl rfl (by decide) rfl)<|d_uw 6 rfl rfl (by kernel_rfl) (by kernel_rfl) (by kernel_rfl) rfl rfl (zf 2 ty34 rfl rfl (.skip (.skip (.skip (.skip (.take (.take .nil)))))))<|d_pv 8 rfl rfl (by kernel_rfl) (by kernel_rfl) rfl rfl (zb rfl)<|d_pv 9 rfl rfl (by kernel_rfl) (by kernel_rfl) rfl rfl (zg (i:=2) Try.underlying89 sz34 rfl rfl (by decide) rfl)<|d_uw 10 rfl rfl (by kernel_rfl) (by kernel_rfl) (by kernel_rfl) rfl rfl (zf 3 ty34 rfl rfl (.skip (.skip (.skip (.skip (.take (.take .nil)))))))<|d_pv 11 rfl rfl (by kernel_rfl) (by kernel_rfl) rfl rfl (zb rfl)<|d_pv 12 rfl rfl (by kernel_rfl) (by kernel_rfl) rfl rfl (zg (i:=1) Try.underlying89 sz34 rfl rfl (by decide) rfl)<|d_uw 13 rfl rfl (by kernel_rfl) (by kernel_rfl) (by kernel_rfl) rfl rfl (zf 2 ty34 rfl rfl (.skip (.skip (.take (.take .nil)))))<|zE 7 (by kernel_rfl) (zu rfl rfl rfl rfl (.c rfl (.c rfl .n)) ce92 (zpb (w1:=wa1) (w2:=wb2) (x1:=ey) (x2:=fz) (hb1:=by first|omega|rfl) (hb2:=by first|omega|rfl)) (.c (j:=1) rfl (.c (j:=5) rfl .n)) ?_)
 rintro w35 -
 dsimp only [List.append_eq,List.nil_append,List.cons_append]
 refine zE 14 (by kernel_rfl) (zu rfl rfl rfl rfl (.c rfl (.c rfl .n)) ce92 (zpb (w1:=wa2) (w2:=wb1) (x1:=ez) (x2:=fy) (hb1:=by first|omega|rfl) (hb2:=by first|omega|rfl)) (.c (j:=3) rfl (.c (j:=5) rfl .n)) ?_)
 rintro w36 -
 dsimp only [List.append_eq,List.nil_append,List.cons_append]
 refine zE 15 (by kernel_rfl) (zu rfl rfl rfl rfl (.c rfl (.c rfl .n)) ce93 (zSc (w1:=w35) (w2:=w36) (x1:=ey*fz) (x2:=ez*fy) (hb1:=by first|omega|rfl) (hb2:=by first|omega|rfl)) (.c (j:=1) rfl (.c (j:=0) rfl .n)) ?_)
 rintro w37 -
 dsimp only [List.append_eq,List.nil_append,List.cons_append]
 refine d_pv 16 rfl rfl (by kernel_rfl) (by kernel_rfl) rfl rfl (zg (i:=0) Try.underlying89 sz34 rfl rfl (by decide) rfl)<|zE 17 (by kernel_rfl) (zM (by kernel_rfl) rfl rfl rfl rfl rfl sz34 rfl (.take (.take .nil)) ?_)
 refine zma (by kernel_rfl)<|zA<|zc<|za<|r_pv rfl rfl (zC (z:=1) rfl rfl (w64 (by decide)))<|r_pv rfl rfl (zb rfl)<|zj<|zba<|zQ<|zh<|za<|r_pv rfl rfl (zD rfl rfl)<|zj<|zc<|zh<|zT rfl rfl<|zw<|zc<|zh<|zr<|zh<|za<|r_pv rfl rfl (zb rfl)<|r_pv rfl rfl (ze rfl)<|zj<|zc<|zh<|za<|r_pv rfl rfl (zb rfl)<|r_pv rfl rfl (zC (z:=2) rfl rfl (w64 (by decide)))<|r_pv rfl rfl (zdb (z:=2) rfl rfl (by decide) (by decide))<|r_pv rfl rfl (zb rfl)<|r_pv rfl rfl (zC (z:=3) rfl rfl (w64 (by decide)))<|r_pv rfl rfl (zdb (z:=0) rfl rfl (by decide) (by decide))<|r_pv rfl rfl (ze rfl)<|r_pv rfl rfl (ze rfl)<|zj<|zc<|zla (OW:=[boxA b4 89 [w37.b,w37.l,.bool false,.slice none 0 0,.bool false,.slice none 0 0]]) (O:=[boxA b3 89 [.bool false,.slice none 0 0,.bool false,.slice none 0 0,.bool false,.slice none 0 0],boxA b2 89 [wb0.b,wb0.l,wb1.b,wb1.l,wb2.b,wb2.l],boxA b1 89 [wa0.b,wa0.l,wa1.b,wa1.l,wa2.b,wa2.l]]) 17 mixed (.block (.then (.then (.block (.then .ret))))) (by kernel_rfl)<|d_pv 0 rfl rfl (by kernel_rfl) (by kernel_rfl) rfl rfl (zb rfl)<|d_pv 1 rfl rfl (by kernel_rfl) (by kernel_rfl) rfl rfl (zb rfl)<|d_pv 2 rfl rfl (by kernel_rfl) (by kernel_rfl) rfl rfl (zg (i:=2) Try.underlying89 sz34 rfl rfl (by decide) rfl)<|d_uw 3 rfl rfl (by kernel_rfl) (by kernel_rfl) (by kernel_rfl) rfl rfl (zf 3 ty34 rfl rfl (.skip (.skip (.skip (.skip (.take (.take .nil)))))))<|d_pv 4 rfl rfl (by kernel_rfl) (by kernel_rfl) rfl rfl (zb rfl)<|d_pv 5 rfl rfl (by kernel_rfl) (by kernel_rfl) rfl rfl (zg (i:=0) Try.underlying89 sz34 rfl rfl (by decide) rfl)<|d_uw 6 rfl rfl (by kernel_rfl) (by kernel_rfl) (by kernel_rfl) rfl rfl (zf 2 ty34 rfl rfl (.take (.take .nil)))<|d_pv 8 rfl rfl (by kernel_rfl) (by kernel_rfl) rfl rfl (zb rfl)<|d_pv 9 rfl rfl (by kernel_rfl) (by kernel_rfl) rfl rfl (zg (i:=0) Try.underlying89 sz34 rfl rfl (by decide) rfl)<|d_uw 10 rfl rfl (by kernel_rfl) (by kernel_rfl) (by kernel_rfl) rfl rfl (zf 3 ty34 rfl rfl (.take (.take .nil)))<|d_pv 11 rfl rfl (by kernel_rfl) (by kernel_rfl) rfl rfl (zb rfl)<|d_pv 12 rfl rfl (by kernel_rfl) (by kernel_rfl) rfl rfl (zg (i:=2) Try.underlying89 sz34 rfl rfl (by decide) rfl)<|d_uw 13 rfl rfl (by kernel_rfl) (by kernel_rfl) (by kernel_rfl) rfl rfl (zf 2 ty34 rfl rfl (.skip (.skip (.skip (.skip (.take (.take .nil)))))))<|zE 7 (by kernel_rfl) (zu rfl rfl rfl rfl (.c rfl (.c rfl .n)) ce92 (zpb (w1:=wa2) (w2:=wb0) (x1:=ez) (x2:=fx) (hb1:=by first|omega|rfl) (hb2:=by first|omega|rfl)) (.c (j:=5) rfl (.c (j:=6) rfl .n)) ?_)
 rintro w38 -
 dsimp only [List.append_eq,List.nil_append,List.cons_append]
 refine zE 14 (by kernel_rfl) (zu rfl rfl rfl rfl (.c rfl (.c rfl .n)) ce92 (zpb (w1:=wa0) (w2:=wb2) (x1:=ex) (x2:=fz) (hb1:=by first|omega|rfl) (hb2:=by first|omega|rfl)) (.c (j:=4) rfl (.c (j:=9) rfl .n)) ?_)
 rintro w39 -
 dsimp only [List.append_eq,List.nil_append,List.cons_append]
 refine zE 15 (by kernel_rfl) (zu rfl rfl rfl rfl (.c rfl (.c rfl .n)) ce93 (zSc (w1:=w38) (w2:=w39) (x1:=ez*fx) (x2:=ex*fz) (hb1:=by first|omega|rfl) (hb2:=by first|omega|rfl)) (.c (j:=1) rfl (.c (j:=0) rfl .n)) ?_)
 rintro w310 -
 dsimp only [List.append_eq,List.nil_append,List.cons_append]
 refine d_pv 16 rfl rfl (by kernel_rfl) (by kernel_rfl) rfl rfl (zg (i:=1) Try.underlying89 sz34 rfl rfl (by decide) rfl)<|zE 17 (by kernel_rfl) (zM (by kernel_rfl) rfl rfl rfl rfl rfl sz34 rfl (.skip (.skip (.take (.take .nil)))) ?_)
 refine zma (by kernel_rfl)<|zA<|zc<|za<|r_pv rfl rfl (zC (z:=2) rfl rfl (w64 (by decide)))<|r_pv rfl rfl (zb rfl)<|zj<|zba<|zQ<|zh<|za<|r_pv rfl rfl (zD rfl rfl)<|zj<|zc<|zh<|zT rfl rfl<|zw<|zc<|zh<|zr<|zh<|za<|r_pv rfl rfl (zb rfl)<|r_pv rfl rfl (ze rfl)<|zj<|zc<|zh<|za<|r_pv rfl rfl (zb rfl)<|r_pv rfl rfl (zC (z:=3) rfl rfl (w64 (by decide)))<|r_pv rfl rfl (zdb (z:=0) rfl rfl (by decide) (by decide))<|r_pv rfl rfl (zb rfl)<|r_pv rfl rfl (zC (z:=4) rfl rfl (w64 (by decide)))<|r_pv rfl rfl (zdb (z:=1) rfl rfl (by decide) (by decide))<|r_pv rfl rfl (ze rfl)<|r_pv rfl rfl (ze rfl)<|zj<|zc<|zla (OW:=[boxA b4 89 [w37.b,w37.l,w310.b,w310.l,.bool false,.slice none 0 0]]) (O:=[boxA b3 89 [.bool false,.slice none 0 0,.bool false,.slice none 0 0,.bool false,.slice none 0 0],boxA b2 89 [wb0.b,wb0.l,wb1.b,wb1.l,wb2.b,wb2.l],boxA b1 89 [wa0.b,wa0.l,wa1.b,wa1.l,wa2.b,wa2.l]]) 17 mixed (.block (.then (.then (.block (.then .ret))))) (by kernel_rfl)<|d_pv 0 rfl rfl (by kernel_rfl) (by kernel_rfl) rfl rfl (zb rfl)<|d_pv 1 rfl rfl (by kernel_rfl) (by kernel_rfl) rfl rfl (zb rfl)<|d_pv 2 rfl rfl (by kernel_rfl) (by kernel_rfl) rfl rfl (zg (i:=0) Try.underlying89 sz34 rfl rfl (by decide) rfl)<|d_uw 3 rfl rfl (by kernel_rfl) (by kernel_rfl) (by kernel_rfl) rfl rfl (zf 3 ty34 rfl rfl (.take (.take .nil)))<|d_pv 4 rfl rfl (by kernel_rfl) (by kernel_rfl) rfl rfl (zb rfl)<|d_pv 5 rfl rfl (by kernel_rfl) (by kernel_rfl) rfl rfl (zg (i:=1) Try.underlying89 sz34 rfl rfl (by decide) rfl)<|d_uw 6 rfl rfl (by kernel_rfl) (by kernel_rfl) (by kernel_rfl) rfl rfl (zf 2 ty34 rfl rfl (.skip (.skip (.take (.take .nil)))))<|d_pv 8 rfl rfl (by kernel_rfl) (by kernel_rfl) rfl rfl (zb rfl)<|d_pv 9 rfl rfl (by kernel_rfl) (by kernel_rfl) rfl rfl (zg (i:=1) Try.underlying89 sz34 rfl rfl (by decide) rfl)<|d_uw 10 rfl rfl (by kernel_rfl) (by kernel_rfl) (by kernel_rfl) rfl rfl (zf 3 ty34 rfl rfl (.skip (.skip (.take (.take .nil)))))<|d_pv 11 rfl rfl (by kernel_rfl) (by kernel_rfl) rfl rfl (zb rfl)<|d_pv 12 rfl rfl (by kernel_rfl) (by kernel_rfl) rfl rfl (zg (i:=0) Try.underlying89 sz34 rfl rfl (by decide) rfl)<|d_uw 13 rfl rfl (by kernel_rfl) (by kernel_rfl) (by kernel_rfl) rfl rfl (zf 2 ty34 rfl rfl (.take (.take .nil)))<|zE 7 (by kernel_rfl) (zu rfl rfl rfl rfl (.c rfl (.c rfl .n)) ce92 (zpb (w1:=wa0) (w2:=wb1) (x1:=ex) (x2:=fy) (hb1:=by first|omega|rfl) (hb2:=by first|omega|rfl)) (.c (j:=6) rfl (.c (j:=10) rfl .n)) ?_)
 rintro w311 -
 dsimp only [List.append_eq,List.nil_append,List.cons_append]
 refine zE 14 (by kernel_rfl) (zu rfl rfl rfl rfl (.c rfl (.c rfl .n)) ce92 (zpb (w1:=wa1) (w2:=wb0) (x1:=ey) (x2:=fx) (hb1:=by first|omega|rfl) (hb2:=by first|omega|rfl)) (.c (j:=8) rfl (.c (j:=10) rfl .n)) ?_)
 rintro w312 -
 dsimp only [List.append_eq,List.nil_append,List.cons_append]
 refine zE 15 (by kernel_rfl) (zu rfl rfl rfl rfl (.c rfl (.c rfl .n)) ce93 (zSc (w1:=w311) (w2:=w312) (x1:=ex*fy) (x2:=ey*fx) (hb1:=by first|omega|rfl) (hb2:=by first|omega|rfl)) (.c (j:=1) rfl (.c (j:=0) rfl .n)) ?_)
 rintro w313 -
 dsimp only [List.append_eq,List.nil_append,List.cons_append]
 refine d_pv 16 rfl rfl (by kernel_rfl) (by kernel_rfl) rfl rfl (zg (i:=2) Try.underlying89 sz34 rfl rfl (by decide) rfl)<|zE 17 (by kernel_rfl) (zM (by kernel_rfl) rfl rfl rfl rfl rfl sz34 rfl (.skip (.skip (.skip (.skip (.take (.take .nil)))))) ?_)
 refine zma (by kernel_rfl)<|zA<|zc<|za<|r_pv rfl rfl (zC (z:=3) rfl rfl (w64 (by decide)))<|r_pv rfl rfl (zb rfl)<|zj<|zba<|zQ<|zh<|za<|r_pv rfl rfl (zD rfl rfl)<|zj<|zc<|zh<|zva rfl rfl<|zaa<|zk<|zk<|zt<|zc<|zh<|za<|r_u rfl rfl (zf 0 ty89 rfl rfl (.take (.take (.take (.take (.take (.take .nil)))))))<|zx 1 rfl rfl rfl rfl rfl sz89 rfl (.take (.take (.take (.take (.take (.take .nil)))))) (.s .z)<|zj<|zc<|zP ?_
 exact zG Try.results61 (w37,w310,w313) trivial (zV 1 ty89 rfl rfl (.take (.take (.take (.take (.take (.take .nil))))))) rfl (ho:=(.n:PickO _ _ _)) ((.of [6,3,0] rfl):SelR _ _ _)
theorem zAb {ex:Int} {ey:Int} {ez:Int} {fx:Int} {fy:Int} {fz:Int} {gx:Int} {gy:Int} {gz:Int} (hbex: -4611686018427387904≤ex∧ex≤4611686018427387904) (hbey: -4611686018427387904≤ey∧ey≤4611686018427387904) (hbez: -4611686018427387904≤ez∧ez≤4611686018427387904) (hbfx: -2147483648≤fx∧fx≤2147483648) (hbfy: -2147483648≤fy∧fy≤2147483648) (hbfz: -2147483648≤fz∧fz≤2147483648) (hbgx: -2147483648≤gx∧gx≤2147483648) (hbgy: -2147483648≤gy∧gy≤2147483648) (hbgz: -2147483648≤gz∧gz≤2147483648):Con Try.prog 63 [.agg #[.int .i64 ex,.int .i64 ey,.int .i64 ez],.agg #[.int .i64 fx,.int .i64 fy,.int .i64 fz],.agg #[.int .i64 gx,.int .i64 gy,.int .i64 gz]] [] [] (Y:=Wd) (fun y=>True) (fun y=> .agg #[y.b,y.l]) (fun y=>[]) (fun y=>[zF y (Ms.det (ex,ey,ez) (fx,fy,fz) (gx,gy,gz))]):=by
 refine zB Try.func63 rfl rfl rfl (fun c=> ?_)
 show RunC _ _ _ _ _ [(0,.agg #[.int .i64 ex,.int .i64 ey,.int .i64 ez]),(1,.agg #[.int .i64 fx,.int .i64 fy,.int .i64 fz]),(2,.agg #[.int .i64 gx,.int .i64 gy,.int .i64 gz])] [] []
 have hmfxgy:=Ms.mul_le hbfx hbgy
 have hmfxgz:=Ms.mul_le hbfx hbgz
 have hmfygx:=Ms.mul_le hbfy hbgx
 have hmfygz:=Ms.mul_le hbfy hbgz
 have hmfzgx:=Ms.mul_le hbfz hbgx
 have hmfzgy:=Ms.mul_le hbfz hbgy
 have hqex:=Big.zzc (z:=ex) (by omega) (by omega)
 have hqey:=Big.zzc (z:=ey) (by omega) (by omega)
 have hqez:=Big.zzc (z:=ez) (by omega) (by omega)
 have hqfxgy:=Big.zzc (z:=fx*gy) (by omega) (by omega)
 have hqfxgz:=Big.zzc (z:=fx*gz) (by omega) (by omega)
 have hqfygx:=Big.zzc (z:=fy*gx) (by omega) (by omega)
 have hqfygz:=Big.zzc (z:=fy*gz) (by omega) (by omega)
 have hqfzgx:=Big.zzc (z:=fz*gx) (by omega) (by omega)
 have hqfzgy:=Big.zzc (z:=fz*gy) (by omega) (by omega)
 have hs0:=Big.zxd (fy*gz) (fz*gy)
 have hs1:=Big.zxd (fz*gx) (fx*gz)
 have hs2:=Big.zxd (fx*gy) (fy*gx)
 have hx0:=Big.zbb ex (fy*gz - fz*gy)
 have hx1:=Big.zbb ey (fz*gx - fx*gz)
 have hx2:=Big.zbb ez (fx*gy - fy*gx)
 have ha0:=Big.zyc
 have ha1:=Big.zab 0 (ex*(fy*gz - fz*gy))
 have ha2:=Big.zab (0+ex*(fy*gz - fz*gy)) (ey*(fz*gx - fx*gz))
 have ha3:=Big.zab ((0+ex*(fy*gz - fz*gy))+ey*(fz*gx - fx*gz)) (ez*(fx*gy - fy*gx))
 refine zh<|za<|zS rfl rfl (zca rfl rfl) (fun b1=> ?_)
 refine zS rfl rfl (zca rfl rfl) (fun b2=> ?_)
 refine zS rfl rfl (zca rfl rfl) (fun b3=> ?_)
 refine zS rfl rfl (zn zr34 rfl) (fun b4=> ?_)
 refine zj<|zc<|zh<|za<|zea rfl rfl (.c rfl .n) ce45 (zpa (z:=(0:Int)) (hz:=by first|omega|rfl)) (.n) ?_
 rintro w35 -
 dsimp only [List.append_eq,List.nil_append,List.cons_append]
 refine zS rfl rfl (zn zr34 rfl) (fun b6=> ?_)
 refine zx 0 rfl rfl rfl rfl rfl sz34 rfl (.take (.take .nil)) .z<|zj<|zc<|zh<|zh<|za<|r_pv rfl rfl (zb rfl)<|zj<|zc<|zr<|zSa<|zQ<|zh<|za<|r_pv rfl rfl (zD rfl rfl)<|zj<|zc<|zh<|zT rfl rfl<|zw<|zc<|zh<|zr<|zh<|za<|r_pv rfl rfl (zb rfl)<|r_pv rfl rfl (ze rfl)<|zj<|zc<|zh<|za<|r_pv rfl rfl (zb rfl)<|r_pv rfl rfl (zC (z:=1) rfl rfl (w64 (by decide)))<|r_pv rfl rfl (zdb (z:=1) rfl rfl (by decide) (by decide))<|r_pv rfl rfl (zb rfl)<|r_pv rfl rfl (zC (z:=2) rfl rfl (w64 (by decide)))<|r_pv rfl rfl (zdb (z:=2) rfl rfl (by decide) (by decide))<|r_pv rfl rfl (ze rfl)<|r_pv rfl rfl (ze rfl)<|zj<|zc<|zla (OW:=[boxA b6 34 [w35.b,w35.l]]) (O:=[boxA b4 34 [.bool false,.slice none 0 0],boxA b3 44 [.int .i64 gx,.int .i64 gy,.int .i64 gz],boxA b2 44 [.int .i64 fx,.int .i64 fy,.int .i64 fz],boxA b1 44 [.int .i64 ex,.int .i64 ey,.int .i64 ez]]) 24 mixed (.block (.then (.then (.block (.then .ret))))) (by kernel_rfl)<|d_uw 0 rfl rfl (by kernel_rfl) (by kernel_rfl) (by kernel_rfl) rfl rfl (zf 0 ty34 rfl rfl (.take (.take .nil)))<|d_pv 1 rfl rfl (by kernel_rfl) (by kernel_rfl) rfl rfl (zb rfl)<|d_pv 2 rfl rfl (by kernel_rfl) (by kernel_rfl) rfl rfl (zg (i:=0) Try.underlying44 sz3 rfl rfl (by decide) rfl)<|d_uw 3 rfl rfl (by kernel_rfl) (by kernel_rfl) (by kernel_rfl) rfl rfl (zd 4 ty3 rfl rfl rfl)<|d_pv 5 rfl rfl (by kernel_rfl) (by kernel_rfl) rfl rfl (zb rfl)<|d_pv 6 rfl rfl (by kernel_rfl) (by kernel_rfl) rfl rfl (zg (i:=1) Try.underlying44 sz3 rfl rfl (by decide) rfl)<|d_uw 7 rfl rfl (by kernel_rfl) (by kernel_rfl) (by kernel_rfl) rfl rfl (zd 3 ty3 rfl rfl rfl)<|d_pv 8 rfl rfl (by kernel_rfl) (by kernel_rfl) rfl rfl (zb rfl)<|d_pv 9 rfl rfl (by kernel_rfl) (by kernel_rfl) rfl rfl (zg (i:=2) Try.underlying44 sz3 rfl rfl (by decide) rfl)<|d_uw 10 rfl rfl (by kernel_rfl) (by kernel_rfl) (by kernel_rfl) rfl rfl (zd 2 ty3 rfl rfl rfl)<|d_pv 11 rfl rfl (by kernel_rfl) (by kernel_rfl) rfl rfl (znb (z:=(fy*gz)) rfl rfl (w64 (by omega)))<|d_pv 13 rfl rfl (by kernel_rfl) (by kernel_rfl) rfl rfl (zb rfl)<|d_pv 14 rfl rfl (by kernel_rfl) (by kernel_rfl) rfl rfl (zg (i:=2) Try.underlying44 sz3 rfl rfl (by decide) rfl)<|d_uw 15 rfl rfl (by kernel_rfl) (by kernel_rfl) (by kernel_rfl) rfl rfl (zd 3 ty3 rfl rfl rfl)<|d_pv 16 rfl rfl (by kernel_rfl) (by kernel_rfl) rfl rfl (zb rfl)<|d_pv 17 rfl rfl (by kernel_rfl) (by kernel_rfl) rfl rfl (zg (i:=1) Try.underlying44 sz3 rfl rfl (by decide) rfl)<|d_uw 18 rfl rfl (by kernel_rfl) (by kernel_rfl) (by kernel_rfl) rfl rfl (zd 2 ty3 rfl rfl rfl) ?_
 refine d_pv 19 rfl rfl (by kernel_rfl) (by kernel_rfl) rfl rfl (znb (z:=(fz*gy)) rfl rfl (w64 (by omega)))<|zE 4 (by kernel_rfl) (zu rfl rfl rfl rfl (.c rfl .n) ce45 (zpa (z:=ex) (hz:=by first|omega|rfl)) (.n) ?_)
 rintro w37 -
 dsimp only [List.append_eq,List.nil_append,List.cons_append]
 refine zE 12 (by kernel_rfl) (zu rfl rfl rfl rfl (.c rfl .n) ce45 (zpa (z:=(fy*gz)) (hz:=by first|omega|rfl)) (.n) ?_)
 rintro w38 -
 dsimp only [List.append_eq,List.nil_append,List.cons_append]
 refine zE 20 (by kernel_rfl) (zu rfl rfl rfl rfl (.c rfl .n) ce45 (zpa (z:=(fz*gy)) (hz:=by first|omega|rfl)) (.n) ?_)
 rintro w39 -
 dsimp only [List.append_eq,List.nil_append,List.cons_append]
 refine zE 21 (by kernel_rfl) (zu rfl rfl rfl rfl (.c rfl (.c rfl .n)) ce98 (zEc (w1:=w38) (w2:=w39) (x1:=(fy*gz)) (x2:=(fz*gy)) (hb1:=by first|omega|rfl) (hb2:=by first|omega|rfl)) (.c (j:=1) rfl (.c (j:=0) rfl .n)) ?_)
 rintro w310 -
 dsimp only [List.append_eq,List.nil_append,List.cons_append]
 refine zE 22 (by kernel_rfl) (zu rfl rfl rfl rfl (.c rfl (.c rfl .n)) ce97 (zXa (w1:=w37) (w2:=w310) (x1:=ex) (x2:=(fy*gz) - (fz*gy)) (hb1:=by first|omega|rfl) (hb2:=by first|omega|rfl)) (.c (j:=3) rfl (.c (j:=0) rfl .n)) ?_)
 rintro w311 -
 dsimp only [List.append_eq,List.nil_append,List.cons_append]
 refine zE 23 (by kernel_rfl) (zu rfl rfl rfl rfl (.c rfl (.c rfl .n)) ce62 (zWa (w1:=w35) (w2:=w311) (x1:=(0:Int)) (x2:=ex*((fy*gz) - (fz*gy))) (hb1:=by first|omega|rfl) (hb2:=by first|omega|rfl)) (.c (j:=5) rfl (.c (j:=0) rfl .n)) ?_)
 rintro w312 -
 dsimp only [List.append_eq,List.nil_append,List.cons_append]
 refine zE 24 (by kernel_rfl) (zM (by kernel_rfl) rfl rfl rfl rfl rfl sz34 rfl (.take (.take .nil)) ?_)
 refine zma (by kernel_rfl)<|zA<|zc<|za<|r_pv rfl rfl (zC (z:=1) rfl rfl (w64 (by decide)))<|r_pv rfl rfl (zb rfl)<|zj<|zba<|zQ<|zh<|za<|r_pv rfl rfl (zD rfl rfl)<|zj<|zc<|zh<|zT rfl rfl<|zw<|zc<|zh<|zr<|zh<|za<|r_pv rfl rfl (zb rfl)<|r_pv rfl rfl (ze rfl)<|zj<|zc<|zh<|za<|r_pv rfl rfl (zb rfl)<|r_pv rfl rfl (zC (z:=2) rfl rfl (w64 (by decide)))<|r_pv rfl rfl (zdb (z:=2) rfl rfl (by decide) (by decide))<|r_pv rfl rfl (zb rfl)<|r_pv rfl rfl (zC (z:=3) rfl rfl (w64 (by decide)))<|r_pv rfl rfl (zdb (z:=0) rfl rfl (by decide) (by decide))<|r_pv rfl rfl (ze rfl)<|r_pv rfl rfl (ze rfl)<|zj<|zc<|zla (OW:=[boxA b6 34 [w312.b,w312.l]]) (O:=[boxA b4 34 [.bool false,.slice none 0 0],boxA b3 44 [.int .i64 gx,.int .i64 gy,.int .i64 gz],boxA b2 44 [.int .i64 fx,.int .i64 fy,.int .i64 fz],boxA b1 44 [.int .i64 ex,.int .i64 ey,.int .i64 ez]]) 24 mixed (.block (.then (.then (.block (.then .ret))))) (by kernel_rfl)<|d_uw 0 rfl rfl (by kernel_rfl) (by kernel_rfl) (by kernel_rfl) rfl rfl (zf 0 ty34 rfl rfl (.take (.take .nil)))<|d_pv 1 rfl rfl (by kernel_rfl) (by kernel_rfl) rfl rfl (zb rfl)<|d_pv 2 rfl rfl (by kernel_rfl) (by kernel_rfl) rfl rfl (zg (i:=1) Try.underlying44 sz3 rfl rfl (by decide) rfl)<|d_uw 3 rfl rfl (by kernel_rfl) (by kernel_rfl) (by kernel_rfl) rfl rfl (zd 4 ty3 rfl rfl rfl)<|d_pv 5 rfl rfl (by kernel_rfl) (by kernel_rfl) rfl rfl (zb rfl)<|d_pv 6 rfl rfl (by kernel_rfl) (by kernel_rfl) rfl rfl (zg (i:=2) Try.underlying44 sz3 rfl rfl (by decide) rfl)<|d_uw 7 rfl rfl (by kernel_rfl) (by kernel_rfl) (by kernel_rfl) rfl rfl (zd 3 ty3 rfl rfl rfl)<|d_pv 8 rfl rfl (by kernel_rfl) (by kernel_rfl) rfl rfl (zb rfl)<|d_pv 9 rfl rfl (by kernel_rfl) (by kernel_rfl) rfl rfl (zg (i:=0) Try.underlying44 sz3 rfl rfl (by decide) rfl)<|d_uw 10 rfl rfl (by kernel_rfl) (by kernel_rfl) (by kernel_rfl) rfl rfl (zd 2 ty3 rfl rfl rfl)<|d_pv 11 rfl rfl (by kernel_rfl) (by kernel_rfl) rfl rfl (znb (z:=(fz*gx)) rfl rfl (w64 (by omega)))<|d_pv 13 rfl rfl (by kernel_rfl) (by kernel_rfl) rfl rfl (zb rfl)<|d_pv 14 rfl rfl (by kernel_rfl) (by kernel_rfl) rfl rfl (zg (i:=0) Try.underlying44 sz3 rfl rfl (by decide) rfl)<|d_uw 15 rfl rfl (by kernel_rfl) (by kernel_rfl) (by kernel_rfl) rfl rfl (zd 3 ty3 rfl rfl rfl)<|d_pv 16 rfl rfl (by kernel_rfl) (by kernel_rfl) rfl rfl (zb rfl)<|d_pv 17 rfl rfl (by kernel_rfl) (by kernel_rfl) rfl rfl (zg (i:=2) Try.underlying44 sz3 rfl rfl (by decide) rfl)<|d_uw 18 rfl rfl (by kernel_rfl) (by kernel_rfl) (by kernel_rfl) rfl rfl (zd 2 ty3 rfl rfl rfl)<|d_pv 19 rfl rfl (by kernel_rfl) (by kernel_rfl) rfl rfl (znb (z:=(fx*gz)) rfl rfl (w64 (by omega))) ?_
 refine zE 4 (by kernel_rfl) (zu rfl rfl rfl rfl (.c rfl .n) ce45 (zpa (z:=ey) (hz:=by first|omega|rfl)) (.n) ?_)
 rintro w313 -
 dsimp only [List.append_eq,List.nil_append,List.cons_append]
 refine zE 12 (by kernel_rfl) (zu rfl rfl rfl rfl (.c rfl .n) ce45 (zpa (z:=(fz*gx)) (hz:=by first|omega|rfl)) (.n) ?_)
 rintro w314 -
 dsimp only [List.append_eq,List.nil_append,List.cons_append]
 refine zE 20 (by kernel_rfl) (zu rfl rfl rfl rfl (.c rfl .n) ce45 (zpa (z:=(fx*gz)) (hz:=by first|omega|rfl)) (.n) ?_)
 rintro w315 -
 dsimp only [List.append_eq,List.nil_append,List.cons_append]
 refine zE 21 (by kernel_rfl) (zu rfl rfl rfl rfl (.c rfl (.c rfl .n)) ce98 (zEc (w1:=w314) (w2:=w315) (x1:=(fz*gx)) (x2:=(fx*gz)) (hb1:=by first|omega|rfl) (hb2:=by first|omega|rfl)) (.c (j:=1) rfl (.c (j:=0) rfl .n)) ?_)
 rintro w316 -
 dsimp only [List.append_eq,List.nil_append,List.cons_append]
 refine zE 22 (by kernel_rfl) (zu rfl rfl rfl rfl (.c rfl (.c rfl .n)) ce97 (zXa (w1:=w313) (w2:=w316) (x1:=ey) (x2:=(fz*gx) - (fx*gz)) (hb1:=by first|omega|rfl) (hb2:=by first|omega|rfl)) (.c (j:=3) rfl (.c (j:=0) rfl .n)) ?_)
 rintro w317 -
 dsimp only [List.append_eq,List.nil_append,List.cons_append]
 refine zE 23 (by kernel_rfl) (zu rfl rfl rfl rfl (.c rfl (.c rfl .n)) ce62 (zWa (w1:=w312) (w2:=w317) (x1:=(0:Int)+(ex*((fy*gz) - (fz*gy)))) (x2:=ey*((fz*gx) - (fx*gz))) (hb1:=by first|omega|rfl) (hb2:=by first|omega|rfl)) (.c (j:=5) rfl (.c (j:=0) rfl .n)) ?_)
 rintro w318 -
 dsimp only [List.append_eq,List.nil_append,List.cons_append]
 refine zE 24 (by kernel_rfl) (zM (by kernel_rfl) rfl rfl rfl rfl rfl sz34 rfl (.take (.take .nil)) ?_)
 refine zma (by kernel_rfl)<|zA<|zc<|za<|r_pv rfl rfl (zC (z:=2) rfl rfl (w64 (by decide)))<|r_pv rfl rfl (zb rfl)<|zj<|zba<|zQ<|zh<|za<|r_pv rfl rfl (zD rfl rfl)<|zj<|zc<|zh<|zT rfl rfl<|zw<|zc<|zh<|zr<|zh<|za<|r_pv rfl rfl (zb rfl)<|r_pv rfl rfl (ze rfl)<|zj<|zc<|zh<|za<|r_pv rfl rfl (zb rfl)<|r_pv rfl rfl (zC (z:=3) rfl rfl (w64 (by decide)))<|r_pv rfl rfl (zdb (z:=0) rfl rfl (by decide) (by decide))<|r_pv rfl rfl (zb rfl)<|r_pv rfl rfl (zC (z:=4) rfl rfl (w64 (by decide)))<|r_pv rfl rfl (zdb (z:=1) rfl rfl (by decide) (by decide))<|r_pv rfl rfl (ze rfl)<|r_pv rfl rfl (ze rfl)<|zj<|zc<|zla (OW:=[boxA b6 34 [w318.b,w318.l]]) (O:=[boxA b4 34 [.bool false,.slice none 0 0],boxA b3 44 [.int .i64 gx,.int .i64 gy,.int .i64 gz],boxA b2 44 [.int .i64 fx,.int .i64 fy,.int .i64 fz],boxA b1 44 [.int .i64 ex,.int .i64 ey,.int .i64 ez]]) 24 mixed (.block (.then (.then (.block (.then .ret))))) (by kernel_rfl)<|d_uw 0 rfl rfl (by kernel_rfl) (by kernel_rfl) (by kernel_rfl) rfl rfl (zf 0 ty34 rfl rfl (.take (.take .nil)))<|d_pv 1 rfl rfl (by kernel_rfl) (by kernel_rfl) rfl rfl (zb rfl)<|d_pv 2 rfl rfl (by kernel_rfl) (by kernel_rfl) rfl rfl (zg (i:=2) Try.underlying44 sz3 rfl rfl (by decide) rfl)<|d_uw 3 rfl rfl (by kernel_rfl) (by kernel_rfl) (by kernel_rfl) rfl rfl (zd 4 ty3 rfl rfl rfl)<|d_pv 5 rfl rfl (by kernel_rfl) (by kernel_rfl) rfl rfl (zb rfl)<|d_pv 6 rfl rfl (by kernel_rfl) (by kernel_rfl) rfl rfl (zg (i:=0) Try.underlying44 sz3 rfl rfl (by decide) rfl)<|d_uw 7 rfl rfl (by kernel_rfl) (by kernel_rfl) (by kernel_rfl) rfl rfl (zd 3 ty3 rfl rfl rfl)<|d_pv 8 rfl rfl (by kernel_rfl) (by kernel_rfl) rfl rfl (zb rfl)<|d_pv 9 rfl rfl (by kernel_rfl) (by kernel_rfl) rfl rfl (zg (i:=1) Try.underlying44 sz3 rfl rfl (by decide) rfl)<|d_uw 10 rfl rfl (by kernel_rfl) (by kernel_rfl) (by kernel_rfl) rfl rfl (zd 2 ty3 rfl rfl rfl)<|d_pv 11 rfl rfl (by kernel_rfl) (by kernel_rfl) rfl rfl (znb (z:=(fx*gy)) rfl rfl (w64 (by omega)))<|d_pv 13 rfl rfl (by kernel_rfl) (by kernel_rfl) rfl rfl (zb rfl)<|d_pv 14 rfl rfl (by kernel_rfl) (by kernel_rfl) rfl rfl (zg (i:=1) Try.underlying44 sz3 rfl rfl (by decide) rfl)<|d_uw 15 rfl rfl (by kernel_rfl) (by kernel_rfl) (by kernel_rfl) rfl rfl (zd 3 ty3 rfl rfl rfl)<|d_pv 16 rfl rfl (by kernel_rfl) (by kernel_rfl) rfl rfl (zb rfl)<|d_pv 17 rfl rfl (by kernel_rfl) (by kernel_rfl) rfl rfl (zg (i:=0) Try.underlying44 sz3 rfl rfl (by decide) rfl)<|d_uw 18 rfl rfl (by kernel_rfl) (by kernel_rfl) (by kernel_rfl) rfl rfl (zd 2 ty3 rfl rfl rfl)<|d_pv 19 rfl rfl (by kernel_rfl) (by kernel_rfl) rfl rfl (znb (z:=(fy*gx)) rfl rfl (w64 (by omega))) ?_
 refine zE 4 (by kernel_rfl) (zu rfl rfl rfl rfl (.c rfl .n) ce45 (zpa (z:=ez) (hz:=by first|omega|rfl)) (.n) ?_)
 rintro w319 -
 dsimp only [List.append_eq,List.nil_append,List.cons_append]
 refine zE 12 (by kernel_rfl) (zu rfl rfl rfl rfl (.c rfl .n) ce45 (zpa (z:=(fx*gy)) (hz:=by first|omega|rfl)) (.n) ?_)
 rintro w320 -
 dsimp only [List.append_eq,List.nil_append,List.cons_append]
 refine zE 20 (by kernel_rfl) (zu rfl rfl rfl rfl (.c rfl .n) ce45 (zpa (z:=(fy*gx)) (hz:=by first|omega|rfl)) (.n) ?_)
 rintro w321 -
 dsimp only [List.append_eq,List.nil_append,List.cons_append]
 refine zE 21 (by kernel_rfl) (zu rfl rfl rfl rfl (.c rfl (.c rfl .n)) ce98 (zEc (w1:=w320) (w2:=w321) (x1:=(fx*gy)) (x2:=(fy*gx)) (hb1:=by first|omega|rfl) (hb2:=by first|omega|rfl)) (.c (j:=1) rfl (.c (j:=0) rfl .n)) ?_)
 rintro w322 -
 dsimp only [List.append_eq,List.nil_append,List.cons_append]
 refine zE 22 (by kernel_rfl) (zu rfl rfl rfl rfl (.c rfl (.c rfl .n)) ce97 (zXa (w1:=w319) (w2:=w322) (x1:=ez) (x2:=(fx*gy) - (fy*gx)) (hb1:=by first|omega|rfl) (hb2:=by first|omega|rfl)) (.c (j:=3) rfl (.c (j:=0) rfl .n)) ?_)
 rintro w323 -
 dsimp only [List.append_eq,List.nil_append,List.cons_append]
 refine zE 23 (by kernel_rfl) (zu rfl rfl rfl rfl (.c rfl (.c rfl .n)) ce62 (zWa (w1:=w318) (w2:=w323) (x1:=((0:Int)+(ex*((fy*gz) - (fz*gy))))+(ey*((fz*gx) - (fx*gz)))) (x2:=ez*((fx*gy) - (fy*gx))) (hb1:=by first|omega|rfl) (hb2:=by first|omega|rfl)) (.c (j:=5) rfl (.c (j:=0) rfl .n)) ?_)
 rintro w324 -
 dsimp only [List.append_eq,List.nil_append,List.cons_append]
 refine zE 24 (by kernel_rfl) (zM (by kernel_rfl) rfl rfl rfl rfl rfl sz34 rfl (.take (.take .nil)) ?_)
 refine zma (by kernel_rfl)<|zA<|zc<|za<|r_pv rfl rfl (zC (z:=3) rfl rfl (w64 (by decide)))<|r_pv rfl rfl (zb rfl)<|zj<|zba<|zQ<|zh<|za<|r_pv rfl rfl (zD rfl rfl)<|zj<|zc<|zh<|zva rfl rfl<|zaa<|zk<|zk<|zt<|zc<|zh<|za<|r_u rfl rfl (zf 0 ty34 rfl rfl (.take (.take .nil)))<|zx 1 rfl rfl rfl rfl rfl sz34 rfl (.take (.take .nil)) (.s .z)<|zj<|zc<|zP ?_
 have hz9:((((0:Int)+ex*(fy*gz - fz*gy))+ey*(fz*gx - fx*gz))+ez*(fx*gy - fy*gx))=Ms.det (ex,ey,ez) (fx,fy,fz) (gx,gy,gz):=by simp [Ms.dot,Ms.det,Ms.cross]
 exact zG Try.results63 w324 trivial (zV 1 ty34 rfl rfl (.take (.take .nil))) rfl (ho:=(.n:PickO _ _ _)) ((.e (j:=0) rfl (by rw [hz9]) .n):SelR _ _ _)
theorem zAd {ex:Int} {ey:Int} {ez:Int} {wa0:Wd} {wa1:Wd} {wa2:Wd} (hlex:Big.ln ex≤1000) (hley:Big.ln ey≤1000) (hlez:Big.ln ez≤1000):Con Try.prog 102 [.agg #[wa0.b,wa0.l,wa1.b,wa1.l,wa2.b,wa2.l]] [] [zF wa0 ex,zF wa1 ey,zF wa2 ez] (Y:=Unit) (fun y=>True) (fun y=> .bool (decide (Ms.dot (ex,ey,ez) (ex,ey,ez)=0))) (fun y=>[]) (fun y=>[]):=by
 refine zB Try.func102 rfl rfl rfl (fun c=> ?_)
 show RunC _ _ _ _ _ [(0,.agg #[wa0.b,wa0.l,wa1.b,wa1.l,wa2.b,wa2.l])] [] [zF wa0 ex,zF wa1 ey,zF wa2 ez]
 have hnexex:=Big.zbb ex ex
 have hneyey:=Big.zbb ey ey
 have hnezez:=Big.zbb ez ez
 have hdl:=Big.zQb (ex,ey,ez) (ex,ey,ez) (by assumption) (by assumption) (by assumption) (by assumption) (by assumption) (by assumption)
 refine zh<|za<|zS rfl rfl (zca rfl rfl) (fun b1=> ?_)
 refine r_pv rfl rfl (ze rfl)<|zj<|zc<|zh<|za<|r_u rfl rfl (zf 0 ty89 rfl rfl (.take (.take (.take (.take (.take (.take .nil)))))))<|r_u rfl rfl (zf 0 ty89 rfl rfl (.take (.take (.take (.take (.take (.take .nil)))))))<|zea rfl rfl (.c rfl (.c rfl .n)) ce60 (zjb (ex:=ex) (ey:=ey) (ez:=ez) (wa0:=wa0) (wa1:=wa1) (wa2:=wa2) (fx:=ex) (fy:=ey) (fz:=ez) (wb0:=wa0) (wb1:=wa1) (wb2:=wa2) (hlex:=by assumption) (hley:=by assumption) (hlez:=by assumption) (hlfx:=by assumption) (hlfy:=by assumption) (hlfz:=by assumption)) (.c (j:=0) rfl (.c (j:=1) rfl (.c (j:=2) rfl (.c (j:=0) rfl (.c (j:=1) rfl (.c (j:=2) rfl .n)))))) ?_
 rintro w32 -
 dsimp only [List.append_eq,List.nil_append,List.cons_append]
 refine zY rfl rfl (.c rfl .n) ce81 (zVa (w1:=w32) (x1:=Ms.dot (ex,ey,ez) (ex,ey,ez))) (.c (j:=0) rfl .n)<|r_pv rfl rfl (zxa rfl rfl)<|r_pv rfl rfl (ze rfl)<|zj<|zc<|zP ?_
 exact zG Try.results102 () trivial (zz rfl) (congrArg Value.bool (decide_eq_decide.2 Int.sign_eq_zero_iff_zero.symm)) (ho:=(.n:PickO _ _ _)) (.n:SelR _ _ _)
theorem zfc {ex:Int} {ey:Int} {ez:Int} {wa0:Wd} {wa1:Wd} {wa2:Wd} {fx:Int} {fy:Int} {fz:Int} {wb0:Wd} {wb1:Wd} {wb2:Wd} {gx:Int} {gy:Int} {gz:Int} {wd0:Wd} {wd1:Wd} {wd2:Wd} (hlex:Big.ln ex≤1000) (hley:Big.ln ey≤1000) (hlez:Big.ln ez≤1000) (hlfx:Big.ln fx≤1000) (hlfy:Big.ln fy≤1000) (hlfz:Big.ln fz≤1000) (hlgx:Big.ln gx≤1000) (hlgy:Big.ln gy≤1000) (hlgz:Big.ln gz≤1000):Con Try.prog 103 [.agg #[wa0.b,wa0.l,wa1.b,wa1.l,wa2.b,wa2.l],.agg #[wb0.b,wb0.l,wb1.b,wb1.l,wb2.b,wb2.l],.agg #[wd0.b,wd0.l,wd1.b,wd1.l,wd2.b,wd2.l]] [] [zF wa0 ex,zF wa1 ey,zF wa2 ez,zF wb0 fx,zF wb1 fy,zF wb2 fz,zF wd0 gx,zF wd1 gy,zF wd2 gz] (Y:=Unit) (fun y=>True) (fun y=> .bool (decide (Ms.dot (gx,gy,gz) (gx,gy,gz)=0∧Ms.dot (ex,ey,ez) (fx,fy,fz)≤0))) (fun y=>[]) (fun y=>[]):=by
 refine zB Try.func103 rfl rfl rfl (fun c=> ?_)
 show RunC _ _ _ _ _ [(0,.agg #[wa0.b,wa0.l,wa1.b,wa1.l,wa2.b,wa2.l]),(1,.agg #[wb0.b,wb0.l,wb1.b,wb1.l,wb2.b,wb2.l]),(2,.agg #[wd0.b,wd0.l,wd1.b,wd1.l,wd2.b,wd2.l])] [] [zF wa0 ex,zF wa1 ey,zF wa2 ez,zF wb0 fx,zF wb1 fy,zF wb2 fz,zF wd0 gx,zF wd1 gy,zF wd2 gz]
 have hdl:=Big.zQb (ex,ey,ez) (fx,fy,fz) (by assumption) (by assumption) (by assumption) (by assumption) (by assumption) (by assumption)
 refine zh<|za<|zS rfl rfl (zca rfl rfl) (fun b1=> ?_)
 refine zS rfl rfl (zca rfl rfl) (fun b2=> ?_)
 refine zS rfl rfl (zca rfl rfl) (fun b3=> ?_)
 refine r_pv rfl rfl (ze rfl)<|zj<|zc<|zLa (X:=Unit) (fun x=>True) (fun x=>[(6,.bool (decide ((Ms.dot (gx,gy,gz) (gx,gy,gz)=0)∧((Ms.dot (ex,ey,ez) (fx,fy,fz)).sign≤0))))]) (fun x=>[boxA b3 89 (cw [wd0,wd1,wd2]),boxA b2 89 (cw [wb0,wb1,wb2]),boxA b1 89 (cw [wa0,wa1,wa2])]) (fun x=>[zF wa0 ex,zF wa1 ey,zF wa2 ez,zF wb0 fx,zF wb1 fy,zF wb2 fz,zF wd0 gx,zF wd1 gy,zF wd2 gz]) ?_ ?_
 ·
  refine za<|r_u rfl rfl (zf 0 ty89 rfl rfl (.take (.take (.take (.take (.take (.take .nil)))))))<|zY rfl rfl (.c rfl .n) ce102 (zAd (ex:=gx) (ey:=gy) (ez:=gz) (wa0:=wd0) (wa1:=wd1) (wa2:=wd2) (hlex:=by assumption) (hley:=by assumption) (hlez:=by assumption)) (.c (j:=6) rfl (.c (j:=7) rfl (.c (j:=8) rfl .n)))<|zZ rfl rfl (zb rfl) (fun h4=> ?_) (fun h4=> ?_)
  ·
   refine r_u rfl rfl (zf 2 ty89 rfl rfl (.take (.take (.take (.take (.take (.take .nil)))))))<|r_u rfl rfl (zf 1 ty89 rfl rfl (.take (.take (.take (.take (.take (.take .nil)))))))<|zea rfl rfl (.c rfl (.c rfl .n)) ce60 (zjb (ex:=ex) (ey:=ey) (ez:=ez) (wa0:=wa0) (wa1:=wa1) (wa2:=wa2) (fx:=fx) (fy:=fy) (fz:=fz) (wb0:=wb0) (wb1:=wb1) (wb2:=wb2) (hlex:=by assumption) (hley:=by assumption) (hlez:=by assumption) (hlfx:=by assumption) (hlfy:=by assumption) (hlfz:=by assumption)) (.c (j:=0) rfl (.c (j:=1) rfl (.c (j:=2) rfl (.c (j:=3) rfl (.c (j:=4) rfl (.c (j:=5) rfl .n)))))) ?_
   rintro w35 -
   dsimp only [List.append_eq,List.nil_append,List.cons_append]
   refine zY rfl rfl (.c rfl .n) ce81 (zVa (w1:=w35) (x1:=Ms.dot (ex,ey,ez) (fx,fy,fz))) (.c (j:=0) rfl .n)<|r_pv rfl rfl (zTd rfl rfl)<|r_pv rfl rfl (zy rfl rfl)<|r_pv rfl rfl (ze rfl)<|zj ?_
   exact zfa () (show True from by first|trivial|omega|simp_all) ((.e rfl (congrArg Value.bool (by first|(simp_all [Ms.sign_nonpos];done)|simp_all)) .n):SubM _ _) (ho:=((.of [0,0,0] rfl):PickO _ _ _)) ((.of [1,2,3,4,5,6,7,8,9] rfl):SelR _ _ _)
  ·
   refine zi rfl rfl<|zi rfl rfl<|zi rfl rfl<|zi rfl rfl<|zi rfl rfl<|r_pv rfl rfl (zy rfl rfl)<|r_pv rfl rfl (ze rfl)<|zj ?_
   exact zfa () (show True from by first|trivial|omega|simp_all) ((.e rfl (congrArg Value.bool (by first|(simp_all [Ms.sign_nonpos];done)|simp_all)) .n):SubM _ _) (ho:=((.of [0,0,0] rfl):PickO _ _ _)) ((.of [0,1,2,3,4,5,6,7,8] rfl):SelR _ _ _)
 ·
  rintro ⟨⟩ -
  try dsimp only [cw]
  refine zP ?_
  exact zG Try.results103 () trivial (zz rfl) (congrArg Value.bool (by first|rfl|(simp [Ms.sign_nonpos];done)|simp_all [Ms.sign_nonpos])) (ho:=(.n:PickO _ _ _)) (.n:SelR _ _ _)
end Go.Proofs.Ytalfgjpbbongcaa.Sp
namespace Go.Proofs.Ytalfgjpbbongcaa.Sp
open Go
set_option linter.unusedVariables false
set_option maxRecDepth 100000
set_option maxHeartbeats 1000000
theorem znc {b:Nat} {U:List (Int×Int)} {i0:Int} (hU:Ms.UOk U) (hi0:0≤i0∧i0≤1099511627776):Con Try.prog 49 [.map (some b),.int .i64 i0] [mapA b (fun z:Int=> .int .i64 z) (fun z:Int=> .int .i64 z) (InK .i64) U] [] (Y:=Unit) (fun y=>True) (fun y=> .int .i64 (Ms.find U i0)) (fun y=>[mapA b (fun z:Int=> .int .i64 z) (fun z:Int=> .int .i64 z) (InK .i64) U]) (fun y=>[]):=by
 refine zB Try.func49 rfl rfl rfl (fun c=> ?_)
 show RunC _ _ _ _ _ [(0,.map (some b)),(1,.int .i64 i0)] [mapA b (fun z:Int=> .int .i64 z) (fun z:Int=> .int .i64 z) (InK .i64) U] []
 refine zh<|za<|r_pv rfl rfl (ze rfl)<|zj<|zc<|zr<|zua (X:=Int) (fun x:Int=>0≤x∧x≤i0∧Ms.find U x=Ms.find U i0) (fun x=>[(1,.int .i64 x),(0,.map (some b))]) (fun x=>[mapA b (fun z:Int=> .int .i64 z) (fun z:Int=> .int .i64 z) (InK .i64) U]) (fun x=>[]) (fun x:Int=>x.toNat) i0 (show 0≤i0∧i0≤i0∧Ms.find U i0=Ms.find U i0 from by exact ⟨hi0.1,Int.le_refl _,rfl⟩) ((.c rfl (.c rfl .n)):SubM _ _) (ho:=((.c (i:=0) rfl .n):PickO _ _ _)) (.n:SelR _ _ _) ?_
 rintro i hI
 replace hI:0≤i∧i≤i0∧Ms.find U i=Ms.find U i0:=hI
 try dsimp only
 obtain ⟨hi,hile,hfi⟩:=hI
 refine zr<|zh<|za<|r_pv rfl rfl (zb rfl)<|r_pv rfl rfl (zb rfl)<|r_u rfl rfl (zqb (z:=0) (a0:=i) (v:= .int .i64 ((mget U i).getD 0)) 0 rfl ky3 Try.underlying77 zr3 rfl rfl (zo.2 (by omega)) rfl)<|r_pv rfl rfl (zb rfl)<|r_pv rfl rfl (zja rfl rfl)<|r_pv rfl rfl (zja rfl rfl)<|r_pv rfl rfl (ze rfl)<|r_pv rfl rfl (ze rfl)<|zj<|zc<|zh<|zLa (X:=Unit) (fun x=>True) (fun x=>[(19,.bool (decide (((!((mget U i).isSome))=true)∨(((mget U i).getD 0)=i)))),(5,.int .i64 ((mget U i).getD 0)),(1,.int .i64 i),(0,.map (some b))]) (fun x=>[mapA b (fun z:Int=> .int .i64 z) (fun z:Int=> .int .i64 z) (InK .i64) U]) (fun x=>[]) ?_ ?_
 ·
  refine za<|r_pv rfl rfl (zb rfl)<|r_pv rfl rfl (zob rfl)<|zWb rfl rfl (zb rfl) (fun h1=> ?_) (fun h1=> ?_)
  ·
   refine zi rfl rfl<|zi rfl rfl<|zi rfl rfl<|r_pv rfl rfl (zy rfl rfl)<|zj ?_
   exact zfa () (show True from by first|trivial|omega|simp_all) ((.e rfl (congrArg Value.bool (by first|(simp_all;done)|(simp;done))) (.of rfl)):SubM _ _) (ho:=((.c (i:=0) rfl .n):PickO _ _ _)) (.n:SelR _ _ _)
  ·
   refine r_pv rfl rfl (zb rfl)<|r_pv rfl rfl (zb rfl)<|r_pv rfl rfl (zxa rfl rfl)<|r_pv rfl rfl (zy rfl rfl)<|zj ?_
   exact zfa () (show True from by first|trivial|omega|simp_all) ((.e rfl (congrArg Value.bool (by first|(simp_all;done)|(simp;done))) (.of rfl)):SubM _ _) (ho:=((.c (i:=0) rfl .n):PickO _ _ _)) (.n:SelR _ _ _)
 ·
  rintro ⟨⟩ -
  try dsimp only
  refine zI rfl (fun hst=> ?_) (fun hst=> ?_)
  ·
   refine zh<|za<|r_pv rfl rfl (zb rfl)<|r_pv rfl rfl (ze rfl)<|zj<|zc<|zP<|zl<|zq<|zl<|zq ?_
   exact zG Try.results49 () trivial (zz rfl) (by rw [← hfi,Ms.find_stop hst]) (ho:=((.c (i:=0) rfl .n):PickO _ _ _)) (.n:SelR _ _ _)
  ·
   refine zw<|zc<|za<|r_pv rfl rfl (zb rfl)<|r_pv rfl rfl (ze rfl)<|zj<|zA<|zga ((mget U i).getD 0) (show 0≤((mget U i).getD 0)∧((mget U i).getD 0)≤i0∧Ms.find U ((mget U i).getD 0)=Ms.find U i0 from by have hg:=Ms.find_go hU hst;exact ⟨hg.1,by omega,by rw [hg.2.2,hfi]⟩) (by have hg:=Ms.find_go hU hst;show ((mget U i).getD 0).toNat<i.toNat;omega) ((.c rfl (.c rfl .n)):SubM _ _) (ho:=((.c (i:=0) rfl .n):PickO _ _ _)) (.n:SelR _ _ _)
theorem zTc {b:Nat} {U:List (Int×Int)} {i0:Int} {k0:Int} (hU:Ms.UOk U) (hi0:0≤i0∧i0≤1099511627776) (hk0:0≤k0∧k0≤1099511627776):Con Try.prog 48 [.map (some b),.int .i64 i0,.int .i64 k0] [mapA b (fun z:Int=> .int .i64 z) (fun z:Int=> .int .i64 z) (InK .i64) U] [] (Y:=Unit) (fun y=>True) (fun y=> .tuple #[]) (fun y=>[mapA b (fun z:Int=> .int .i64 z) (fun z:Int=> .int .i64 z) (InK .i64) (Ms.joinU U i0 k0)]) (fun y=>[]):=by
 refine zB Try.func48 rfl rfl rfl (fun c=> ?_)
 show RunC _ _ _ _ _ [(0,.map (some b)),(1,.int .i64 i0),(2,.int .i64 k0)] [mapA b (fun z:Int=> .int .i64 z) (fun z:Int=> .int .i64 z) (InK .i64) U] []
 have hr1:=Ms.find_rng hU i0 hi0.1
 have hr2:=Ms.find_rng hU k0 hk0.1
 refine zh<|za<|r_pv rfl rfl (zb rfl)<|r_pv rfl rfl (zb rfl)<|zwc (A:=[mapA b (fun z:Int=> .int .i64 z) (fun z:Int=> .int .i64 z) (InK .i64) U]) (F:=[]) (first:=[]) (cap:=[]) rfl rfl rfl (.c rfl (.c rfl .n)) ce49 (znc (b:=b) (U:=U) (i0:=i0) (hU:=by assumption) (hi0:=by assumption)) (.n) ?_
 rintro ⟨⟩ -
 dsimp only [List.append_eq,List.nil_append,List.cons_append]
 refine r_pv rfl rfl (zb rfl)<|r_pv rfl rfl (zb rfl)<|zwc (A:=[mapA b (fun z:Int=> .int .i64 z) (fun z:Int=> .int .i64 z) (InK .i64) U]) (F:=[]) (first:=[]) (cap:=[]) rfl rfl rfl (.c rfl (.c rfl .n)) ce49 (znc (b:=b) (U:=U) (i0:=k0) (hU:=by assumption) (hi0:=by assumption)) (.n) ?_
 rintro ⟨⟩ -
 dsimp only [List.append_eq,List.nil_append,List.cons_append]
 refine r_pv rfl rfl (ze rfl)<|r_pv rfl rfl (ze rfl)<|zj<|zc<|za<|r_pv rfl rfl (zb rfl)<|r_pv rfl rfl (zb rfl)<|r_pv rfl rfl (zb rfl)<|r_pv rfl rfl (zUd rfl rfl)<|r_pv rfl rfl (zb rfl)<|r_pv rfl rfl (zb rfl)<|r_pv rfl rfl (zUe rfl rfl)<|zJa 0 rfl rfl rfl (zya (a0:=(max (Ms.find U i0) (Ms.find U k0))) (v:=(min (Ms.find U i0) (Ms.find U k0))) ky3 Try.underlying77 rfl rfl rfl (zo.2 (by omega))) (fun _=> .z) (fun _ _=> ?_)
 refine zj<|p_end ?_
 exact p_ret0 Try.results48 () trivial rfl (ho:=((.c (i:=0) rfl .n):PickO _ _ _)) (.n:SelR _ _ _)
end Go.Proofs.Ytalfgjpbbongcaa.Sp
