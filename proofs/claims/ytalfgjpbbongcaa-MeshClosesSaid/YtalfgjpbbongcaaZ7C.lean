/- Lemmas on the walk and plain lemmas that the claim of this folder uses; each states its own conditions. Lines were printed by a program of ours. -/
import Derived.Test.YtalfgjpbbongcaaZ7B
set_option linter.unusedVariables false
set_option linter.unusedSimpArgs false
set_option linter.unusedSectionVars false
namespace Go.Proofs.Ytalfgjpbbongcaa.Sp
open Go
set_option linter.unusedVariables false
set_option maxRecDepth 100000
set_option maxHeartbeats 8000000
theorem zFb {p:Option Addr} {n:Nat} {cap:Nat} {l:List Int} (hn:l.length=n):Con Try.prog 109 [.slice p n cap] [] [slF (rI .u32) p cap l] (Y:=Unit) (fun y=>True) (fun y=> .slice p ((Big.trimL l).length) cap) (fun y=>[]) (fun y=>[slF (rI .u32) p cap (Big.trimL l)]):=by
 refine zy Try.func109 rfl rfl rfl (fun c=> ?_)
 show RunC _ _ _ _ _ [(0,.slice p n cap)] [] [slF (rI .u32) p cap l]
 refine zda 0 rfl (fun hL0=> ?_)
 refine ze<|za<|r_pv rfl rfl (zd rfl)<|zg<|zc<|ze<|zq<|zha (X:=Nat) (fun x:Nat=>x≤l.length∧Big.trimL (l.take x)=Big.trimL l) (fun x=>[(0,.slice p x cap),(2,.slice none 0 0)]) (fun x=>[]) (fun x=>[slF (rI .u32) p cap (l.take x),slF (rI .u32) p cap l]) (fun x:Nat=>x) n (show n≤l.length∧Big.trimL (l.take n)=Big.trimL l from by exact ⟨by omega,by rw [List.take_of_length_le (by omega)]⟩) ((.c rfl (.c rfl .n)):SubM _ _) (ho:=(.n:PickO _ _ _)) ((.e (j:=0) rfl (by rw [List.take_of_length_le (by omega)]) (.c (j:=0) rfl .n)):SelR _ _ _) ?_
 rintro k hI
 replace hI:k≤l.length∧Big.trimL (l.take k)=Big.trimL l:=hI
 try dsimp only
 obtain ⟨hk,hT⟩:=hI
 have hlt:(l.take k).length=k:=by rw [List.length_take];omega
 refine ze<|zLa (X:=Unit) (fun x=>True) (fun x=>[(14,.bool (decide (0<k∧l.getD (k - 1) 0=0))),(0,.slice p k cap),(2,.slice none 0 0)]) (fun x=>[]) (fun x=>[slF (rI .u32) p cap (l.take k),slF (rI .u32) p cap l]) ?_ ?_
 ·
  refine za<|r_pv rfl rfl (zb rfl)<|r_pv rfl rfl (zJ Try.underlying32 rfl)<|r_pv rfl rfl (zOa rfl rfl)<|zpa rfl rfl (zb rfl) (fun h1=> ?_) (fun h1=> ?_)
  ·
   refine r_pv rfl rfl (zb rfl)<|r_pv rfl rfl (zb rfl)<|r_pv rfl rfl (zJ Try.underlying32 rfl)<|r_pv rfl rfl (zUa (z:=(((k:Nat):Int) - 1)) rfl rfl (w64 (by omega)))<|zI (x0:=((l.take k).getD ((((k:Nat):Int) - 1).toNat) 0)) 0 ((((k:Nat):Int) - 1).toNat) rfl Try.underlying32 sz95 rfl rfl rfl (by first|rfl|assumption|(simp_all;done)|omega) rfl (by omega) (gD (d:=0) (by omega)) (fun b2 o3 hok4=> ?_)
   replace hok4:=zma.1 hok4
   refine r_u rfl rfl (zw (j:=0) 0 ty95 rfl rfl rfl rfl)<|r_pv rfl rfl (zFa rfl rfl)<|r_pv rfl rfl (zH rfl rfl)<|zg ?_
   exact zja () (show True from by first|trivial|omega|simp_all) ((.e rfl (congrArg Value.bool (by rw [Big.getD_take l (by omega)];have h1:0<k:=(by omega);have h2:((k:Int) - 1).toNat=k - 1:=(by omega);simp [h1,h2])) (.c rfl (.c rfl .n))):SubM _ _) (ho:=(.n:PickO _ _ _)) ((.of [1,2] rfl):SelR _ _ _)
  ·
   refine zi rfl rfl<|zi rfl rfl<|zi rfl rfl<|zi rfl rfl<|zi rfl rfl<|zi rfl rfl<|zi rfl rfl<|r_pv rfl rfl (zH rfl rfl)<|zg ?_
   exact zja () (show True from by first|trivial|omega|simp_all) ((.e rfl (congrArg Value.bool (by have h1:¬0<k:=(by omega);simp [h1])) (.c rfl (.c rfl .n))):SubM _ _) (ho:=(.n:PickO _ _ _)) ((.of [0,1] rfl):SelR _ _ _)
 ·
  rintro ⟨⟩ -
  try dsimp only
  refine zD rfl (fun hc=> ?_) (fun hc=> ?_)
  ·
   refine zu<|zc<|zq<|za<|r_pv rfl rfl (zb rfl)<|r_pv rfl rfl (zb rfl)<|r_pv rfl rfl (zJ Try.underlying32 rfl)<|r_pv rfl rfl (zUa (z:=(((k - 1):Nat):Int)) rfl rfl (w64 (by omega)))<|r_pv rfl rfl (zlb (hi:=(k - 1)) Try.underlying32 sz95 rfl (.s rfl) (.inr ⟨_,rfl⟩) (by omega))<|zYb (zwb 0 rfl (k - 1) (by omega)) (fun _ _=> ?_)
   refine r_pv rfl rfl (zd rfl)<|zg<|zA<|zba (k - 1) (show (k - 1)≤l.length∧Big.trimL (l.take (k - 1))=Big.trimL l from by exact ⟨by omega,by rw [← hT,Big.trim_go l hc.1 hk hc.2]⟩) (by show k - 1<k;omega) ((.e rfl (by first|rfl|(congr 1;omega)|simp_all) (.c rfl .n)):SubM _ _) (ho:=(.n:PickO _ _ _)) ((.e (j:=0) rfl (by rw [List.take_take];congr 2;omega) (.c (j:=2) rfl .n)):SelR _ _ _)
  ·
   refine zX<|zj<|zj<|zp<|zc<|ze<|za<|r_pv rfl rfl (zb rfl)<|r_pv rfl rfl (zd rfl)<|zg<|zc<|zK ?_
   have hfin:Big.trimL l=l.take k:=by rw [← hT];exact Big.trim_stop l hk hc
   exact zB Try.results109 () trivial (zx rfl) (by rw [hfin,hlt]) (ho:=(.n:PickO _ _ _)) ((.e (j:=0) rfl (by rw [hfin]) .n):SelR _ _ _)
theorem zJd {p:Option Addr} {n:Nat} {cap:Nat} {l:List Int} {i:Nat} (hn:l.length=n) (hi:i≤4611686018427387904):Con Try.prog 117 [.slice p n cap,.int .i64 ((i:Nat):Int)] [] [slF (rI .u32) p cap l] (Y:=Unit) (fun y=>True) (fun y=> .int .u32 (l.getD i 0)) (fun y=>[]) (fun y=>[]):=by
 refine zy Try.func117 rfl rfl rfl (fun c=> ?_)
 show RunC _ _ _ _ _ [(0,.slice p n cap),(1,.int .i64 ((i:Nat):Int))] [] [slF (rI .u32) p cap l]
 refine zda 0 rfl (fun hL0=> ?_)
 refine ze<|za<|r_pv rfl rfl (zd rfl)<|zg<|zc<|ze<|ze<|za<|r_pv rfl rfl (zb rfl)<|r_pv rfl rfl (zb rfl)<|r_pv rfl rfl (zJ Try.underlying32 rfl)<|r_pv rfl rfl (zE rfl rfl)<|zg<|zc<|zD rfl (fun h1=> ?_) (fun h1=> ?_)
 ·
  refine ze<|za<|r_pv rfl rfl (zb rfl)<|r_pv rfl rfl (zb rfl)<|zI (x0:=(l.getD i 0)) 0 i rfl Try.underlying32 sz95 rfl rfl rfl (by first|rfl|assumption|(simp_all;done)|omega) rfl rfl (gD (d:=0) (by omega)) (fun b2 o3 hok4=> ?_)
  replace hok4:=zma.1 hok4
  refine r_u rfl rfl (zw (j:=0) 0 ty95 rfl rfl rfl rfl)<|r_pv rfl rfl (zd rfl)<|zg<|zc<|zK<|zk ?_
  exact zB Try.results117 () trivial (zx rfl) rfl (ho:=(.n:PickO _ _ _)) (.n:SelR _ _ _)
 ·
  refine zu<|zc<|ze<|za<|r_pv rfl rfl (zd rfl)<|zg<|zc<|zK ?_
  exact zB Try.results117 () trivial (zx rfl) (by rw [show l.getD i 0=0 by simp [List.getD,List.getElem?_eq_none (show l.length≤i by omega)]]) (ho:=(.n:PickO _ _ _)) (.n:SelR _ _ _)
theorem zfe {p1:Option Addr} {n1:Nat} {c1:Nat} {l1:List Int} {p2:Option Addr} {n2:Nat} {c2:Nat} {l2:List Int} (hn1:l1.length=n1) (hn2:l2.length=n2) (hb1:n1≤1099511627776) (hb2:n2≤1099511627776) (ho1:Big.okL l1) (ho2:Big.okL l2):Con Try.prog 110 [.slice p1 n1 c1,.slice p2 n2 c2] [] [slF (rI .u32) p1 c1 l1,slF (rI .u32) p2 c2 l2] (Y:=(Option Addr)×Nat) (fun y=>True) (fun y=> .slice (y.1) ((Big.digs (Big.valL l1+Big.valL l2).toNat).length) (y.2)) (fun y=>[]) (fun y=>[slF (rI .u32) (y.1) (y.2) (Big.digs (Big.valL l1+Big.valL l2).toNat)]):=by
 refine zy Try.func110 rfl rfl rfl (fun c=> ?_)
 show RunC _ _ _ _ _ [(0,.slice p1 n1 c1),(1,.slice p2 n2 c2)] [] [slF (rI .u32) p1 c1 l1,slF (rI .u32) p2 c2 l2]
 refine zda 0 rfl (fun hL0=> ?_)
 refine zda 1 rfl (fun hL1=> ?_)
 refine ze<|za<|r_pv rfl rfl (zd rfl)<|zg<|zc<|ze<|za<|r_pv rfl rfl (zb rfl)<|r_pv rfl rfl (zJ Try.underlying32 rfl)<|r_pv rfl rfl (zb rfl)<|r_pv rfl rfl (zJ Try.underlying32 rfl)<|r_pv rfl rfl (v:= .int .i64 (((max n1 n2):Nat):Int)) (by rw [show ((((max n1 n2):Nat):Int):Int)=max ((n1:Nat):Int) ((n2:Nat):Int) by omega];exact zrd rfl rfl)<|r_pv rfl rfl (zC (z:=((((max n1 n2)+1):Nat):Int)) rfl rfl (w64 (by omega)))<|zEa rfl rfl (zhc (r:=rI .u32) (k:=((max n1 n2)+1)) (x0:=0) (γ0:=()) Try.underlying32 inf95 rfl rfl rfl rfl (by omega) (by omega) rfl (fun _ _=>by exact zma.2 (by decide)) (by decide)) (fun b1 _=> ?_)
 refine r_pv rfl rfl (zd rfl)<|zg<|zc<|ze<|za<|r_pv rfl rfl (zd rfl)<|zg<|zc<|ze<|ze<|za<|r_pv rfl rfl (zb rfl)<|r_pv rfl rfl (zJ Try.underlying32 rfl)<|r_pv rfl rfl (zb rfl)<|zg<|zc<|zq<|zha (X:=Nat×(List Int)×Int) (fun x:Nat×(List Int)×Int=>x.1≤max n1 n2+1∧x.2.1.length=x.1∧0≤x.2.2∧x.2.2≤1∧Big.okL x.2.1∧Big.valL x.2.1+Big.pw x.1*x.2.2=Big.valL (l1.take x.1)+Big.valL (l2.take x.1)) (fun x=>[(6,.int .u32 (x.2.2)),(18,.int .i64 ((x.1:Nat):Int)),(17,.int .i64 ((((max n1 n2)+1):Nat):Int)),(5,.slice (some ⟨b1,0,none⟩) ((max n1 n2)+1) ((max n1 n2)+1)),(4,.slice none 0 0),(0,.slice p1 n1 c1),(1,.slice p2 n2 c2)]) (fun x=>[rowA 95 (rI .u32) (some ⟨b1,0,none⟩) ((max n1 n2)+1) (x.2.1++List.replicate (max n1 n2+1 - x.1) 0)]) (fun x=>[slF (rI .u32) p1 c1 l1,slF (rI .u32) p2 c2 l2]) (fun x:Nat×(List Int)×Int=>max n1 n2+1 - x.1) (0,[],0) (show 0≤max n1 n2+1∧([]).length=0∧0≤0∧0≤1∧Big.okL ([])∧Big.valL ([])+Big.pw 0*0=Big.valL (l1.take 0)+Big.valL (l2.take 0) from by exact ⟨by omega,rfl,by decide,by decide,Big.okL_nil,by simp [Big.valL]⟩) ((.c rfl (.e rfl (by first|rfl|(congr 1;omega)|simp_all) (.of rfl))):SubM _ _) (ho:=((.e (i:=0) rfl (by simp) .n):PickO _ _ _)) ((.of [0,1] rfl):SelR _ _ _) ?_
 rintro ⟨i,os,cy⟩ hI
 replace hI:i≤max n1 n2+1∧os.length=i∧0≤cy∧cy≤1∧Big.okL os∧Big.valL os+Big.pw i*cy=Big.valL (l1.take i)+Big.valL (l2.take i):=hI
 try dsimp only
 obtain ⟨hi,hol,hc0,hc1,hok,hv⟩:=hI
 have hg1:=Big.okL_getD ho1 i
 have hg2:=Big.okL_getD ho2 i
 refine ze<|za<|r_pv rfl rfl (zE rfl rfl)<|zg<|zc<|ze<|zD rfl (fun h2=> ?_) (fun h2=> ?_)
 ·
  refine zu<|zc<|ze<|zq<|ze<|za<|r_pv rfl rfl (zb rfl)<|r_pv rfl rfl (zd rfl)<|zg<|zc<|ze<|za<|r_pv rfl rfl (zb rfl)<|r_pv rfl rfl (zb rfl)<|zea rfl rfl (.c rfl (.c rfl .n)) ce117 (zJd (p:=p1) (n:=n1) (cap:=c1) (l:=l1) (i:=i) (hn:=by assumption) (hi:=by first|rfl|assumption|omega|(simp;done)|(simp;omega)|(simp_all;done))) (.c (j:=0) rfl .n)<|r_pv rfl rfl (zb rfl)<|r_pv rfl rfl (zb rfl)<|zea rfl rfl (.c rfl (.c rfl .n)) ce117 (zJd (p:=p2) (n:=n2) (cap:=c2) (l:=l2) (i:=i) (hn:=by assumption) (hi:=by first|rfl|assumption|omega|(simp;done)|(simp;omega)|(simp_all;done))) (.c (j:=1) rfl .n)<|r_pv rfl rfl (zC (z:=(l1.getD i 0+l2.getD i 0)) rfl rfl (wu32 (by omega)))<|r_pv rfl rfl (zb rfl)<|r_pv rfl rfl (zC (z:=((l1.getD i 0+l2.getD i 0)+cy)) rfl rfl (wu32 (by omega)))<|r_pv rfl rfl (zd rfl)<|zg<|zc<|ze<|za<|r_pv rfl rfl (zd rfl)<|zg<|zc<|ze<|ze<|za<|r_pv rfl rfl (zb rfl)<|r_pv rfl rfl (zcb rfl rfl)<|zg<|zc<|zD rfl (fun hc=> ?_) (fun hc=> ?_)
  ·
   refine za<|r_pv rfl rfl (zb rfl)<|r_pv rfl rfl (zUa (z:=(((l1.getD i 0+l2.getD i 0)+cy) - 1000000000)) rfl rfl (wu32 (by omega)))<|r_pv rfl rfl (zd rfl)<|r_pv rfl rfl (zd rfl)<|zg<|zc<|za<|r_pv rfl rfl (zb rfl)<|r_pv rfl rfl (zb rfl)<|r_pv rfl rfl (zb rfl)<|r_pv rfl rfl (zsa (j:=i) Try.underlying32 sz95 rfl rfl rfl (by omega))<|zBa 0 rfl rfl rfl (zCa (j:=i) (x0:=(((l1.getD i 0+l2.getD i 0)+cy) - 1000000000)) (γ0:=()) rfl rfl (by first|omega|(rw [List.length_map];omega)|(simp only [List.length_set];omega)|(simp;done)|(simp;omega)) rfl rfl sz95 (fun _ _=>by exact zma.2 (by omega))) (fun _=> .z) (fun _ _=> ?_)
   refine zg<|zA<|zc<|za<|r_pv rfl rfl (zC (z:=(((i+1):Nat):Int)) rfl rfl (w64 (by omega)))<|r_pv rfl rfl (zb rfl)<|zg<|zba ((i+1),os++[l1.getD i 0+l2.getD i 0+cy - 1000000000],1) (show (i+1)≤max n1 n2+1∧(os++[l1.getD i 0+l2.getD i 0+cy - 1000000000]).length=(i+1)∧0≤1∧1≤1∧Big.okL (os++[l1.getD i 0+l2.getD i 0+cy - 1000000000])∧Big.valL (os++[l1.getD i 0+l2.getD i 0+cy - 1000000000])+Big.pw (i+1)*1=Big.valL (l1.take (i+1))+Big.valL (l2.take (i+1)) from by exact ⟨by omega,by simp [hol],by decide,by decide,Big.okL_snoc hok (by omega) (by omega),Big.plus_step hol hv (by omega)⟩) (by show max n1 n2+1 - (i+1)<max n1 n2+1 - i;omega) ((.of rfl):SubM _ _) (ho:=((.e (i:=0) rfl (by rw [Big.set_pad hol (by omega)]) .n):PickO _ _ _)) ((.of [0,1] rfl):SelR _ _ _)
  ·
   refine zu<|zc<|za<|r_pv rfl rfl (zb rfl)<|r_pv rfl rfl (zb rfl)<|r_pv rfl rfl (zb rfl)<|r_pv rfl rfl (zsa (j:=i) Try.underlying32 sz95 rfl rfl rfl (by omega))<|zBa 0 rfl rfl rfl (zCa (j:=i) (x0:=((l1.getD i 0+l2.getD i 0)+cy)) (γ0:=()) rfl rfl (by first|omega|(rw [List.length_map];omega)|(simp only [List.length_set];omega)|(simp;done)|(simp;omega)) rfl rfl sz95 (fun _ _=>by exact zma.2 (by omega))) (fun _=> .z) (fun _ _=> ?_)
   refine zg<|zA<|zc<|za<|r_pv rfl rfl (zC (z:=(((i+1):Nat):Int)) rfl rfl (w64 (by omega)))<|r_pv rfl rfl (zb rfl)<|zg<|zba ((i+1),os++[l1.getD i 0+l2.getD i 0+cy],0) (show (i+1)≤max n1 n2+1∧(os++[l1.getD i 0+l2.getD i 0+cy]).length=(i+1)∧0≤0∧0≤1∧Big.okL (os++[l1.getD i 0+l2.getD i 0+cy])∧Big.valL (os++[l1.getD i 0+l2.getD i 0+cy])+Big.pw (i+1)*0=Big.valL (l1.take (i+1))+Big.valL (l2.take (i+1)) from by exact ⟨by omega,by simp [hol],by decide,by decide,Big.okL_snoc hok (by omega) (by omega),Big.plus_step hol hv (by omega)⟩) (by show max n1 n2+1 - (i+1)<max n1 n2+1 - i;omega) ((.of rfl):SubM _ _) (ho:=((.e (i:=0) rfl (by rw [Big.set_pad hol (by omega)]) .n):PickO _ _ _)) ((.of [0,1] rfl):SelR _ _ _)
 ·
  have e3:os++List.replicate (max n1 n2+1 - i) 0=os:=by rw [show max n1 n2+1 - i=0 by omega];simp
  rw [e3]
  have hfin:=Big.plus_fin ho1 ho2 hok hc0 hol (by omega) hv
  have htr:Big.trimL os=Big.digs (Big.valL l1+Big.valL l2).toNat:=by rw [Big.digs_valL hok,hfin]
  refine zX<|zj<|zj<|zp<|zc<|ze<|za<|r_pv rfl rfl (zb rfl)<|zxa 0 rfl .z<|zfa rfl rfl (.c rfl .n) ce109 (zFb (p:=some ⟨b1,0,none⟩) (n:=((max n1 n2)+1)) (cap:=((max n1 n2)+1)) (l:=os) (hn:=by first|rfl|assumption|omega|(simp;done)|(simp;omega)|(simp_all;done))) (.c (j:=0) rfl .n) ?_
  rintro ⟨⟩ -
  dsimp only [List.append_eq,List.nil_append,List.cons_append]
  refine r_pv rfl rfl (zd rfl)<|zg<|zc<|zK ?_
  exact zB Try.results110 ((some ⟨b1,0,none⟩),((max n1 n2)+1)) trivial (zx rfl) (by rw [htr]) (ho:=(.n:PickO _ _ _)) ((.e (j:=0) rfl (by rw [htr]) .n):SelR _ _ _)
theorem zKd {a:Nat} {b:Nat} {p1:Option Addr} {c1:Nat} {p2:Option Addr} {c2:Nat} (hb1:(Big.digs (a)).length≤1099511627776) (hb2:(Big.digs (b)).length≤1099511627776):Con Try.prog 110 [.slice (p1) ((Big.digs (a)).length) (c1),.slice (p2) ((Big.digs (b)).length) (c2)] [] [slF (rI .u32) (p1) (c1) (Big.digs (a)),slF (rI .u32) (p2) (c2) (Big.digs (b))] (Y:=(Option Addr)×(Nat)) (fun y=>True) (fun y=> .slice (y.1) ((Big.digs (a+b)).length) (y.2)) (fun y=>[]) (fun y=>[slF (rI .u32) (y.1) (y.2) (Big.digs (a+b))]):=by
  have h:= @zfe p1 (Big.digs a).length c1 (Big.digs a) p2 (Big.digs b).length c2 (Big.digs b) rfl rfl hb1 hb2 (Big.digs_ok a) (Big.digs_ok b)
  rw [Big.valL_digs,Big.valL_digs,show ((a:Int)+(b:Int)).toNat=a+b by omega] at h
  exact h
theorem zzb {x:Int}:Con Try.prog 123 [.int .i64 x] [] [] (Y:=Unit) (fun y=>True) (fun y=> .bool false) (fun y=>[]) (fun y=>[]):=by
 refine zy Try.func123 rfl rfl rfl (fun c=> ?_)
 show RunC _ _ _ _ _ [(0,.int .i64 x)] [] []
 refine ze<|za<|r_pv rfl rfl (zd rfl)<|zg<|zc<|ze<|za<|r_pv rfl rfl (zb rfl)<|r_pv rfl rfl (zb rfl)<|r_pv rfl rfl (zMa rfl rfl)<|r_pv rfl rfl (zd rfl)<|zg<|zc<|zK ?_
 exact zB Try.results123 () trivial (zx rfl) (by simp) (ho:=(.n:PickO _ _ _)) (.n:SelR _ _ _)
theorem zAb {x:Int}:Con Try.prog 125 [.int .u32 x] [] [] (Y:=Unit) (fun y=>True) (fun y=> .bool false) (fun y=>[]) (fun y=>[]):=by
 refine zy Try.func125 rfl rfl rfl (fun c=> ?_)
 show RunC _ _ _ _ _ [(0,.int .u32 x)] [] []
 refine ze<|za<|r_pv rfl rfl (zd rfl)<|zg<|zc<|ze<|za<|r_pv rfl rfl (zb rfl)<|r_pv rfl rfl (zb rfl)<|r_pv rfl rfl (zMa rfl rfl)<|r_pv rfl rfl (zd rfl)<|zg<|zc<|zK ?_
 exact zB Try.results125 () trivial (zx rfl) (by simp) (ho:=(.n:PickO _ _ _)) (.n:SelR _ _ _)
theorem zRc {u:Int} {v:Int}:Con Try.prog 118 [.int .i64 u,.int .i64 v] [] [] (Y:=Unit) (fun y=>True) (fun y=> .int .i64 (Big.cmp u v)) (fun y=>[]) (fun y=>[]):=by
 refine zy Try.func118 rfl rfl rfl (fun c=> ?_)
 show RunC _ _ _ _ _ [(0,.int .i64 u),(1,.int .i64 v)] [] []
 refine ze<|za<|r_pv rfl rfl (zd rfl)<|zg<|zc<|ze<|za<|r_pv rfl rfl (zb rfl)<|zea rfl rfl (.c rfl .n) ce123 (zzb (x:=u)) (.n)<|r_pv rfl rfl (zd rfl)<|zg<|zc<|ze<|za<|r_pv rfl rfl (zb rfl)<|zea rfl rfl (.c rfl .n) ce123 (zzb (x:=v)) (.n)<|r_pv rfl rfl (zd rfl)<|zg<|zc<|ze<|ze<|za<|r_pv rfl rfl (zb rfl)<|zg<|zc<|zya rfl rfl<|zu<|zc<|ze<|ze<|za<|r_pv rfl rfl (zb rfl)<|zg<|zc<|zya rfl rfl<|zu<|zc<|ze<|ze<|za<|r_pv rfl rfl (zb rfl)<|r_pv rfl rfl (zb rfl)<|r_pv rfl rfl (zE rfl rfl)<|zg<|zc<|zD rfl (fun h1=> ?_) (fun h1=> ?_)
 ·
  refine ze<|za<|r_pv rfl rfl (zd rfl)<|zg<|zc<|zK<|zk ?_
  exact zB Try.results118 () trivial (zx rfl) (by rw [Big.cmp_lt (by omega)]) (ho:=(.n:PickO _ _ _)) (.n:SelR _ _ _)
 ·
  refine zu<|zc<|ze<|ze<|za<|r_pv rfl rfl (zb rfl)<|r_pv rfl rfl (zb rfl)<|r_pv rfl rfl (zOa rfl rfl)<|zg<|zc<|zD rfl (fun h2=> ?_) (fun h2=> ?_)
  ·
   refine ze<|za<|r_pv rfl rfl (zd rfl)<|zg<|zc<|zK<|zk ?_
   exact zB Try.results118 () trivial (zx rfl) (by rw [Big.cmp_gt (by omega)]) (ho:=(.n:PickO _ _ _)) (.n:SelR _ _ _)
  ·
   refine zu<|zc<|ze<|za<|r_pv rfl rfl (zd rfl)<|zg<|zc<|zK ?_
   exact zB Try.results118 () trivial (zx rfl) (by rw [show Big.cmp u v=0 by simp [Big.cmp];omega]) (ho:=(.n:PickO _ _ _)) (.n:SelR _ _ _)
theorem zSc {u:Int} {v:Int}:Con Try.prog 120 [.int .u32 u,.int .u32 v] [] [] (Y:=Unit) (fun y=>True) (fun y=> .int .i64 (Big.cmp u v)) (fun y=>[]) (fun y=>[]):=by
 refine zy Try.func120 rfl rfl rfl (fun c=> ?_)
 show RunC _ _ _ _ _ [(0,.int .u32 u),(1,.int .u32 v)] [] []
 refine ze<|za<|r_pv rfl rfl (zd rfl)<|zg<|zc<|ze<|za<|r_pv rfl rfl (zb rfl)<|zea rfl rfl (.c rfl .n) ce125 (zAb (x:=u)) (.n)<|r_pv rfl rfl (zd rfl)<|zg<|zc<|ze<|za<|r_pv rfl rfl (zb rfl)<|zea rfl rfl (.c rfl .n) ce125 (zAb (x:=v)) (.n)<|r_pv rfl rfl (zd rfl)<|zg<|zc<|ze<|ze<|za<|r_pv rfl rfl (zb rfl)<|zg<|zc<|zya rfl rfl<|zu<|zc<|ze<|ze<|za<|r_pv rfl rfl (zb rfl)<|zg<|zc<|zya rfl rfl<|zu<|zc<|ze<|ze<|za<|r_pv rfl rfl (zb rfl)<|r_pv rfl rfl (zb rfl)<|r_pv rfl rfl (zE rfl rfl)<|zg<|zc<|zD rfl (fun h1=> ?_) (fun h1=> ?_)
 ·
  refine ze<|za<|r_pv rfl rfl (zd rfl)<|zg<|zc<|zK<|zk ?_
  exact zB Try.results120 () trivial (zx rfl) (by rw [Big.cmp_lt (by omega)]) (ho:=(.n:PickO _ _ _)) (.n:SelR _ _ _)
 ·
  refine zu<|zc<|ze<|ze<|za<|r_pv rfl rfl (zb rfl)<|r_pv rfl rfl (zb rfl)<|r_pv rfl rfl (zOa rfl rfl)<|zg<|zc<|zD rfl (fun h2=> ?_) (fun h2=> ?_)
  ·
   refine ze<|za<|r_pv rfl rfl (zd rfl)<|zg<|zc<|zK<|zk ?_
   exact zB Try.results120 () trivial (zx rfl) (by rw [Big.cmp_gt (by omega)]) (ho:=(.n:PickO _ _ _)) (.n:SelR _ _ _)
  ·
   refine zu<|zc<|ze<|za<|r_pv rfl rfl (zd rfl)<|zg<|zc<|zK ?_
   exact zB Try.results120 () trivial (zx rfl) (by rw [show Big.cmp u v=0 by simp [Big.cmp];omega]) (ho:=(.n:PickO _ _ _)) (.n:SelR _ _ _)
theorem back_u32 {b:Nat} {p:Option Addr} {n cap:Nat} {l:List Int} (hn:l.length=n):Back Try.prog 124 [.pointer (some ⟨b,0,none⟩)] [atF b 0 [.slice p n cap],slF (rI .u32) p cap l] n (fun k=>[.int .i64 ((k:Nat):Int),.int .u32 (l.getD k 0)]):=by
  refine back_intro Try.func124 rfl rfl rfl (fun l0 c X Y φ ψ OO RR OS RS H x0 hx0=> ?_)
  show RunC _ _ _ _ _ [(0,.func (.yield l0) #[] #[]),(1,.pointer (some ⟨b,0,none⟩))] (OO x0) (atF b 0 [.slice p n cap] :: slF (rI .u32) p cap l :: RR x0)
  refine zda 1 rfl (fun hL=> ?_)
  refine ze<|za<|r_u rfl rfl (zw (j:=0) 0 ty32 rfl rfl rfl rfl)<|r_pv rfl rfl (zJ Try.underlying32 rfl)<|r_pv rfl rfl (zUa (z:=(((n:Nat):Int) - 1)) rfl rfl (w64 (by omega)))<|r_pv rfl rfl (zd rfl)<|zg<|zc<|zq<|zpd (X:=X×Nat) (fun z=>φ z.1 z.2∧z.2≤n) (fun z=>[(3,.int .i64 (((z.2:Nat):Int) - 1)),(1,.pointer (some ⟨b,0,none⟩)),(0,.func (.yield l0) #[] #[])]) (fun z=>OO z.1) (fun z=>atF b 0 [.slice p n cap] :: slF (rI .u32) p cap l :: RR z.1) (fun z=>z.2) (x0,n) ⟨hx0,Nat.le_refl _⟩ (.c rfl (.c rfl (.c rfl .n)):SubM _ _) (fun w m=>m) ?_
  rintro ⟨x,k⟩ ⟨hx,hk⟩
  dsimp only at hx hk
  try dsimp only
  refine ze<|ze<|za<|r_pv rfl rfl (zb rfl)<|r_pv rfl rfl (zcb rfl rfl)<|zg<|zc<|zD rfl (fun h=> ?_) (fun h=> ?_)
  · refine zu ?_
    refine zc ?_
    obtain ⟨j,rfl⟩:∃j,k=j+1:=⟨k - 1,by omega⟩
    rw [show (((j+1:Nat):Int) - 1)=(j:Int) by omega]
    refine ze<|zq<|ze<|za<|r_pv rfl rfl (zb rfl)<|r_pv rfl rfl (zb rfl)<|r_u rfl rfl (zw (j:=0) 0 ty32 rfl rfl rfl rfl)<|r_pv rfl rfl (zb rfl)<|zI (x0:=l.getD j 0) 1 j rfl Try.underlying32 sz95 rfl rfl rfl hn rfl rfl (gD (d:=0) (by omega)) (fun b2 o3 hok=> ?_)
    refine r_u rfl rfl (zw (j:=0) 0 ty95 rfl rfl rfl rfl)<|zse (X:=X) (Y:=Y) (φ:=fun x'=>φ x' j) (ψ:=ψ) (OO:=OO) (RR:=fun x'=>[atF b 0 [.slice p n cap],slF (rI .u32) p cap l]++RR x') (OS:=OS) (RS:=RS) (vs:=[.int .i64 ((j:Nat):Int),.int .u32 (l.getD j 0)]) rfl rfl rfl (.c rfl (.c rfl .n)) (fun w m=>H x j w (by omega) hx (m.weaken fun h g s r a=>⟨h,g,s,r.2,Hp.le_refl _,Hp.le_refl _,a,fun _ _ e=> .inl e⟩)) (fun x' hx'=> ?_) (fun y hy=> ?_)
    · refine r_pv rfl rfl (zhb rfl) ?_
      refine zg<|zc<|zya rfl rfl<|zu<|zA<|zc<|za<|r_pv rfl rfl (zb rfl)<|r_pv rfl rfl (zUa (z:=((j:Int) - 1)) rfl rfl (w64 (by omega)))<|r_pv rfl rfl (zd rfl)<|zg ?_
      exact zre (x',j) ⟨hx',by show j≤n;omega⟩ (by show j<j+1;omega) (.c rfl (.c rfl (.c rfl .n)):SubM _ _) (fun w m=>m)
    · refine r_pv rfl rfl (zhb rfl) ?_
      refine zg<|zc<|zZ rfl rfl<|zK<|zo<|zk<|zk<|zo ?_
      exact zNc rfl y hy (fun w m=>m)
  · have hk0 : k = 0 := by omega
    subst hk0
    refine zX<|zj<|zj<|zp<|p_endI ?_
    exact zMc rfl x hx (fun w m=>m)
theorem zDc {p:Option Addr} {n:Nat} {cap:Nat}:Con Try.prog 119 [.slice p n cap] [] [] (Y:=Nat) (fun y=>True) (fun y=> .func (.func 124) #[] #[.pointer (some ⟨y,0,none⟩)]) (fun y=>[]) (fun y=>[atF y 0 [.slice p n cap]]):=by
 refine zy Try.func119 rfl rfl rfl (fun c=> ?_)
 show RunC _ _ _ _ _ [(0,.slice p n cap)] [] []
 refine ze<|za<|zV rfl rfl (zla rfl rfl) (fun b1=> ?_)
 refine r_pv rfl rfl (zd rfl)<|zg<|zc<|ze<|za<|r_pv rfl rfl (zIb .n (.c rfl .n))<|r_pv rfl rfl (zd rfl)<|zg<|zc<|zK<|ztd 0 rfl .z ?_
 exact zB Try.results119 b1 trivial (zx rfl) rfl (ho:=(.n:PickO _ _ _)) ((.c (j:=0) rfl .n):SelR _ _ _)
theorem zTc {a:Nat} {b:Nat} {p1:Option Addr} {c1:Nat} {p2:Option Addr} {c2:Nat}:Con Try.prog 111 [.slice p1 ((Big.digs a).length) c1,.slice p2 ((Big.digs b).length) c2] [] [slF (rI .u32) p1 c1 (Big.digs a),slF (rI .u32) p2 c2 (Big.digs b)] (Y:=Unit) (fun y=>True) (fun y=> .int .i64 (Big.cmp (a:Int) (b:Int))) (fun y=>[]) (fun y=>[]):=by
 refine zad Try.func111 rfl rfl rfl (fun c=> ?_)
 show RunC _ _ _ _ _ [(0,.slice p1 ((Big.digs a).length) c1),(1,.slice p2 ((Big.digs b).length) c2)] [] [slF (rI .u32) p1 c1 (Big.digs a),slF (rI .u32) p2 c2 (Big.digs b)]
 refine zda 0 rfl (fun hL0=> ?_)
 refine zda 1 rfl (fun hL1=> ?_)
 refine ze<|za<|zV rfl rfl (zla rfl rfl) (fun b1=> ?_)
 refine zV rfl rfl (zr zr3 rfl) (fun b2=> ?_)
 refine zg<|zc<|ze<|ze<|za<|r_pv rfl rfl (zb rfl)<|r_pv rfl rfl (zJ Try.underlying32 rfl)<|r_u rfl rfl (zf 1 ty32 rfl rfl rfl)<|r_pv rfl rfl (zJ Try.underlying32 rfl)<|r_pv rfl rfl (zMa rfl rfl)<|zg<|zc<|zD rfl (fun hlen=> ?_) (fun hlen=> ?_)
 ·
  refine ze<|za<|r_pv rfl rfl (zb rfl)<|r_pv rfl rfl (zJ Try.underlying32 rfl)<|r_u rfl rfl (zf 1 ty32 rfl rfl rfl)<|r_pv rfl rfl (zJ Try.underlying32 rfl)<|zea rfl rfl (.c rfl (.c rfl .n)) ce118 (zRc (u:=(((Big.digs a).length:Nat):Int)) (v:=(((Big.digs b).length:Nat):Int))) (.n)<|zv 0 rfl rfl rfl rfl rfl sz3 rfl (.take .nil) .z<|zg<|zc<|zK<|zk<|zve ?_
  exact zB Try.results111 () trivial (zrb 0 ty3 rfl rfl rfl) (by rw [Big.cmp_len (by omega)]) (ho:=(.n:PickO _ _ _)) (.n:SelR _ _ _)
 ·
  replace hlen:(Big.digs a).length=(Big.digs b).length:=by omega
  refine zu<|zc<|ze<|ze<|za<|r_pv rfl rfl (zb rfl)<|zfa rfl rfl (.c rfl .n) ce119 (zDc (p:=p1) (n:=(Big.digs a).length) (cap:=c1)) (.n) ?_
  rintro b3 -
  dsimp only [List.append_eq,List.nil_append,List.cons_append]
  refine zg<|zc<|zq<|zue (fa:=[atF b3 0 [.slice p1 ((Big.digs a).length) c1],slF (rI .u32) p1 c1 (Big.digs a)]) (N:=((Big.digs a).length)) (encs:=fun k=>[.int .i64 ((k:Nat):Int),.int .u32 ((Big.digs a).getD k 0)]) rfl ce124 (back_u32 (by first|rfl|assumption|(simp_all;done)|omega)) (fun _=>rfl) rfl (X:=Unit) (Y:=Unit) (fun x k=>k≤(Big.digs a).length∧(Big.digs a).drop k=(Big.digs b).drop k) (fun y=>True) (fun x=>[boxA b2 3 [.int .i64 0],boxA b1 32 [.slice p2 ((Big.digs b).length) c2]]) (fun x=>[slF (rI .u32) p2 c2 (Big.digs b)]) (fun y=>[boxA b2 3 [.int .i64 (Big.cmp (a:Int) (b:Int))],boxA b1 32 [.slice p2 ((Big.digs b).length) c2]]) (fun y=>[atF b3 0 [.slice p1 ((Big.digs a).length) c1],slF (rI .u32) p1 c1 (Big.digs a),slF (rI .u32) p2 c2 (Big.digs b)]) (fun k=>[(6,.int .u32 ((Big.digs a).getD k 0)),(5,.int .i64 ((k:Nat):Int)),(20,.int .u32 ((Big.digs a).getD k 0)),(19,.int .i64 ((k:Nat):Int)),(18,.func (.func 124) #[] #[.pointer (some ⟨b3,0,none⟩)]),(17,.slice p1 ((Big.digs a).length) c1),(11,.bool (decide ((((Big.digs a).length:Nat):Int)≠(((Big.digs b).length:Nat):Int)))),(10,.int .i64 (((Big.digs b).length:Nat):Int)),(9,.slice p2 ((Big.digs b).length) c2),(8,.int .i64 (((Big.digs a).length:Nat):Int)),(7,.slice p1 ((Big.digs a).length) c1),(4,.pointer (some ⟨b2,0,none⟩)),(3,.pointer (some ⟨b1,0,none⟩)),(0,.slice p1 ((Big.digs a).length) c1),(1,.slice p2 ((Big.digs b).length) c2)]) () (show ((Big.digs a).length)≤(Big.digs a).length∧(Big.digs a).drop ((Big.digs a).length)=(Big.digs b).drop ((Big.digs a).length) from by exact ⟨Nat.le_refl _,by rw [List.drop_length,hlen,List.drop_length]⟩) (ho:=((.of [0,0] rfl):PickO _ _ _)) ((.of [0,1,2] rfl):SelR _ _ _) ?_ ?_ ?_ ?_
  ·
   intro l k O' R' Q' hP
   refine ze<|za<|r_pv rfl rfl (zd rfl)<|zg<|zc<|za<|r_pv rfl rfl (zd rfl)<|zg ?_
   exact hP
  ·
   rintro l4 D5 o6 o7 ⟨⟩ k hkN hI
   replace hI:(k+1)≤(Big.digs a).length∧(Big.digs a).drop (k+1)=(Big.digs b).drop (k+1):=hI
   try dsimp only
   have hg1:=Big.okL_getD (Big.digs_ok a) k
   have hg2:=Big.okL_getD (Big.digs_ok b) k
   refine zq<|ze<|za<|r_pv rfl rfl (zb rfl)<|r_u rfl rfl (zf 3 ty32 rfl rfl rfl)<|r_pv rfl rfl (zb rfl)<|zI (x0:=((Big.digs b).getD k 0)) 2 k rfl Try.underlying32 sz95 rfl rfl rfl (by first|rfl|assumption|(simp_all;done)|omega) rfl rfl (gD (d:=0) (by omega)) (fun b8 o9 hok10=> ?_)
   replace hok10:=zma.1 hok10
   refine r_u rfl rfl (zw (j:=0) 0 ty95 rfl rfl rfl rfl)<|r_pv rfl rfl (zMa rfl rfl)<|zg<|zc<|zD rfl (fun hne=> ?_) (fun hne=> ?_)
   ·
    refine ze<|za<|r_pv rfl rfl (zb rfl)<|r_u rfl rfl (zf 3 ty32 rfl rfl rfl)<|r_pv rfl rfl (zb rfl)<|zI (x0:=((Big.digs b).getD k 0)) 3 k rfl Try.underlying32 sz95 rfl rfl rfl (by first|rfl|assumption|(simp_all;done)|omega) rfl rfl (gD (d:=0) (by omega)) (fun b11 o12 hok13=> ?_)
    replace hok13:=zma.1 hok13
    refine r_u rfl rfl (zw (j:=0) 0 ty95 rfl rfl rfl rfl)<|zea rfl rfl (.c rfl (.c rfl .n)) ce120 (zSc (u:=((Big.digs a).getD k 0)) (v:=((Big.digs b).getD k 0))) (.n)<|zv 2 rfl rfl rfl rfl rfl sz3 rfl (.take .nil) (.s (.s .z))<|zg<|zc<|zK<|zo ?_
    exact zOc () (show True from by first|trivial|omega) (ho:=((.c (i:=0) rfl (.c (i:=0) rfl (.e (i:=0) rfl (by rw [Big.cmp_at hlen (by omega) hI.2 hne]) (.c (i:=0) rfl .n)))):PickO _ _ _)) ((.of [2,3,4] rfl):SelR _ _ _)
   ·
    refine zu<|zA ?_
    exact zte () (show k≤(Big.digs a).length∧(Big.digs a).drop k=(Big.digs b).drop k from by exact ⟨by omega,Big.drop_more (by omega) (by omega) hI.2 (Decidable.not_not.1 hne)⟩) (ho:=((.of [0,0,0,0] rfl):PickO _ _ _)) ((.of [1,2,3] rfl):SelR _ _ _)
  ·
   rintro D14 ⟨⟩ hI
   replace hI:0≤(Big.digs a).length∧(Big.digs a).drop 0=(Big.digs b).drop 0:=hI
   try dsimp only
   have heq:(Big.digs a)=(Big.digs b):=by simpa using hI.2
   have hab:=Big.cmp_eq heq
   refine zA<|zc<|ze<|za<|zv 1 rfl rfl rfl rfl rfl sz3 rfl (.take .nil) (.s .z)<|zg<|zc<|zK<|zoe 0 rfl rfl ?_
   exact zB Try.results111 () trivial (zrb 0 ty3 rfl rfl rfl) (by rw [hab];simp [Big.cmp]) (ho:=(.n:PickO _ _ _)) (.n:SelR _ _ _)
  ·
   rintro D15 ⟨⟩ hS
   replace hS:True:=hS
   try dsimp only
   refine zo<|zk<|zoe 0 rfl rfl ?_
   exact zB Try.results111 () trivial (zrb 0 ty3 rfl rfl rfl) rfl (ho:=(.n:PickO _ _ _)) (.n:SelR _ _ _)
theorem zid {g:Int}:Con Try.prog 122 [.int .u32 g] [] [] (Y:=Unit) (fun y=>True) (fun y=> .bool (decide (1000000000≤g))) (fun y=>[]) (fun y=>[]):=by
 refine zy Try.func122 rfl rfl rfl (fun c=> ?_)
 show RunC _ _ _ _ _ [(0,.int .u32 g)] [] []
 refine ze<|za<|r_pv rfl rfl (zd rfl)<|zg<|zc<|ze<|za<|r_pv rfl rfl (zb rfl)<|r_pv rfl rfl (zcb rfl rfl)<|r_pv rfl rfl (zd rfl)<|zg<|zc<|zK ?_
 exact zB Try.results122 () trivial (zx rfl) rfl (ho:=(.n:PickO _ _ _)) (.n:SelR _ _ _)
theorem zWb {p:Option Addr} {n:Nat} {cap:Nat} {l:List Int} (hn:l.length=n):Con Try.prog 126 [.slice p n cap,.func (.func 122) #[] #[]] [] [slF (rI .u32) p cap l] (Y:=Int) (fun y=>(0≤y↔∃g∈l,1000000000≤g)) (fun y=> .int .i64 y) (fun y=>[]) (fun y=>[]):=by
 refine zy Try.func126 rfl rfl rfl (fun c=> ?_)
 show RunC _ _ _ _ _ [(0,.slice p n cap),(1,.func (.func 122) #[] #[])] [] [slF (rI .u32) p cap l]
 refine zda 0 rfl (fun hL0=> ?_)
 refine ze<|za<|r_pv rfl rfl (zd rfl)<|zg<|zc<|ze<|ze<|za<|r_pv rfl rfl (zb rfl)<|r_pv rfl rfl (zJ Try.underlying32 rfl)<|r_pv rfl rfl (zb rfl)<|zg<|zc<|zq<|zha (X:=Nat) (fun x:Nat=>x≤n∧∀j,j<x→l.getD j 0<1000000000) (fun x=>[(8,.int .i64 ((x:Nat):Int)),(7,.int .i64 ((n:Nat):Int)),(0,.slice p n cap),(1,.func (.func 122) #[] #[])]) (fun x=>[]) (fun x=>[slF (rI .u32) p cap l]) (fun x:Nat=>n - x) 0 (show 0≤n∧∀j,j<0→l.getD j 0<1000000000 from by exact ⟨by omega,fun j h=>by omega⟩) ((.e rfl (by first|rfl|(congr 1;omega)|simp_all) (.of rfl)):SubM _ _) (ho:=(.n:PickO _ _ _)) ((.c (j:=0) rfl .n):SelR _ _ _) ?_
 rintro i hI
 replace hI:i≤n∧∀j,j<i→l.getD j 0<1000000000:=hI
 try dsimp only
 obtain ⟨hi,hall⟩:=hI
 refine ze<|za<|r_pv rfl rfl (zE rfl rfl)<|zg<|zc<|ze<|zD rfl (fun h1=> ?_) (fun h1=> ?_)
 ·
  refine zu<|zc<|ze<|zq<|ze<|za<|r_pv rfl rfl (zb rfl)<|r_pv rfl rfl (zd rfl)<|zg<|zc<|ze<|za<|r_pv rfl rfl (zb rfl)<|r_pv rfl rfl (zb rfl)<|r_pv rfl rfl (zb rfl)<|zI (x0:=(l.getD i 0)) 0 i rfl Try.underlying32 sz95 rfl rfl rfl (by first|rfl|assumption|(simp_all;done)|omega) rfl rfl (gD (d:=0) (by omega)) (fun b2 o3 hok4=> ?_)
  replace hok4:=zma.1 hok4
  refine r_u rfl rfl (zw (j:=0) 0 ty95 rfl rfl rfl rfl)<|zvc (first:=[]) (cap:=[]) rfl rfl rfl (.c rfl .n) ce122 (zid (g:=(l.getD i 0))) (.n) ?_
  rintro ⟨⟩ -
  dsimp only [List.append_eq,List.nil_append,List.cons_append]
  refine zg<|zc<|zD rfl (fun hb=> ?_) (fun hb=> ?_)
  ·
   refine ze<|za<|r_pv rfl rfl (zb rfl)<|r_pv rfl rfl (zd rfl)<|zg<|zc<|zK<|zo<|zk<|zk<|zo<|zk ?_
   exact zB Try.results126 ((i:Nat):Int) (⟨fun _=>⟨l.getD i 0,Big.getD_mem (by omega),hb⟩,fun _=>by omega⟩) (zx rfl) rfl (ho:=(.n:PickO _ _ _)) (.n:SelR _ _ _)
  ·
   refine zu<|zA<|zc<|za<|r_pv rfl rfl (zC (z:=(((i+1):Nat):Int)) rfl rfl (w64 (by omega)))<|r_pv rfl rfl (zb rfl)<|zg<|zba (i+1) (show (i+1)≤n∧∀j,j<(i+1)→l.getD j 0<1000000000 from by refine ⟨by omega,fun j hj=> ?_⟩;by_cases e:j=i;subst e;omega;exact hall j (by omega)) (by show n - (i+1)<n - i;omega) ((.of rfl):SubM _ _) (ho:=(.n:PickO _ _ _)) ((.c (j:=1) rfl .n):SelR _ _ _)
 ·
  refine zX<|zj<|zj<|zp<|zc<|ze<|za<|r_pv rfl rfl (zd rfl)<|zg<|zc<|zK ?_
  exact zB Try.results126 (-1) (⟨fun h=>by omega,fun ⟨g,hg,hb⟩=>by obtain ⟨j,hj,e⟩:=Big.mem_getD hg;have:=hall j (by omega);omega⟩) (zx rfl) rfl (ho:=(.n:PickO _ _ _)) (.n:SelR _ _ _)
theorem zBb {p:Option Addr} {n:Nat} {cap:Nat} {l:List Int} (hn:l.length=n):Con Try.prog 121 [.slice p n cap,.func (.func 122) #[] #[]] [] [slF (rI .u32) p cap l] (Y:=Unit) (fun y=>True) (fun y=> .bool (decide (∃g∈l,1000000000≤g))) (fun y=>[]) (fun y=>[]):=by
 refine zy Try.func121 rfl rfl rfl (fun c=> ?_)
 show RunC _ _ _ _ _ [(0,.slice p n cap),(1,.func (.func 122) #[] #[])] [] [slF (rI .u32) p cap l]
 refine zda 0 rfl (fun hL0=> ?_)
 refine ze<|za<|r_pv rfl rfl (zd rfl)<|zg<|zc<|ze<|za<|r_pv rfl rfl (zb rfl)<|r_pv rfl rfl (zb rfl)<|zfa rfl rfl (.c rfl (.c rfl .n)) ce126 (zWb (p:=p) (n:=n) (cap:=cap) (l:=l) (hn:=by assumption)) (.c (j:=0) rfl .n) ?_
 rintro r1 hr
 dsimp only [List.append_eq,List.nil_append,List.cons_append]
 replace hr:(0≤r1↔∃g∈l,1000000000≤g):=hr
 refine r_pv rfl rfl (zcb rfl rfl)<|r_pv rfl rfl (zd rfl)<|zg<|zc<|zK ?_
 exact zB Try.results121 () trivial (zx rfl) (congrArg Value.bool (decide_eq_decide.2 hr.symm)) (ho:=(.n:PickO _ _ _)) (.n:SelR _ _ _)
theorem zLd {s:Bool} {p:Option Addr} {n:Nat} {cap:Nat} {l:List Int} (hn:l.length=n):Con Try.prog 113 [.agg #[.bool s,.slice p n cap]] [] [slF (rI .u32) p cap l] (Y:=Unit) (fun y=>True) (fun y=> .bool (decide (Big.canon s l))) (fun y=>[]) (fun y=>[]):=by
 refine zy Try.func113 rfl rfl rfl (fun c=> ?_)
 show RunC _ _ _ _ _ [(0,.agg #[.bool s,.slice p n cap])] [] [slF (rI .u32) p cap l]
 refine zda 0 rfl (fun hL0=> ?_)
 refine ze<|za<|zV rfl rfl (zla rfl rfl) (fun b1=> ?_)
 refine r_pv rfl rfl (zd rfl)<|zg<|zc<|ze<|za<|r_pv rfl rfl (zn Try.underlying34 rfl sz32 rfl rfl)<|r_u rfl rfl (zf 0 ty32 rfl rfl rfl)<|r_pv rfl rfl (zJ Try.underlying32 rfl)<|r_pv rfl rfl (zd rfl)<|zg<|zc<|ze<|ze<|za<|r_pv rfl rfl (zb rfl)<|r_pv rfl rfl (zFa rfl rfl)<|zg<|zc<|zD rfl (fun h0=> ?_) (fun h0=> ?_)
 ·
  refine ze<|za<|r_pv rfl rfl (zn Try.underlying34 rfl sz4 rfl rfl)<|r_u rfl rfl (zf 0 ty4 rfl rfl rfl)<|r_pv rfl rfl (zhb rfl)<|r_pv rfl rfl (zd rfl)<|zg<|zc<|zK<|zk ?_
  exact zB Try.results113 () trivial (zx rfl) (congrArg Value.bool (by have:l.length=0:=(by omega);cases s <;> simp [Big.canon,this])) (ho:=(.n:PickO _ _ _)) (.n:SelR _ _ _)
 ·
  refine zu<|zc<|zLa (X:=Unit) (fun x=>True) (fun x=>[(2,.bool (decide (((l.getD ((((n:Nat):Int) - 1).toNat) 0)≠0)∧(¬(∃g∈l,1000000000≤g)))))]) (fun x=>[boxA b1 34 [.bool s,.slice p n cap]]) (fun x=>[slF (rI .u32) p cap l]) ?_ ?_
  ·
   refine za<|r_pv rfl rfl (zn Try.underlying34 rfl sz32 rfl rfl)<|r_u rfl rfl (zf 0 ty32 rfl rfl rfl)<|r_pv rfl rfl (zb rfl)<|r_pv rfl rfl (zUa (z:=(((n:Nat):Int) - 1)) rfl rfl (w64 (by omega)))<|zI (x0:=(l.getD ((((n:Nat):Int) - 1).toNat) 0)) 0 ((((n:Nat):Int) - 1).toNat) rfl Try.underlying32 sz95 rfl rfl rfl (by first|rfl|assumption|(simp_all;done)|omega) rfl (by omega) (gD (d:=0) (by omega)) (fun b2 o3 hok4=> ?_)
   replace hok4:=zma.1 hok4
   refine r_u rfl rfl (zw (j:=0) 0 ty95 rfl rfl rfl rfl)<|r_pv rfl rfl (zMa rfl rfl)<|zpa rfl rfl (zb rfl) (fun h5=> ?_) (fun h5=> ?_)
   ·
    refine r_pv rfl rfl (zn Try.underlying34 rfl sz32 rfl rfl)<|r_u rfl rfl (zf 0 ty32 rfl rfl rfl)<|zea rfl rfl (.c rfl (.c rfl .n)) ce121 (zBb (p:=p) (n:=n) (cap:=cap) (l:=l) (hn:=by assumption)) (.c (j:=1) rfl .n)<|r_pv rfl rfl (zJc rfl)<|r_pv rfl rfl (zH rfl rfl)<|r_pv rfl rfl (zd rfl)<|zg ?_
    exact zja () (show True from by first|trivial|omega|simp_all) ((.e rfl (congrArg Value.bool (by simp_all)) .n):SubM _ _) (ho:=((.c (i:=0) rfl .n):PickO _ _ _)) ((.c (j:=1) rfl .n):SelR _ _ _)
   ·
    refine zi rfl rfl<|zi rfl rfl<|zi rfl rfl<|zi rfl rfl<|r_pv rfl rfl (zH rfl rfl)<|r_pv rfl rfl (zd rfl)<|zg ?_
    exact zja () (show True from by first|trivial|omega|simp_all) ((.e rfl (congrArg Value.bool (by simp_all)) .n):SubM _ _) (ho:=((.c (i:=0) rfl .n):PickO _ _ _)) ((.c (j:=1) rfl .n):SelR _ _ _)
  ·
   rintro ⟨⟩ -
   try dsimp only
   refine zK ?_
   exact zB Try.results113 () trivial (zx rfl) (congrArg Value.bool (decide_eq_decide.2 (by rw [Big.canon_more (by omega),hn];have e:((n:Int) - 1).toNat=n - 1:=(by omega);simp [e]))) (ho:=(.n:PickO _ _ _)) (.n:SelR _ _ _)
theorem zZa {s:Bool} {p:Option Addr} {n:Nat} {cap:Nat} {l:List Int} (hn:l.length=n):Con Try.prog 91 [.agg #[.bool s,.slice p n cap]] [] [slF (rI .u32) p cap l] (Y:=(Option Addr)×Nat) (fun y=>True) (fun y=> .slice (y.1) ((Big.digs ((Big.raw s l).natAbs)).length) (y.2)) (fun y=>[]) (fun y=>[slF (rI .u32) (y.1) (y.2) (Big.digs ((Big.raw s l).natAbs))]):=by
 refine zy Try.func91 rfl rfl rfl (fun c=> ?_)
 show RunC _ _ _ _ _ [(0,.agg #[.bool s,.slice p n cap])] [] [slF (rI .u32) p cap l]
 refine zda 0 rfl (fun hL0=> ?_)
 refine zLc 0 rfl (fun hE0=> ?_)
 have hnn:Big.nn l:=fun g hg=>(zma.1 (hE0 g hg)).1
 refine ze<|za<|zV rfl rfl (zla rfl rfl) (fun b1=> ?_)
 refine r_pv rfl rfl (zd rfl)<|zg<|zc<|ze<|ze<|za<|r_u rfl rfl (zh 0 ty34 rfl rfl (.take (.take .nil)))<|zea rfl rfl (.c rfl .n) ce113 (zLd (s:=s) (p:=p) (n:=n) (cap:=cap) (l:=l) (hn:=by assumption)) (.c (j:=0) rfl .n)<|r_pv rfl rfl (zJc rfl)<|zg<|zc<|zD rfl (fun hc=> ?_) (fun hc=> ?_)
 ·
  refine ze<|za<|r_pv rfl rfl (zd rfl)<|zg<|zc<|zK<|zk ?_
  have hd:Big.digs (Big.raw s l).natAbs=[]:=by rw [Big.raw_digs hnn,if_neg hc]
  refine zwc (rI .u32) ?_
  exact zB Try.results91 (none,0) trivial (zx rfl) (by rw [hd];rfl) (ho:=(.n:PickO _ _ _)) ((.e (j:=0) rfl (by rw [hd]) .n):SelR _ _ _)
 ·
  refine zu<|zc<|ze<|za<|r_pv rfl rfl (zn Try.underlying34 rfl sz32 rfl rfl)<|r_u rfl rfl (zf 0 ty32 rfl rfl rfl)<|r_pv rfl rfl (zd rfl)<|zg<|zc<|zK ?_
  have hd:Big.digs (Big.raw s l).natAbs=l:=by rw [Big.raw_digs hnn,if_pos (Decidable.not_not.1 hc)]
  exact zB Try.results91 (p,cap) trivial (zx rfl) (by rw [hd,hn]) (ho:=(.n:PickO _ _ _)) ((.e (j:=0) rfl (by rw [hd]) .n):SelR _ _ _)
theorem zge {s:Bool} {p:Option Addr} {n:Nat} {cap:Nat} {l:List Int} (hn:l.length=n) (ho:Big.okL l):Con Try.prog 88 [.bool s,.slice p n cap] [] [slF (rI .u32) p cap l] (Y:=(Option Addr)×Nat) (fun y=>True) (fun y=> .agg #[.bool (decide ((Big.sg s (Big.valL l))<0)),.slice (y.1) ((Big.digs ((Big.sg s (Big.valL l)).natAbs)).length) (y.2)]) (fun y=>[]) (fun y=>[slF (rI .u32) (y.1) (y.2) (Big.digs ((Big.sg s (Big.valL l)).natAbs))]):=by
 refine zy Try.func88 rfl rfl rfl (fun c=> ?_)
 show RunC _ _ _ _ _ [(0,.bool s),(1,.slice p n cap)] [] [slF (rI .u32) p cap l]
 refine zda 0 rfl (fun hL0=> ?_)
 have htr:Big.trimL l=Big.digs (Big.sg s (Big.valL l)).natAbs:=by rw [Big.sg_abs (Big.valL_nonneg ho),Big.digs_valL ho]
 refine ze<|za<|zV rfl rfl (zr zr34 rfl) (fun b1=> ?_)
 refine zg<|zc<|ze<|za<|r_pv rfl rfl (zb rfl)<|zfa rfl rfl (.c rfl .n) ce109 (zFb (p:=p) (n:=n) (cap:=cap) (l:=l) (hn:=by assumption)) (.c (j:=0) rfl .n) ?_
 rintro ⟨⟩ -
 dsimp only [List.append_eq,List.nil_append,List.cons_append]
 refine r_pv rfl rfl (zd rfl)<|zg<|zc<|ze<|ze<|za<|r_pv rfl rfl (zb rfl)<|r_pv rfl rfl (zJ Try.underlying32 rfl)<|r_pv rfl rfl (zFa rfl rfl)<|zg<|zc<|zD rfl (fun h0=> ?_) (fun h0=> ?_)
 ·
  refine ze<|za<|r_pv rfl rfl (zM zr34 rfl Try.underlying34 (.c sz4 (.c sz32 .n)) .n .n)<|zv 0 rfl rfl rfl rfl rfl sz34 rfl (.take (.take .nil)) .z<|zg<|zc<|zK<|zk ?_
  have hz:Big.valL l=0:=Big.trim_zero ho (by omega)
  refine zwc (rI .u32) ?_
  exact zB Try.results88 (none,0) trivial (zR 0 ty34 rfl rfl (.take (.take .nil))) (by rw [hz,Big.sg_zero];rfl) (ho:=(.n:PickO _ _ _)) ((.e (j:=0) rfl (by rw [hz,Big.sg_zero];rfl) .n):SelR _ _ _)
 ·
  refine zu<|zc<|ze<|za<|r_pv rfl rfl (zb rfl)<|r_pv rfl rfl (zb rfl)<|r_pv rfl rfl (zM zr34 rfl Try.underlying34 (.c sz4 (.c sz32 .n)) (.c rfl (.c rfl .n)) (.c rfl rfl rfl (.take .nil) (.c rfl rfl rfl (.skip (.take .nil)) .n)))<|zv 0 rfl rfl rfl rfl rfl sz34 rfl (.take (.take .nil)) .z<|zg<|zc<|zK ?_
  have hp:0<Big.valL l:=Big.valL_pos ho (fun e=>h0 (by rw [e];rfl))
  exact zB Try.results88 (p,cap) trivial (zR 0 ty34 rfl rfl (.take (.take .nil))) (by rw [Big.sg_pos hp,htr]) (ho:=(.n:PickO _ _ _)) ((.e (j:=0) rfl (by rw [htr]) .n):SelR _ _ _)
theorem zjb {s:Bool} {a:Nat} {p:Option Addr} {cap:Nat}:Con Try.prog 88 [.bool (s),.slice (p) ((Big.digs (a)).length) (cap)] [] [slF (rI .u32) (p) (cap) (Big.digs (a))] (Y:=(Option Addr)×(Nat)) (fun y=>True) (fun y=> .agg #[.bool (decide ((Big.sg s (a:Int))<0)),.slice (y.1) ((Big.digs ((Big.sg s (a:Int)).natAbs)).length) (y.2)]) (fun y=>[]) (fun y=>[slF (rI .u32) (y.1) (y.2) (Big.digs ((Big.sg s (a:Int)).natAbs))]):=by
  have h:= @zge s p (Big.digs a).length cap (Big.digs a) rfl (Big.digs_ok a)
  rw [Big.valL_digs] at h
  exact h
theorem zEc {n0:Nat} (hn0:n0<18446744073709551616):Con Try.prog 89 [.int .u64 ((n0:Nat):Int)] [] [] (Y:=(Option Addr)×Nat) (fun y=>True) (fun y=> .slice (y.1) ((Big.digs n0).length) (y.2)) (fun y=>[]) (fun y=>[slF (rI .u32) (y.1) (y.2) (Big.digs n0)]):=by
 refine zy Try.func89 rfl rfl rfl (fun c=> ?_)
 show RunC _ _ _ _ _ [(0,.int .u64 ((n0:Nat):Int))] [] []
 refine ze<|za<|r_pv rfl rfl (zd rfl)<|zg<|zc<|ze<|za<|r_pv rfl rfl (zd rfl)<|zg<|zc<|ze<|zq<|zic 95 (rI .u32)<|zha (X:=Nat×(Option Addr)×Nat×(List Int)) (fun x:Nat×(Option Addr)×Nat×(List Int)=>x.1≤n0∧x.2.2.2++Big.digs x.1=Big.digs n0) (fun x=>[(3,.slice (x.2.1) (x.2.2.2.length) (x.2.2.1)),(0,.int .u64 ((x.1:Nat):Int)),(2,.slice none 0 0)]) (fun x=>[rowA 95 (rI .u32) (x.2.1) (x.2.2.1) (x.2.2.2)]) (fun x=>[]) (fun x:Nat×(Option Addr)×Nat×(List Int)=>x.1) (n0,none,0,[]) (show n0≤n0∧([])++Big.digs n0=Big.digs n0 from by exact ⟨Nat.le_refl _,rfl⟩) ((.e rfl (by first|rfl|(congr 1;omega)|simp_all) (.c rfl (.c rfl .n))):SubM _ _) (ho:=((.c (i:=0) rfl .n):PickO _ _ _)) (.n:SelR _ _ _) ?_
 rintro ⟨n,p,c,os⟩ hI
 replace hI:n≤n0∧os++Big.digs n=Big.digs n0:=hI
 try dsimp only
 obtain ⟨hnn,hos⟩:=hI
 have hlen:os.length+(Big.digs n).length≤3:=by have:=congrArg List.length hos;rw [List.length_append] at this;have:=Big.zCd hn0;omega
 refine ze<|ze<|za<|r_pv rfl rfl (zb rfl)<|r_pv rfl rfl (zOa rfl rfl)<|zg<|zc<|zD rfl (fun hc=> ?_) (fun hc=> ?_)
 ·
  refine zu<|zc<|ze<|zq<|za<|r_pv rfl rfl (zb rfl)<|r_pv rfl rfl (zb rfl)<|r_pv rfl rfl (zgb (z:=(((n%1000000000):Nat):Int)) rfl rfl (by omega) (remN (by omega) (by omega)))<|r_pv rfl rfl (zJa (z:=(((n%1000000000):Nat):Int)) rfl (by rw [Try.underlying123];rfl) Try.underlying95 (wu32 (by omega)))<|zEa rfl rfl (zz (enc:=fun z:Int=>[.int .u32 z]) (ok:=InK .u32) (h1:=fun _=>rfl) (h2:=fun _=>rfl) (k:=1) Try.underlying32 inf95 rfl (by decide) (by decide) (by decide) (.c (x:=(((n%1000000000):Nat):Int)) rfl rfl (fun _ _=>by exact zma.2 (by omega)) .n)) (fun b1 _=> ?_)
  refine zxa 0 rfl .z<|zBa 1 rfl rfl rfl (zW 0 rfl Try.underlying32 inf95 (by decide) rfl rfl (by first|rfl|assumption|(simp_all;done)|omega) rfl (by first|rfl|assumption|(simp_all;done)|omega) (by omega) (by omega)) (fun _=>(.s .z)) ?_
  rintro ⟨p2,c3⟩ -
  dsimp only [List.append_eq,List.nil_append,List.cons_append]
  refine r_pv rfl rfl (zd rfl)<|zg<|zA<|zc<|za<|r_pv rfl rfl (zb rfl)<|r_pv rfl rfl (zrc (z:=(((n / 1000000000):Nat):Int)) rfl rfl (by omega) (by rw [quoN (z:=(((n / 1000000000):Nat):Int)) (by omega) (by omega)];exact wu64 (by omega)))<|r_pv rfl rfl (zd rfl)<|zg<|zba ((n / 1000000000),p2,c3,os++[((n%1000000000:Nat):Int)]) (show (n / 1000000000)≤n0∧(os++[((n%1000000000:Nat):Int)])++Big.digs (n / 1000000000)=Big.digs n0 from by exact ⟨by omega,Big.split_step (by omega) hos⟩) (by show n / 1000000000<n;omega) ((.e rfl (by simp) (.c rfl (.c rfl .n))):SubM _ _) (ho:=((.e (i:=1) rfl (by first|rfl|(congr 1;omega)|simp_all) .n):PickO _ _ _)) (.n:SelR _ _ _)
 ·
  refine zX<|zj<|zj<|zp<|zc<|ze<|za<|r_pv rfl rfl (zb rfl)<|r_pv rfl rfl (zd rfl)<|zg<|zc<|zK ?_
  have hz:n=0:=by omega
  subst hz
  have hd:os=Big.digs n0:=by simpa [Big.digs_zero] using hos
  refine zKa 0 rfl .z ?_
  exact zB Try.results89 (p,c) trivial (zx rfl) (by rw [hd]) (ho:=(.n:PickO _ _ _)) ((.e (j:=0) rfl (by rw [hd]) .n):SelR _ _ _)
theorem con_Of {z:Int} (hz: -9223372036854775808≤z∧z≤9223372036854775807):Con Try.prog 57 [.int .i64 z] [] [] (Y:=(Option Addr)×Nat) (fun y=>True) (fun y=> .agg #[.bool (decide (z<0)),.slice (y.1) ((Big.digs ((z).natAbs)).length) (y.2)]) (fun y=>[]) (fun y=>[slF (rI .u32) (y.1) (y.2) (Big.digs ((z).natAbs))]):=by
 refine zy Try.func57 rfl rfl rfl (fun c=> ?_)
 show RunC _ _ _ _ _ [(0,.int .i64 z)] [] []
 refine ze<|za<|zV rfl rfl (zr zr34 rfl) (fun b1=> ?_)
 refine zg<|zc<|ze<|za<|r_pv rfl rfl (zb rfl)<|r_pv rfl rfl (zJa (z:=(z%18446744073709551616)) rfl (by rw [Try.underlying3];rfl) Try.underlying123 (wu64m (by omega)))<|r_pv rfl rfl (zd rfl)<|zg<|zc<|ze<|ze<|za<|r_pv rfl rfl (zb rfl)<|r_pv rfl rfl (zE rfl rfl)<|zg<|zc<|zD rfl (fun hs=> ?_) (fun hs=> ?_)
 ·
  refine za<|r_pv rfl rfl (zb rfl)<|r_pv rfl rfl (zme (z:=((z.natAbs:Nat):Int)) rfl (wu64m (by omega)))<|r_pv rfl rfl (zd rfl)<|zg<|zc<|ze<|za<|r_pv rfl rfl (zb rfl)<|r_pv rfl rfl (zE rfl rfl)<|r_pv rfl rfl (zb rfl)<|zfa rfl rfl (.c rfl .n) ce89 (zEc (n0:=z.natAbs) (hn0:=by omega)) (.n) ?_
  rintro ⟨p22,c23⟩ -
  dsimp only [List.append_eq,List.nil_append,List.cons_append]
  refine zfa rfl rfl (.c rfl (.c rfl .n)) ce88 (zjb (s:=decide (z<0)) (a:=z.natAbs) (p:=p22) (cap:=c23)) (.c (j:=0) rfl .n) ?_
  rintro ⟨p24,c25⟩ -
  dsimp only [List.append_eq,List.nil_append,List.cons_append]
  refine zv 0 rfl rfl rfl rfl rfl sz34 rfl (.take (.take .nil)) .z<|zg<|zc<|zK ?_
  have hsg:Big.sg (decide (z<0)) (z.natAbs:Int)=z:=Big.sg_big z
  exact zB Try.results57 (p24,c25) trivial (zR 0 ty34 rfl rfl (.take (.take .nil))) (by rw [hsg]) (ho:=(.n:PickO _ _ _)) ((.e (j:=0) rfl (by rw [hsg]) .n):SelR _ _ _)
 ·
  have e6:((z%18446744073709551616):Int)=((z.natAbs:Nat):Int):=by omega
  rw [e6]
  refine zu<|zc<|ze<|za<|r_pv rfl rfl (zb rfl)<|r_pv rfl rfl (zE rfl rfl)<|r_pv rfl rfl (zb rfl)<|zfa rfl rfl (.c rfl .n) ce89 (zEc (n0:=z.natAbs) (hn0:=by omega)) (.n) ?_
  rintro ⟨p27,c28⟩ -
  dsimp only [List.append_eq,List.nil_append,List.cons_append]
  refine zfa rfl rfl (.c rfl (.c rfl .n)) ce88 (zjb (s:=decide (z<0)) (a:=z.natAbs) (p:=p27) (cap:=c28)) (.c (j:=0) rfl .n) ?_
  rintro ⟨p29,c210⟩ -
  dsimp only [List.append_eq,List.nil_append,List.cons_append]
  refine zv 0 rfl rfl rfl rfl rfl sz34 rfl (.take (.take .nil)) .z<|zg<|zc<|zK ?_
  have hsg:Big.sg (decide (z<0)) (z.natAbs:Int)=z:=Big.sg_big z
  exact zB Try.results57 (p29,c210) trivial (zR 0 ty34 rfl rfl (.take (.take .nil))) (by rw [hsg]) (ho:=(.n:PickO _ _ _)) ((.e (j:=0) rfl (by rw [hsg]) .n):SelR _ _ _)
theorem zTb {z:Int} (hz: -9223372036854775808≤z∧z≤9223372036854775807):Con Try.prog 57 [.int .i64 (z)] [] [] (Y:=(Wd)) (fun y=>True) (fun y=> .agg #[y.b,y.l]) (fun y=>[]) (fun y=>[zF y (z)]):=by
  exact zCc (con_Of hz)
theorem zFc {a:Nat} {b:Nat} {p1:Option Addr} {c1:Nat} {p2:Option Addr} {c2:Nat} (hb1:(Big.digs a).length≤1099511627776) (hb2:(Big.digs b).length≤1099511627776) (hab:b≤a):Con Try.prog 112 [.slice p1 ((Big.digs a).length) c1,.slice p2 ((Big.digs b).length) c2] [] [slF (rI .u32) p1 c1 (Big.digs a),slF (rI .u32) p2 c2 (Big.digs b)] (Y:=(Option Addr)×Nat) (fun y=>True) (fun y=> .slice (y.1) ((Big.digs (a - b)).length) (y.2)) (fun y=>[]) (fun y=>[slF (rI .u32) (y.1) (y.2) (Big.digs (a - b))]):=by
 refine zy Try.func112 rfl rfl rfl (fun c=> ?_)
 show RunC _ _ _ _ _ [(0,.slice p1 ((Big.digs a).length) c1),(1,.slice p2 ((Big.digs b).length) c2)] [] [slF (rI .u32) p1 c1 (Big.digs a),slF (rI .u32) p2 c2 (Big.digs b)]
 refine zda 0 rfl (fun hL0=> ?_)
 refine zda 1 rfl (fun hL1=> ?_)
 refine ze<|za<|r_pv rfl rfl (zd rfl)<|zg<|zc<|ze<|za<|r_pv rfl rfl (zb rfl)<|r_pv rfl rfl (zJ Try.underlying32 rfl)<|zEa rfl rfl (zhc (r:=rI .u32) (k:=(Big.digs a).length) (x0:=0) (γ0:=()) Try.underlying32 inf95 rfl rfl rfl rfl (by omega) (by omega) rfl (fun _ _=>by exact zma.2 (by decide)) (by decide)) (fun b1 _=> ?_)
 refine r_pv rfl rfl (zd rfl)<|zg<|zc<|ze<|za<|r_pv rfl rfl (zd rfl)<|zg<|zc<|ze<|ze<|za<|r_pv rfl rfl (zb rfl)<|r_pv rfl rfl (zJ Try.underlying32 rfl)<|r_pv rfl rfl (zb rfl)<|zg<|zc<|zq<|zha (X:=Nat×(List Int)×Int) (fun x:Nat×(List Int)×Int=>x.1≤(Big.digs a).length∧x.2.1.length=x.1∧0≤x.2.2∧x.2.2≤1∧Big.okL x.2.1∧Big.valL x.2.1+Big.valL ((Big.digs b).take x.1)=Big.valL ((Big.digs a).take x.1)+Big.pw x.1*x.2.2) (fun x=>[(6,.int .u32 (x.2.2)),(14,.int .i64 ((x.1:Nat):Int)),(13,.int .i64 (((Big.digs a).length:Nat):Int)),(5,.slice (some ⟨b1,0,none⟩) ((Big.digs a).length) ((Big.digs a).length)),(4,.slice none 0 0),(0,.slice p1 ((Big.digs a).length) c1),(1,.slice p2 ((Big.digs b).length) c2)]) (fun x=>[rowA 95 (rI .u32) (some ⟨b1,0,none⟩) ((Big.digs a).length) (x.2.1++List.replicate ((Big.digs a).length - x.1) 0)]) (fun x=>[slF (rI .u32) p1 c1 (Big.digs a),slF (rI .u32) p2 c2 (Big.digs b)]) (fun x:Nat×(List Int)×Int=>(Big.digs a).length - x.1) (0,[],0) (show 0≤(Big.digs a).length∧([]).length=0∧0≤0∧0≤1∧Big.okL ([])∧Big.valL ([])+Big.valL ((Big.digs b).take 0)=Big.valL ((Big.digs a).take 0)+Big.pw 0*0 from by exact ⟨by omega,rfl,by decide,by decide,Big.okL_nil,by simp [Big.valL]⟩) ((.c rfl (.e rfl (by first|rfl|(congr 1;omega)|simp_all) (.of rfl))):SubM _ _) (ho:=((.e (i:=0) rfl (by simp) .n):PickO _ _ _)) ((.of [0,1] rfl):SelR _ _ _) ?_
 rintro ⟨i,os,bo⟩ hI
 replace hI:i≤(Big.digs a).length∧os.length=i∧0≤bo∧bo≤1∧Big.okL os∧Big.valL os+Big.valL ((Big.digs b).take i)=Big.valL ((Big.digs a).take i)+Big.pw i*bo:=hI
 try dsimp only
 obtain ⟨hi,hol,hc0,hc1,hok,hv⟩:=hI
 have hg1:=Big.okL_getD (Big.digs_ok a) i
 have hg2:=Big.okL_getD (Big.digs_ok b) i
 refine ze<|za<|r_pv rfl rfl (zE rfl rfl)<|zg<|zc<|ze<|zD rfl (fun h2=> ?_) (fun h2=> ?_)
 ·
  refine zu<|zc<|ze<|zq<|ze<|za<|r_pv rfl rfl (zb rfl)<|r_pv rfl rfl (zd rfl)<|zg<|zc<|ze<|za<|r_pv rfl rfl (zb rfl)<|r_pv rfl rfl (zb rfl)<|zea rfl rfl (.c rfl (.c rfl .n)) ce117 (zJd (p:=p2) (n:=(Big.digs b).length) (cap:=c2) (l:=Big.digs b) (i:=i) (hn:=by first|rfl|assumption|omega|(simp;done)|(simp;omega)|(simp_all;done)) (hi:=by first|rfl|assumption|omega|(simp;done)|(simp;omega)|(simp_all;done))) (.c (j:=1) rfl .n)<|r_pv rfl rfl (zb rfl)<|r_pv rfl rfl (zC (z:=((Big.digs b).getD i 0+bo)) rfl rfl (wu32 (by omega)))<|r_pv rfl rfl (zd rfl)<|zg<|zc<|ze<|za<|r_pv rfl rfl (zd rfl)<|zg<|zc<|ze<|za<|r_pv rfl rfl (zb rfl)<|r_pv rfl rfl (zb rfl)<|zI (x0:=((Big.digs a).getD i 0)) 0 i rfl Try.underlying32 sz95 rfl rfl rfl (by first|rfl|assumption|(simp;omega)) rfl rfl (gD (d:=0) (by omega)) (fun b3 o4 hok5=> ?_)
  replace hok5:=zma.1 hok5
  refine r_u rfl rfl (zw (j:=0) 0 ty95 rfl rfl rfl rfl)<|r_pv rfl rfl (zb rfl)<|r_pv rfl rfl (zE rfl rfl)<|zg<|zc<|zD rfl (fun hc=> ?_) (fun hc=> ?_)
  ·
   refine za<|r_pv rfl rfl (zb rfl)<|r_pv rfl rfl (zb rfl)<|r_pv rfl rfl (zb rfl)<|r_pv rfl rfl (zb rfl)<|zI (x0:=((Big.digs a).getD i 0)) 1 i rfl Try.underlying32 sz95 rfl rfl rfl (by first|rfl|assumption|(simp;omega)) rfl rfl (gD (d:=0) (by omega)) (fun b6 o7 hok8=> ?_)
   replace hok8:=zma.1 hok8
   refine r_u rfl rfl (zw (j:=0) 0 ty95 rfl rfl rfl rfl)<|r_pv rfl rfl (zC (z:=(((Big.digs a).getD i 0)+1000000000)) rfl rfl (wu32 (by omega)))<|r_pv rfl rfl (zb rfl)<|r_pv rfl rfl (zUa (z:=((((Big.digs a).getD i 0)+1000000000) - ((Big.digs b).getD i 0+bo))) rfl rfl (wu32 (by omega)))<|r_pv rfl rfl (zsa (j:=i) Try.underlying32 sz95 rfl rfl rfl (by omega))<|zBa 0 rfl rfl rfl (zCa (j:=i) (x0:=((((Big.digs a).getD i 0)+1000000000) - ((Big.digs b).getD i 0+bo))) (γ0:=()) rfl rfl (by first|omega|(rw [List.length_map];omega)|(simp only [List.length_set];omega)|(simp;done)|(simp;omega)) rfl rfl sz95 (fun _ _=>by exact zma.2 (by omega))) (fun _=> .z) (fun _ _=> ?_)
   refine r_pv rfl rfl (zd rfl)<|zg<|zA<|zc<|za<|r_pv rfl rfl (zC (z:=(((i+1):Nat):Int)) rfl rfl (w64 (by omega)))<|r_pv rfl rfl (zb rfl)<|zg<|zba ((i+1),os++[(Big.digs a).getD i 0+1000000000 - ((Big.digs b).getD i 0+bo)],1) (show (i+1)≤(Big.digs a).length∧(os++[(Big.digs a).getD i 0+1000000000 - ((Big.digs b).getD i 0+bo)]).length=(i+1)∧0≤1∧1≤1∧Big.okL (os++[(Big.digs a).getD i 0+1000000000 - ((Big.digs b).getD i 0+bo)])∧Big.valL (os++[(Big.digs a).getD i 0+1000000000 - ((Big.digs b).getD i 0+bo)])+Big.valL ((Big.digs b).take (i+1))=Big.valL ((Big.digs a).take (i+1))+Big.pw (i+1)*1 from by exact ⟨by omega,by simp [hol],by decide,by decide,Big.okL_snoc hok (by omega) (by omega),Big.minus_step hol hv (by omega)⟩) (by show (Big.digs a).length - (i+1)<(Big.digs a).length - i;omega) ((.of rfl):SubM _ _) (ho:=((.e (i:=0) rfl (by rw [Big.set_pad hol (by omega)]) .n):PickO _ _ _)) ((.of [2,3] rfl):SelR _ _ _)
  ·
   refine za<|r_pv rfl rfl (zb rfl)<|r_pv rfl rfl (zb rfl)<|r_pv rfl rfl (zb rfl)<|r_pv rfl rfl (zb rfl)<|zI (x0:=((Big.digs a).getD i 0)) 1 i rfl Try.underlying32 sz95 rfl rfl rfl (by first|rfl|assumption|(simp;omega)) rfl rfl (gD (d:=0) (by omega)) (fun b9 o10 hok11=> ?_)
   replace hok11:=zma.1 hok11
   refine r_u rfl rfl (zw (j:=0) 0 ty95 rfl rfl rfl rfl)<|r_pv rfl rfl (zb rfl)<|r_pv rfl rfl (zUa (z:=(((Big.digs a).getD i 0) - ((Big.digs b).getD i 0+bo))) rfl rfl (wu32 (by omega)))<|r_pv rfl rfl (zsa (j:=i) Try.underlying32 sz95 rfl rfl rfl (by omega))<|zBa 0 rfl rfl rfl (zCa (j:=i) (x0:=(((Big.digs a).getD i 0) - ((Big.digs b).getD i 0+bo))) (γ0:=()) rfl rfl (by first|omega|(rw [List.length_map];omega)|(simp only [List.length_set];omega)|(simp;done)|(simp;omega)) rfl rfl sz95 (fun _ _=>by exact zma.2 (by omega))) (fun _=> .z) (fun _ _=> ?_)
   refine zg<|zA<|zc<|za<|r_pv rfl rfl (zC (z:=(((i+1):Nat):Int)) rfl rfl (w64 (by omega)))<|r_pv rfl rfl (zb rfl)<|zg<|zba ((i+1),os++[(Big.digs a).getD i 0 - ((Big.digs b).getD i 0+bo)],0) (show (i+1)≤(Big.digs a).length∧(os++[(Big.digs a).getD i 0 - ((Big.digs b).getD i 0+bo)]).length=(i+1)∧0≤0∧0≤1∧Big.okL (os++[(Big.digs a).getD i 0 - ((Big.digs b).getD i 0+bo)])∧Big.valL (os++[(Big.digs a).getD i 0 - ((Big.digs b).getD i 0+bo)])+Big.valL ((Big.digs b).take (i+1))=Big.valL ((Big.digs a).take (i+1))+Big.pw (i+1)*0 from by exact ⟨by omega,by simp [hol],by decide,by decide,Big.okL_snoc hok (by omega) (by omega),Big.minus_step hol hv (by omega)⟩) (by show (Big.digs a).length - (i+1)<(Big.digs a).length - i;omega) ((.of rfl):SubM _ _) (ho:=((.e (i:=0) rfl (by rw [Big.set_pad hol (by omega)]) .n):PickO _ _ _)) ((.of [2,3] rfl):SelR _ _ _)
 ·
  have e12:os++List.replicate ((Big.digs a).length - i) 0=os:=by rw [show (Big.digs a).length - i=0 by omega];simp
  rw [e12]
  have htr:Big.trimL os=Big.digs (a - b):=Big.minus_fin hab hok hc0 hol (by omega) hv
  refine zX<|zj<|zj<|zp<|zc<|ze<|za<|r_pv rfl rfl (zb rfl)<|zxa 0 rfl .z<|zfa rfl rfl (.c rfl .n) ce109 (zFb (p:=some ⟨b1,0,none⟩) (n:=(Big.digs a).length) (cap:=(Big.digs a).length) (l:=os) (hn:=by first|rfl|assumption|omega|(simp;done)|(simp;omega)|(simp_all;done))) (.c (j:=0) rfl .n) ?_
  rintro ⟨⟩ -
  dsimp only [List.append_eq,List.nil_append,List.cons_append]
  refine r_pv rfl rfl (zd rfl)<|zg<|zc<|zK ?_
  exact zB Try.results112 ((some ⟨b1,0,none⟩),((Big.digs a).length)) trivial (zx rfl) (by rw [htr]) (ho:=(.n:PickO _ _ _)) ((.e (j:=0) rfl (by rw [htr]) .n):SelR _ _ _)
theorem zMd {s:Bool} {t:Bool} {a:Nat} {b:Nat} {p1:Option Addr} {c1:Nat} {p2:Option Addr} {c2:Nat} (hb1:(Big.digs a).length≤1099511627776) (hb2:(Big.digs b).length≤1099511627776):Con Try.prog 90 [.bool s,.slice p1 ((Big.digs a).length) c1,.bool t,.slice p2 ((Big.digs b).length) c2] [] [slF (rI .u32) p1 c1 (Big.digs a),slF (rI .u32) p2 c2 (Big.digs b)] (Y:=(Option Addr)×Nat) (fun y=>True) (fun y=> .agg #[.bool (decide ((Big.sg s (a:Int)+Big.sg t (b:Int))<0)),.slice (y.1) ((Big.digs ((Big.sg s (a:Int)+Big.sg t (b:Int)).natAbs)).length) (y.2)]) (fun y=>[]) (fun y=>[slF (rI .u32) (y.1) (y.2) (Big.digs ((Big.sg s (a:Int)+Big.sg t (b:Int)).natAbs))]):=by
 refine zy Try.func90 rfl rfl rfl (fun c=> ?_)
 show RunC _ _ _ _ _ [(0,.bool s),(1,.slice p1 ((Big.digs a).length) c1),(2,.bool t),(3,.slice p2 ((Big.digs b).length) c2)] [] [slF (rI .u32) p1 c1 (Big.digs a),slF (rI .u32) p2 c2 (Big.digs b)]
 refine zda 0 rfl (fun hL0=> ?_)
 refine zda 1 rfl (fun hL1=> ?_)
 refine ze<|za<|zV rfl rfl (zr zr34 rfl) (fun b1=> ?_)
 refine zg<|zc<|ze<|zq<|ze<|za<|r_pv rfl rfl (zb rfl)<|r_pv rfl rfl (zb rfl)<|r_pv rfl rfl (zKc Try.underlying4 rfl rfl)<|r_pv rfl rfl (zd rfl)<|zg<|zc<|zD rfl (fun hst=> ?_) (fun hst=> ?_)
 ·
  refine ze<|za<|r_pv rfl rfl (zb rfl)<|r_pv rfl rfl (zb rfl)<|r_pv rfl rfl (zb rfl)<|zfa rfl rfl (.c rfl (.c rfl .n)) ce110 (zKd (a:=a) (b:=b) (p1:=p1) (c1:=c1) (p2:=p2) (c2:=c2) (hb1:=by assumption) (hb2:=by assumption)) (.c (j:=0) rfl (.c (j:=1) rfl .n)) ?_
  rintro ⟨p32,c33⟩ -
  dsimp only [List.append_eq,List.nil_append,List.cons_append]
  refine zfa rfl rfl (.c rfl (.c rfl .n)) ce88 (zjb (s:=s) (a:=a+b) (p:=p32) (cap:=c33)) (.c (j:=0) rfl .n) ?_
  rintro ⟨p24,c25⟩ -
  dsimp only [List.append_eq,List.nil_append,List.cons_append]
  refine zv 0 rfl rfl rfl rfl rfl sz34 rfl (.take (.take .nil)) .z<|zg<|zc<|zK<|zo<|zk ?_
  have hz:Big.sg s ((a+b:Nat):Int)=Big.sg s (a:Int)+Big.sg t (b:Int):=by rw [← hst];unfold Big.sg;split <;> omega
  exact zB Try.results90 (p24,c25) trivial (zR 0 ty34 rfl rfl (.take (.take .nil))) (by rw [hz]) (ho:=(.n:PickO _ _ _)) ((.e (j:=0) rfl (by rw [hz]) .n):SelR _ _ _)
 ·
  refine ze<|za<|r_pv rfl rfl (zb rfl)<|r_pv rfl rfl (zb rfl)<|zea rfl rfl (.c rfl (.c rfl .n)) ce111 (zTc (a:=a) (b:=b) (p1:=p1) (c1:=c1) (p2:=p2) (c2:=c2)) (.c (j:=0) rfl (.c (j:=1) rfl .n))<|r_pv rfl rfl (zcb rfl rfl)<|r_pv rfl rfl (zd rfl)<|zg<|zc<|zD rfl (fun hcmp=> ?_) (fun hcmp=> ?_)
  ·
   have hab:b≤a:=by have:=Big.cmp_ge.1 hcmp;omega
   refine ze<|za<|r_pv rfl rfl (zb rfl)<|r_pv rfl rfl (zb rfl)<|r_pv rfl rfl (zb rfl)<|zfa rfl rfl (.c rfl (.c rfl .n)) ce112 (zFc (a:=a) (b:=b) (p1:=p1) (c1:=c1) (p2:=p2) (c2:=c2) (hb1:=by assumption) (hb2:=by assumption) (hab:=by first|rfl|assumption|omega|(simp;done)|(simp;omega)|(simp_all;done))) (.c (j:=0) rfl (.c (j:=1) rfl .n)) ?_
   rintro ⟨p36,c37⟩ -
   dsimp only [List.append_eq,List.nil_append,List.cons_append]
   refine zfa rfl rfl (.c rfl (.c rfl .n)) ce88 (zjb (s:=s) (a:=a - b) (p:=p36) (cap:=c37)) (.c (j:=0) rfl .n) ?_
   rintro ⟨p28,c29⟩ -
   dsimp only [List.append_eq,List.nil_append,List.cons_append]
   refine zv 0 rfl rfl rfl rfl rfl sz34 rfl (.take (.take .nil)) .z<|zg<|zc<|zK<|zo<|zk ?_
   have hz:Big.sg s ((a - b:Nat):Int)=Big.sg s (a:Int)+Big.sg t (b:Int):=by revert hst;unfold Big.sg;cases s <;> cases t <;> simp <;> omega
   exact zB Try.results90 (p28,c29) trivial (zR 0 ty34 rfl rfl (.take (.take .nil))) (by rw [hz]) (ho:=(.n:PickO _ _ _)) ((.e (j:=0) rfl (by rw [hz]) .n):SelR _ _ _)
  ·
   have hab:a≤b:=by have:¬(b:Int)≤a:=fun h=>hcmp (Big.cmp_ge.2 h);omega
   refine zu<|zA<|zc<|ze<|za<|r_pv rfl rfl (zb rfl)<|r_pv rfl rfl (zb rfl)<|r_pv rfl rfl (zb rfl)<|zfa rfl rfl (.c rfl (.c rfl .n)) ce112 (zFc (a:=b) (b:=a) (p1:=p2) (c1:=c2) (p2:=p1) (c2:=c1) (hb1:=by assumption) (hb2:=by assumption) (hab:=by first|rfl|assumption|omega|(simp;done)|(simp;omega)|(simp_all;done))) (.c (j:=1) rfl (.c (j:=0) rfl .n)) ?_
   rintro ⟨p310,c311⟩ -
   dsimp only [List.append_eq,List.nil_append,List.cons_append]
   refine zfa rfl rfl (.c rfl (.c rfl .n)) ce88 (zjb (s:=t) (a:=b - a) (p:=p310) (cap:=c311)) (.c (j:=0) rfl .n) ?_
   rintro ⟨p212,c213⟩ -
   dsimp only [List.append_eq,List.nil_append,List.cons_append]
   refine zv 0 rfl rfl rfl rfl rfl sz34 rfl (.take (.take .nil)) .z<|zg<|zc<|zK ?_
   have hz:Big.sg t ((b - a:Nat):Int)=Big.sg s (a:Int)+Big.sg t (b:Int):=by revert hst;unfold Big.sg;cases s <;> cases t <;> simp <;> omega
   exact zB Try.results90 (p212,c213) trivial (zR 0 ty34 rfl rfl (.take (.take .nil))) (by rw [hz]) (ho:=(.n:PickO _ _ _)) ((.e (j:=0) rfl (by rw [hz]) .n):SelR _ _ _)
theorem zNd {a:Nat} {b:Nat} {p1:Option Addr} {c1:Nat} {p2:Option Addr} {c2:Nat} (hb1:(Big.digs a).length≤1099511627776) (hb2:(Big.digs b).length≤1099511627776):Con Try.prog 114 [.slice p1 ((Big.digs a).length) c1,.slice p2 ((Big.digs b).length) c2] [] [slF (rI .u32) p1 c1 (Big.digs a),slF (rI .u32) p2 c2 (Big.digs b)] (Y:=(Option Addr)×Nat) (fun y=>True) (fun y=> .slice (y.1) ((Big.digs (a*b)).length) (y.2)) (fun y=>[]) (fun y=>[slF (rI .u32) (y.1) (y.2) (Big.digs (a*b))]):=by
 refine zy Try.func114 rfl rfl rfl (fun c=> ?_)
 show RunC _ _ _ _ _ [(0,.slice p1 ((Big.digs a).length) c1),(1,.slice p2 ((Big.digs b).length) c2)] [] [slF (rI .u32) p1 c1 (Big.digs a),slF (rI .u32) p2 c2 (Big.digs b)]
 refine zda 0 rfl (fun hL0=> ?_)
 refine zda 1 rfl (fun hL1=> ?_)
 have hoa:=Big.digs_ok a
 have hob:=Big.digs_ok b
 refine ze<|za<|r_pv rfl rfl (zd rfl)<|zg<|zc<|ze<|za<|r_pv rfl rfl (zb rfl)<|r_pv rfl rfl (zJ Try.underlying32 rfl)<|r_pv rfl rfl (zb rfl)<|r_pv rfl rfl (zJ Try.underlying32 rfl)<|r_pv rfl rfl (zC (z:=(((((Big.digs a).length)+((Big.digs b).length)):Nat):Int)) rfl rfl (w64 (by omega)))<|zEa rfl rfl (zhc (r:=rI .u32) (k:=(((Big.digs a).length)+((Big.digs b).length))) (x0:=0) (γ0:=()) Try.underlying32 inf95 rfl rfl rfl rfl (by omega) (by omega) rfl (fun _ _=>by exact zma.2 (by decide)) (by decide)) (fun b1 _=> ?_)
 refine r_pv rfl rfl (zd rfl)<|zg<|zc<|ze<|ze<|za<|r_pv rfl rfl (zb rfl)<|r_pv rfl rfl (zJ Try.underlying32 rfl)<|r_pv rfl rfl (zb rfl)<|zg<|zc<|zq<|zha (X:=Nat×(List Int)) (fun x:Nat×(List Int)=>x.1≤(Big.digs a).length∧x.2.length=(Big.digs a).length+(Big.digs b).length∧Big.okL x.2∧(∀k,x.1+(Big.digs b).length≤k→x.2.getD k 0=0)∧Big.valL x.2=Big.valL ((Big.digs a).take x.1)*Big.valL (Big.digs b)) (fun x=>[(20,.int .i64 ((x.1:Nat):Int)),(19,.int .i64 (((Big.digs a).length:Nat):Int)),(18,.slice p1 ((Big.digs a).length) c1),(5,.slice (some ⟨b1,0,none⟩) (((Big.digs a).length)+((Big.digs b).length)) (((Big.digs a).length)+((Big.digs b).length))),(4,.slice none 0 0),(1,.slice p2 ((Big.digs b).length) c2)]) (fun x=>[rowA 95 (rI .u32) (some ⟨b1,0,none⟩) (((Big.digs a).length)+((Big.digs b).length)) (x.2)]) (fun x=>[slF (rI .u32) p1 c1 (Big.digs a),slF (rI .u32) p2 c2 (Big.digs b)]) (fun x:Nat×(List Int)=>(Big.digs a).length - x.1) (0,List.replicate ((Big.digs a).length+(Big.digs b).length) 0) (show 0≤(Big.digs a).length∧(List.replicate ((Big.digs a).length+(Big.digs b).length) 0).length=(Big.digs a).length+(Big.digs b).length∧Big.okL (List.replicate ((Big.digs a).length+(Big.digs b).length) 0)∧(∀k,0+(Big.digs b).length≤k→(List.replicate ((Big.digs a).length+(Big.digs b).length) 0).getD k 0=0)∧Big.valL (List.replicate ((Big.digs a).length+(Big.digs b).length) 0)=Big.valL ((Big.digs a).take 0)*Big.valL (Big.digs b) from by exact ⟨by omega,by simp,Big.okL_zeros _,fun k _=>Big.getD_zeros _ k,by simp [Big.valL_zeros,Big.valL]⟩) ((.e rfl (by first|rfl|(congr 1;omega)|simp_all) (.of rfl)):SubM _ _) (ho:=((.e (i:=0) rfl (by first|rfl|(congr 1;omega)|simp_all) .n):PickO _ _ _)) ((.of [0,1] rfl):SelR _ _ _) ?_
 rintro ⟨i,os⟩ hI
 replace hI:i≤(Big.digs a).length∧os.length=(Big.digs a).length+(Big.digs b).length∧Big.okL os∧(∀k,i+(Big.digs b).length≤k→os.getD k 0=0)∧Big.valL os=Big.valL ((Big.digs a).take i)*Big.valL (Big.digs b):=hI
 try dsimp only
 obtain ⟨hi,hol,hok,hz,hv⟩:=hI
 have hg1:=Big.okL_getD hoa i
 refine ze<|za<|r_pv rfl rfl (zE rfl rfl)<|zg<|zc<|ze<|zD rfl (fun h2=> ?_) (fun h2=> ?_)
 ·
  refine zu<|zc<|ze<|zq<|ze<|za<|r_pv rfl rfl (zb rfl)<|zI (x0:=((Big.digs a).getD i 0)) 0 i rfl Try.underlying32 sz95 rfl rfl rfl (by first|rfl|assumption|(simp;omega)|omega) rfl rfl (gD (d:=0) (by omega)) (fun b3 o4 hok5=> ?_)
  replace hok5:=zma.1 hok5
  refine r_u rfl rfl (zw (j:=0) 0 ty95 rfl rfl rfl rfl)<|r_pv rfl rfl (zd rfl)<|r_pv rfl rfl (zd rfl)<|zg<|zc<|ze<|za<|r_pv rfl rfl (zd rfl)<|zg<|zc<|ze<|ze<|za<|r_pv rfl rfl (zb rfl)<|r_pv rfl rfl (zJ Try.underlying32 rfl)<|r_pv rfl rfl (zb rfl)<|zg<|zc<|zq<|zha (X:=Nat×(List Int)×Int) (fun x:Nat×(List Int)×Int=>x.1≤(Big.digs b).length∧x.2.1.length=(Big.digs a).length+(Big.digs b).length∧Big.okL x.2.1∧0≤x.2.2∧x.2.2<1000000000∧(∀k,i+(Big.digs b).length≤k→x.2.1.getD k 0=0)∧Big.valL x.2.1+Big.pw (i+x.1)*x.2.2=Big.valL ((Big.digs a).take i)*Big.valL (Big.digs b)+Big.pw i*(Big.digs a).getD i 0*Big.valL ((Big.digs b).take x.1)) (fun x=>[(8,.int .u64 (x.2.2)),(27,.int .i64 ((x.1:Nat):Int)),(26,.int .i64 (((Big.digs b).length:Nat):Int)),(25,.slice p2 ((Big.digs b).length) c2),(7,.int .u32 ((Big.digs a).getD i 0)),(6,.int .i64 ((i:Nat):Int)),(20,.int .i64 ((i:Nat):Int)),(19,.int .i64 (((Big.digs a).length:Nat):Int)),(18,.slice p1 ((Big.digs a).length) c1),(5,.slice (some ⟨b1,0,none⟩) (((Big.digs a).length)+((Big.digs b).length)) (((Big.digs a).length)+((Big.digs b).length))),(4,.slice none 0 0),(1,.slice p2 ((Big.digs b).length) c2)]) (fun x=>[rowA 95 (rI .u32) (some ⟨b1,0,none⟩) (((Big.digs a).length)+((Big.digs b).length)) (x.2.1)]) (fun x=>[atF b3 o4 [.int .u32 ((Big.digs a).getD i 0)],slF (rI .u32) p1 c1 (Big.digs a),slF (rI .u32) p2 c2 (Big.digs b)]) (fun x:Nat×(List Int)×Int=>(Big.digs b).length - x.1) (0,os,0) (show 0≤(Big.digs b).length∧os.length=(Big.digs a).length+(Big.digs b).length∧Big.okL os∧0≤0∧0<1000000000∧(∀k,i+(Big.digs b).length≤k→os.getD k 0=0)∧Big.valL os+Big.pw (i+0)*0=Big.valL ((Big.digs a).take i)*Big.valL (Big.digs b)+Big.pw i*(Big.digs a).getD i 0*Big.valL ((Big.digs b).take 0) from by exact ⟨by omega,hol,hok,by decide,by decide,hz,by rw [hv];simp [Big.valL]⟩) ((.c rfl (.e rfl (by first|rfl|(congr 1;omega)|simp_all) (.of rfl))):SubM _ _) (ho:=((.c (i:=0) rfl .n):PickO _ _ _)) ((.of [0,1,2] rfl):SelR _ _ _) ?_
  rintro ⟨j,os2,cy⟩ hJ
  replace hJ:j≤(Big.digs b).length∧os2.length=(Big.digs a).length+(Big.digs b).length∧Big.okL os2∧0≤cy∧cy<1000000000∧(∀k,i+(Big.digs b).length≤k→os2.getD k 0=0)∧Big.valL os2+Big.pw (i+j)*cy=Big.valL ((Big.digs a).take i)*Big.valL (Big.digs b)+Big.pw i*(Big.digs a).getD i 0*Big.valL ((Big.digs b).take j):=hJ
  try dsimp only
  obtain ⟨hj,hol2,hok2,hcy0,hcy1,hz2,hv2⟩:=hJ
  have hg2:=Big.okL_getD hob j
  have hg3:=Big.okL_getD hok2 (i+j)
  have hpq:=Big.mul_lim hg1 hg2
  refine ze<|za<|r_pv rfl rfl (zE rfl rfl)<|zg<|zc<|ze<|zD rfl (fun h6=> ?_) (fun h6=> ?_)
  ·
   refine zu<|zc<|ze<|zq<|ze<|za<|r_pv rfl rfl (zb rfl)<|zI (x0:=((Big.digs b).getD j 0)) 2 j rfl Try.underlying32 sz95 rfl rfl rfl (by first|rfl|assumption|(simp;omega)|omega) rfl rfl (gD (d:=0) (by omega)) (fun b7 o8 hok9=> ?_)
   replace hok9:=zma.1 hok9
   refine r_u rfl rfl (zw (j:=0) 0 ty95 rfl rfl rfl rfl)<|r_pv rfl rfl (zd rfl)<|r_pv rfl rfl (zd rfl)<|zg<|zc<|ze<|za<|r_pv rfl rfl (zb rfl)<|r_pv rfl rfl (zb rfl)<|r_pv rfl rfl (zb rfl)<|r_pv rfl rfl (zC (z:=(((i+j):Nat):Int)) rfl rfl (w64 (by omega)))<|r_pv rfl rfl (zsa (j:=(i+j)) Try.underlying32 sz95 rfl rfl rfl (by omega))<|r_vl rfl rfl (zNa 0 (i+j) rfl ty95 rfl rfl (gD (d:=0) (by omega)) rfl) (fun _ hok10=> ?_)
   replace hok10:=zma.1 hok10
   refine r_pv rfl rfl (zJa (z:=(os2.getD (i+j) 0)) rfl (by rw [Try.underlying95];rfl) Try.underlying123 (wu64 (by omega)))<|r_pv rfl rfl (zb rfl)<|r_pv rfl rfl (zJa (z:=((Big.digs a).getD i 0)) rfl (by rw [Try.underlying95];rfl) Try.underlying123 (wu64 (by omega)))<|r_pv rfl rfl (zb rfl)<|r_pv rfl rfl (zJa (z:=((Big.digs b).getD j 0)) rfl (by rw [Try.underlying95];rfl) Try.underlying123 (wu64 (by omega)))<|r_pv rfl rfl (pv_mul (z:=(((Big.digs a).getD i 0)*((Big.digs b).getD j 0))) rfl rfl (wu64 (by omega)))<|r_pv rfl rfl (zC (z:=((os2.getD (i+j) 0)+(((Big.digs a).getD i 0)*((Big.digs b).getD j 0)))) rfl rfl (wu64 (by omega)))<|r_pv rfl rfl (zb rfl)<|r_pv rfl rfl (zC (z:=(((os2.getD (i+j) 0)+(((Big.digs a).getD i 0)*((Big.digs b).getD j 0)))+cy)) rfl rfl (wu64 (by omega)))<|r_pv rfl rfl (zd rfl)<|zg<|zc<|za<|r_pv rfl rfl (zb rfl)<|r_pv rfl rfl (zb rfl)<|r_pv rfl rfl (zb rfl)<|r_pv rfl rfl (zC (z:=(((i+j):Nat):Int)) rfl rfl (w64 (by omega)))<|r_pv rfl rfl (zb rfl)<|r_pv rfl rfl (zgb (z:=((((os2.getD (i+j) 0)+(((Big.digs a).getD i 0)*((Big.digs b).getD j 0)))+cy)%1000000000)) rfl rfl (by omega) (remN (by omega) (by omega)))<|r_pv rfl rfl (zJa (z:=((((os2.getD (i+j) 0)+(((Big.digs a).getD i 0)*((Big.digs b).getD j 0)))+cy)%1000000000)) rfl (by rw [Try.underlying123];rfl) Try.underlying95 (wu32 (by omega)))<|r_pv rfl rfl (zb rfl)<|r_pv rfl rfl (zrc (z:=((((os2.getD (i+j) 0)+(((Big.digs a).getD i 0)*((Big.digs b).getD j 0)))+cy) / 1000000000)) rfl rfl (by omega) (by rw [quoN (z:=((((os2.getD (i+j) 0)+(((Big.digs a).getD i 0)*((Big.digs b).getD j 0)))+cy) / 1000000000)) (by omega) (by omega)];exact wu64 (by omega)))<|r_pv rfl rfl (zsa (j:=(i+j)) Try.underlying32 sz95 rfl rfl rfl (by omega))<|zBa 0 rfl rfl rfl (zCa (j:=(i+j)) (x0:=((((os2.getD (i+j) 0)+(((Big.digs a).getD i 0)*((Big.digs b).getD j 0)))+cy)%1000000000)) (γ0:=()) rfl rfl (by first|omega|(rw [List.length_map];omega)|(simp only [List.length_set];omega)|(simp;done)|(simp;omega)) rfl rfl sz95 (fun _ _=>by exact zma.2 (by omega))) (fun _=> .z) (fun _ _=> ?_)
   refine r_pv rfl rfl (zd rfl)<|zg<|zA<|zc<|za<|r_pv rfl rfl (zC (z:=(((j+1):Nat):Int)) rfl rfl (w64 (by omega)))<|r_pv rfl rfl (zb rfl)<|zg<|zba ((j+1),os2.set (i+j) ((os2.getD (i+j) 0+(Big.digs a).getD i 0*(Big.digs b).getD j 0+cy)%1000000000),(os2.getD (i+j) 0+(Big.digs a).getD i 0*(Big.digs b).getD j 0+cy) / 1000000000) (show (j+1)≤(Big.digs b).length∧(os2.set (i+j) ((os2.getD (i+j) 0+(Big.digs a).getD i 0*(Big.digs b).getD j 0+cy)%1000000000)).length=(Big.digs a).length+(Big.digs b).length∧Big.okL (os2.set (i+j) ((os2.getD (i+j) 0+(Big.digs a).getD i 0*(Big.digs b).getD j 0+cy)%1000000000))∧0≤((os2.getD (i+j) 0+(Big.digs a).getD i 0*(Big.digs b).getD j 0+cy) / 1000000000)∧((os2.getD (i+j) 0+(Big.digs a).getD i 0*(Big.digs b).getD j 0+cy) / 1000000000)<1000000000∧(∀k,i+(Big.digs b).length≤k→(os2.set (i+j) ((os2.getD (i+j) 0+(Big.digs a).getD i 0*(Big.digs b).getD j 0+cy)%1000000000)).getD k 0=0)∧Big.valL (os2.set (i+j) ((os2.getD (i+j) 0+(Big.digs a).getD i 0*(Big.digs b).getD j 0+cy)%1000000000))+Big.pw (i+(j+1))*((os2.getD (i+j) 0+(Big.digs a).getD i 0*(Big.digs b).getD j 0+cy) / 1000000000)=Big.valL ((Big.digs a).take i)*Big.valL (Big.digs b)+Big.pw i*(Big.digs a).getD i 0*Big.valL ((Big.digs b).take (j+1)) from by exact ⟨by omega,by simpa using hol2,Big.okL_set hok2 (by omega) (by omega),by omega,by omega,fun k hk=>by rw [Big.getD_set_ne (by omega)];exact hz2 k (by omega),Big.mul_step hv2 (by omega) (by omega)⟩) (by show (Big.digs b).length - (j+1)<(Big.digs b).length - j;omega) ((.e rfl (by first|rfl|(congr 1;omega)|simp_all) (.of rfl)):SubM _ _) (ho:=((.e (i:=0) rfl (by first|rfl|(congr 1;omega)|simp_all) .n):PickO _ _ _)) ((.of [1,2,3] rfl):SelR _ _ _)
  ·
   have hjb:j=(Big.digs b).length:=by omega
   subst hjb
   have hv3:=hv2
   refine zX<|zj<|zj<|zp<|zc<|za<|r_pv rfl rfl (zb rfl)<|r_pv rfl rfl (zb rfl)<|r_pv rfl rfl (zb rfl)<|r_pv rfl rfl (zJ Try.underlying32 rfl)<|r_pv rfl rfl (zC (z:=(((i+((Big.digs b).length)):Nat):Int)) rfl rfl (w64 (by omega)))<|r_pv rfl rfl (zb rfl)<|r_pv rfl rfl (zJa (z:=cy) rfl (by rw [Try.underlying123];rfl) Try.underlying95 (wu32 (by omega)))<|r_pv rfl rfl (zsa (j:=(i+((Big.digs b).length))) Try.underlying32 sz95 rfl rfl rfl (by omega))<|zBa 0 rfl rfl rfl (zCa (j:=(i+((Big.digs b).length))) (x0:=cy) (γ0:=()) rfl rfl (by first|omega|(rw [List.length_map];omega)|(simp only [List.length_set];omega)|(simp;done)|(simp;omega)) rfl rfl sz95 (fun _ _=>by exact zma.2 (by omega))) (fun _=> .z) (fun _ _=> ?_)
   refine zg<|zA<|zc<|za<|r_pv rfl rfl (zC (z:=(((i+1):Nat):Int)) rfl rfl (w64 (by omega)))<|r_pv rfl rfl (zb rfl)<|zg<|zba ((i+1),os2.set (i+(Big.digs b).length) cy) (show (i+1)≤(Big.digs a).length∧(os2.set (i+(Big.digs b).length) cy).length=(Big.digs a).length+(Big.digs b).length∧Big.okL (os2.set (i+(Big.digs b).length) cy)∧(∀k,(i+1)+(Big.digs b).length≤k→(os2.set (i+(Big.digs b).length) cy).getD k 0=0)∧Big.valL (os2.set (i+(Big.digs b).length) cy)=Big.valL ((Big.digs a).take (i+1))*Big.valL (Big.digs b) from by exact ⟨by omega,by simpa using hol2,Big.okL_set hok2 (by omega) (by omega),fun k hk=>by rw [Big.getD_set_ne (by omega)];exact hz2 k (by omega),Big.mul_round hv3 (by omega) (hz2 _ (Nat.le_refl _))⟩) (by show (Big.digs a).length - (i+1)<(Big.digs a).length - i;omega) ((.of rfl):SubM _ _) (ho:=((.e (i:=0) rfl (by first|rfl|(congr 1;omega)|simp_all) .n):PickO _ _ _)) ((.of [1,2] rfl):SelR _ _ _)
 ·
  have hia:i=(Big.digs a).length:=by omega
  have hfin:Big.trimL os=Big.digs (a*b):=Big.trimL_of hok (by rw [hv,hia,List.take_length,Big.valL_digs,Big.valL_digs,Int.natCast_mul])
  refine zX<|zj<|zj<|zp<|zc<|ze<|za<|r_pv rfl rfl (zb rfl)<|zxa 0 rfl .z<|zfa rfl rfl (.c rfl .n) ce109 (zFb (p:=some ⟨b1,0,none⟩) (n:=(((Big.digs a).length)+((Big.digs b).length))) (cap:=(((Big.digs a).length)+((Big.digs b).length))) (l:=os) (hn:=by first|rfl|assumption|omega|(simp;done)|(simp;omega)|(simp_all;done))) (.c (j:=0) rfl .n) ?_
  rintro ⟨⟩ -
  dsimp only [List.append_eq,List.nil_append,List.cons_append]
  refine r_pv rfl rfl (zd rfl)<|zg<|zc<|zK ?_
  exact zB Try.results114 ((some ⟨b1,0,none⟩),(((Big.digs a).length)+((Big.digs b).length))) trivial (zx rfl) (by rw [hfin]) (ho:=(.n:PickO _ _ _)) ((.e (j:=0) rfl (by rw [hfin]) .n):SelR _ _ _)
theorem zCe {s:Bool} {p1:Option Addr} {n1:Nat} {c1:Nat} {l1:List Int} {t:Bool} {p2:Option Addr} {n2:Nat} {c2:Nat} {l2:List Int} (hn1:l1.length=n1) (hn2:l2.length=n2) (hb1:Big.ln (Big.raw s l1)≤1099511627776) (hb2:Big.ln (Big.raw t l2)≤1099511627776):Con Try.prog 59 [.agg #[.bool s,.slice p1 n1 c1],.agg #[.bool t,.slice p2 n2 c2]] [] [slF (rI .u32) p1 c1 l1,slF (rI .u32) p2 c2 l2] (Y:=(Option Addr)×Nat) (fun y=>True) (fun y=> .agg #[.bool (decide ((Big.raw s l1+Big.raw t l2)<0)),.slice (y.1) ((Big.digs ((Big.raw s l1+Big.raw t l2).natAbs)).length) (y.2)]) (fun y=>[]) (fun y=>[slF (rI .u32) (y.1) (y.2) (Big.digs ((Big.raw s l1+Big.raw t l2).natAbs))]):=by
 refine zy Try.func59 rfl rfl rfl (fun c=> ?_)
 show RunC _ _ _ _ _ [(0,.agg #[.bool s,.slice p1 n1 c1]),(1,.agg #[.bool t,.slice p2 n2 c2])] [] [slF (rI .u32) p1 c1 l1,slF (rI .u32) p2 c2 l2]
 refine zda 0 rfl (fun hL0=> ?_)
 refine zLc 0 rfl (fun hE0=> ?_)
 refine zda 1 rfl (fun hL1=> ?_)
 refine zLc 1 rfl (fun hE1=> ?_)
 have hnn1:Big.nn l1:=fun g hg=>(zma.1 (hE0 g hg)).1
 have hnn2:Big.nn l2:=fun g hg=>(zma.1 (hE1 g hg)).1
 refine ze<|za<|zV rfl rfl (zla rfl rfl) (fun b1=> ?_)
 refine zV rfl rfl (zla rfl rfl) (fun b2=> ?_)
 refine zV rfl rfl (zr zr34 rfl) (fun b3=> ?_)
 refine zg<|zc<|ze<|zva (OW:=[boxA b3 34 [.bool false,.slice none 0 0]]) (O:=[boxA b2 34 [.bool t,.slice p2 n2 c2],boxA b1 34 [.bool s,.slice p1 n1 c1]]) 9 mixed (.then .ret) (by kernel_rfl)<|d_pv 0 rfl rfl (by kernel_rfl) (by kernel_rfl) rfl rfl (zn Try.underlying34 rfl sz4 rfl rfl)<|d_uw 1 rfl rfl (by kernel_rfl) (by kernel_rfl) (by kernel_rfl) rfl rfl (zf 2 ty4 rfl rfl rfl)<|d_uw 2 rfl rfl (by kernel_rfl) (by kernel_rfl) (by kernel_rfl) rfl rfl (zh 2 ty34 rfl rfl (.take (.take .nil)))<|d_pv 4 rfl rfl (by kernel_rfl) (by kernel_rfl) rfl rfl (zn Try.underlying34 rfl sz4 rfl rfl)<|d_uw 5 rfl rfl (by kernel_rfl) (by kernel_rfl) (by kernel_rfl) rfl rfl (zf 1 ty4 rfl rfl rfl)<|d_uw 6 rfl rfl (by kernel_rfl) (by kernel_rfl) (by kernel_rfl) rfl rfl (zh 1 ty34 rfl rfl (.take (.take .nil)))<|zO 3 (by kernel_rfl) (zL rfl rfl rfl rfl (.c rfl .n) ce91 (zZa (s:=s) (p:=p1) (n:=n1) (cap:=c1) (l:=l1) (hn:=by assumption)) (.c (j:=0) rfl .n) ?_)
 rintro ⟨p24,c25⟩ -
 dsimp only [List.append_eq,List.nil_append,List.cons_append]
 refine zO 7 (by kernel_rfl) (zL rfl rfl rfl rfl (.c rfl .n) ce91 (zZa (s:=t) (p:=p2) (n:=n2) (cap:=c2) (l:=l2) (hn:=by assumption)) (.c (j:=2) rfl .n) ?_)
 rintro ⟨p26,c27⟩ -
 dsimp only [List.append_eq,List.nil_append,List.cons_append]
 refine zO 8 (by kernel_rfl) (zL rfl rfl rfl rfl (.c rfl (.c rfl (.c rfl (.c rfl .n)))) ce90 (zMd (s:=s) (t:=t) (a:=(Big.raw s l1).natAbs) (b:=(Big.raw t l2).natAbs) (p1:=p24) (c1:=c25) (p2:=p26) (c2:=c27) (hb1:=by first|rfl|assumption|omega|(simp;done)|(simp;omega)|(simp_all;done)) (hb2:=by first|rfl|assumption|omega|(simp;done)|(simp;omega)|(simp_all;done))) (.c (j:=1) rfl (.c (j:=0) rfl .n)) ?_)
 rintro ⟨p38,c39⟩ -
 dsimp only [List.append_eq,List.nil_append,List.cons_append]
 refine zO 9 (by kernel_rfl) (zca (by kernel_rfl) rfl rfl rfl rfl rfl sz34 rfl (.take (.take .nil)) ?_)
 refine zwa (by kernel_rfl)<|zc<|zK ?_
 have hz:Big.sg s ((Big.raw s l1).natAbs:Int)+Big.sg t ((Big.raw t l2).natAbs:Int)=Big.raw s l1+Big.raw t l2:=by rw [Big.sg_raw hnn1,Big.sg_raw hnn2]
 exact zB Try.results59 (p38,c39) trivial (zR 0 ty34 rfl rfl (.take (.take .nil))) (by rw [hz]) (ho:=(.n:PickO _ _ _)) ((.e (j:=0) rfl (by rw [hz]) .n):SelR _ _ _)
theorem zhe {x1:Int} {x2:Int} {p1:Option Addr} {c1:Nat} {p2:Option Addr} {c2:Nat} (hb1:Big.ln x1≤1099511627776) (hb2:Big.ln x2≤1099511627776):Con Try.prog 59 [.agg #[.bool (decide ((x1)<0)),.slice (p1) ((Big.digs ((x1).natAbs)).length) (c1)],.agg #[.bool (decide ((x2)<0)),.slice (p2) ((Big.digs ((x2).natAbs)).length) (c2)]] [] [slF (rI .u32) (p1) (c1) (Big.digs ((x1).natAbs)),slF (rI .u32) (p2) (c2) (Big.digs ((x2).natAbs))] (Y:=(Option Addr)×(Nat)) (fun y=>True) (fun y=> .agg #[.bool (decide ((x1+x2)<0)),.slice (y.1) ((Big.digs ((x1+x2).natAbs)).length) (y.2)]) (fun y=>[]) (fun y=>[slF (rI .u32) (y.1) (y.2) (Big.digs ((x1+x2).natAbs))]):=by
  have h:= @zCe (decide ((x1)<0)) p1 (Big.digs (x1).natAbs).length c1 (Big.digs (x1).natAbs) (decide ((x2)<0)) p2 (Big.digs (x2).natAbs).length c2 (Big.digs (x2).natAbs) rfl rfl (by rw [Big.raw_big];exact hb1) (by rw [Big.raw_big];exact hb2)
  rw [Big.raw_big,Big.raw_big] at h
  exact h
theorem zGb {w1:Wd} {w2:Wd} {x1:Int} {x2:Int} (hb1:Big.ln x1≤1099511627776) (hb2:Big.ln x2≤1099511627776):Con Try.prog 59 [.agg #[w1.b,w1.l],.agg #[w2.b,w2.l]] [] [zF w1 (x1),zF w2 (x2)] (Y:=(Wd)) (fun y=>True) (fun y=> .agg #[y.b,y.l]) (fun y=>[]) (fun y=>[zF y (x1+x2)]):=by
  exact zCc (zYc (fun p1 c1 p2 c2=>zhe hb1 hb2))
theorem zDe {s:Bool} {p1:Option Addr} {n1:Nat} {c1:Nat} {l1:List Int} {t:Bool} {p2:Option Addr} {n2:Nat} {c2:Nat} {l2:List Int} (hn1:l1.length=n1) (hn2:l2.length=n2) (hb1:Big.ln (Big.raw s l1)≤1099511627776) (hb2:Big.ln (Big.raw t l2)≤1099511627776):Con Try.prog 93 [.agg #[.bool s,.slice p1 n1 c1],.agg #[.bool t,.slice p2 n2 c2]] [] [slF (rI .u32) p1 c1 l1,slF (rI .u32) p2 c2 l2] (Y:=(Option Addr)×Nat) (fun y=>True) (fun y=> .agg #[.bool (decide ((Big.raw s l1 - Big.raw t l2)<0)),.slice (y.1) ((Big.digs ((Big.raw s l1 - Big.raw t l2).natAbs)).length) (y.2)]) (fun y=>[]) (fun y=>[slF (rI .u32) (y.1) (y.2) (Big.digs ((Big.raw s l1 - Big.raw t l2).natAbs))]):=by
 refine zy Try.func93 rfl rfl rfl (fun c=> ?_)
 show RunC _ _ _ _ _ [(0,.agg #[.bool s,.slice p1 n1 c1]),(1,.agg #[.bool t,.slice p2 n2 c2])] [] [slF (rI .u32) p1 c1 l1,slF (rI .u32) p2 c2 l2]
 refine zda 0 rfl (fun hL0=> ?_)
 refine zLc 0 rfl (fun hE0=> ?_)
 refine zda 1 rfl (fun hL1=> ?_)
 refine zLc 1 rfl (fun hE1=> ?_)
 have hnn1:Big.nn l1:=fun g hg=>(zma.1 (hE0 g hg)).1
 have hnn2:Big.nn l2:=fun g hg=>(zma.1 (hE1 g hg)).1
 refine ze<|za<|zV rfl rfl (zla rfl rfl) (fun b1=> ?_)
 refine zV rfl rfl (zla rfl rfl) (fun b2=> ?_)
 refine zV rfl rfl (zr zr34 rfl) (fun b3=> ?_)
 refine zg<|zc<|ze<|zva (OW:=[boxA b3 34 [.bool false,.slice none 0 0]]) (O:=[boxA b2 34 [.bool t,.slice p2 n2 c2],boxA b1 34 [.bool s,.slice p1 n1 c1]]) 10 mixed (.then .ret) (by kernel_rfl)<|d_pv 0 rfl rfl (by kernel_rfl) (by kernel_rfl) rfl rfl (zn Try.underlying34 rfl sz4 rfl rfl)<|d_uw 1 rfl rfl (by kernel_rfl) (by kernel_rfl) (by kernel_rfl) rfl rfl (zf 2 ty4 rfl rfl rfl)<|d_uw 2 rfl rfl (by kernel_rfl) (by kernel_rfl) (by kernel_rfl) rfl rfl (zh 2 ty34 rfl rfl (.take (.take .nil)))<|d_pv 4 rfl rfl (by kernel_rfl) (by kernel_rfl) rfl rfl (zn Try.underlying34 rfl sz4 rfl rfl)<|d_uw 5 rfl rfl (by kernel_rfl) (by kernel_rfl) (by kernel_rfl) rfl rfl (zf 1 ty4 rfl rfl rfl)<|d_pv 6 rfl rfl (by kernel_rfl) (by kernel_rfl) rfl rfl (zhb rfl)<|d_uw 7 rfl rfl (by kernel_rfl) (by kernel_rfl) (by kernel_rfl) rfl rfl (zh 1 ty34 rfl rfl (.take (.take .nil)))<|zO 3 (by kernel_rfl) (zL rfl rfl rfl rfl (.c rfl .n) ce91 (zZa (s:=s) (p:=p1) (n:=n1) (cap:=c1) (l:=l1) (hn:=by assumption)) (.c (j:=0) rfl .n) ?_)
 rintro ⟨p24,c25⟩ -
 dsimp only [List.append_eq,List.nil_append,List.cons_append]
 refine zO 8 (by kernel_rfl) (zL rfl rfl rfl rfl (.c rfl .n) ce91 (zZa (s:=t) (p:=p2) (n:=n2) (cap:=c2) (l:=l2) (hn:=by assumption)) (.c (j:=2) rfl .n) ?_)
 rintro ⟨p26,c27⟩ -
 dsimp only [List.append_eq,List.nil_append,List.cons_append]
 refine zO 9 (by kernel_rfl) (zL rfl rfl rfl rfl (.c rfl (.c rfl (.c rfl (.c rfl .n)))) ce90 (zMd (s:=s) (t:= !t) (a:=(Big.raw s l1).natAbs) (b:=(Big.raw t l2).natAbs) (p1:=p24) (c1:=c25) (p2:=p26) (c2:=c27) (hb1:=by first|rfl|assumption|omega|(simp;done)|(simp;omega)|(simp_all;done)) (hb2:=by first|rfl|assumption|omega|(simp;done)|(simp;omega)|(simp_all;done))) (.c (j:=1) rfl (.c (j:=0) rfl .n)) ?_)
 rintro ⟨p38,c39⟩ -
 dsimp only [List.append_eq,List.nil_append,List.cons_append]
 refine zO 10 (by kernel_rfl) (zca (by kernel_rfl) rfl rfl rfl rfl rfl sz34 rfl (.take (.take .nil)) ?_)
 refine zwa (by kernel_rfl)<|zc<|zK ?_
 have hz:Big.sg s ((Big.raw s l1).natAbs:Int)+Big.sg (!t) ((Big.raw t l2).natAbs:Int)=Big.raw s l1 - Big.raw t l2:=by rw [Big.sg_not,Big.sg_raw hnn1,Big.sg_raw hnn2];omega
 exact zB Try.results93 (p38,c39) trivial (zR 0 ty34 rfl rfl (.take (.take .nil))) (by rw [hz]) (ho:=(.n:PickO _ _ _)) ((.e (j:=0) rfl (by rw [hz]) .n):SelR _ _ _)
theorem zie {x1:Int} {x2:Int} {p1:Option Addr} {c1:Nat} {p2:Option Addr} {c2:Nat} (hb1:Big.ln x1≤1099511627776) (hb2:Big.ln x2≤1099511627776):Con Try.prog 93 [.agg #[.bool (decide ((x1)<0)),.slice (p1) ((Big.digs ((x1).natAbs)).length) (c1)],.agg #[.bool (decide ((x2)<0)),.slice (p2) ((Big.digs ((x2).natAbs)).length) (c2)]] [] [slF (rI .u32) (p1) (c1) (Big.digs ((x1).natAbs)),slF (rI .u32) (p2) (c2) (Big.digs ((x2).natAbs))] (Y:=(Option Addr)×(Nat)) (fun y=>True) (fun y=> .agg #[.bool (decide ((x1 - x2)<0)),.slice (y.1) ((Big.digs ((x1 - x2).natAbs)).length) (y.2)]) (fun y=>[]) (fun y=>[slF (rI .u32) (y.1) (y.2) (Big.digs ((x1 - x2).natAbs))]):=by
  have h:= @zDe (decide ((x1)<0)) p1 (Big.digs (x1).natAbs).length c1 (Big.digs (x1).natAbs) (decide ((x2)<0)) p2 (Big.digs (x2).natAbs).length c2 (Big.digs (x2).natAbs) rfl rfl (by rw [Big.raw_big];exact hb1) (by rw [Big.raw_big];exact hb2)
  rw [Big.raw_big,Big.raw_big] at h
  exact h
theorem znc {w1:Wd} {w2:Wd} {x1:Int} {x2:Int} (hb1:Big.ln x1≤1099511627776) (hb2:Big.ln x2≤1099511627776):Con Try.prog 93 [.agg #[w1.b,w1.l],.agg #[w2.b,w2.l]] [] [zF w1 (x1),zF w2 (x2)] (Y:=(Wd)) (fun y=>True) (fun y=> .agg #[y.b,y.l]) (fun y=>[]) (fun y=>[zF y (x1 - x2)]):=by
  exact zCc (zYc (fun p1 c1 p2 c2=>zie hb1 hb2))
theorem zEe {s:Bool} {p1:Option Addr} {n1:Nat} {c1:Nat} {l1:List Int} {t:Bool} {p2:Option Addr} {n2:Nat} {c2:Nat} {l2:List Int} (hn1:l1.length=n1) (hn2:l2.length=n2) (hb1:Big.ln (Big.raw s l1)≤1099511627776) (hb2:Big.ln (Big.raw t l2)≤1099511627776):Con Try.prog 92 [.agg #[.bool s,.slice p1 n1 c1],.agg #[.bool t,.slice p2 n2 c2]] [] [slF (rI .u32) p1 c1 l1,slF (rI .u32) p2 c2 l2] (Y:=(Option Addr)×Nat) (fun y=>True) (fun y=> .agg #[.bool (decide ((Big.raw s l1*Big.raw t l2)<0)),.slice (y.1) ((Big.digs ((Big.raw s l1*Big.raw t l2).natAbs)).length) (y.2)]) (fun y=>[]) (fun y=>[slF (rI .u32) (y.1) (y.2) (Big.digs ((Big.raw s l1*Big.raw t l2).natAbs))]):=by
 refine zy Try.func92 rfl rfl rfl (fun c=> ?_)
 show RunC _ _ _ _ _ [(0,.agg #[.bool s,.slice p1 n1 c1]),(1,.agg #[.bool t,.slice p2 n2 c2])] [] [slF (rI .u32) p1 c1 l1,slF (rI .u32) p2 c2 l2]
 refine zda 0 rfl (fun hL0=> ?_)
 refine zLc 0 rfl (fun hE0=> ?_)
 refine zda 1 rfl (fun hL1=> ?_)
 refine zLc 1 rfl (fun hE1=> ?_)
 have hnn1:Big.nn l1:=fun g hg=>(zma.1 (hE0 g hg)).1
 have hnn2:Big.nn l2:=fun g hg=>(zma.1 (hE1 g hg)).1
 refine ze<|za<|zV rfl rfl (zla rfl rfl) (fun b1=> ?_)
 refine zV rfl rfl (zla rfl rfl) (fun b2=> ?_)
 refine zV rfl rfl (zr zr34 rfl) (fun b3=> ?_)
 refine zg<|zc<|ze<|zva (OW:=[boxA b3 34 [.bool false,.slice none 0 0]]) (O:=[boxA b2 34 [.bool t,.slice p2 n2 c2],boxA b1 34 [.bool s,.slice p1 n1 c1]]) 11 mixed (.then .ret) (by kernel_rfl)<|d_pv 0 rfl rfl (by kernel_rfl) (by kernel_rfl) rfl rfl (zn Try.underlying34 rfl sz4 rfl rfl)<|d_uw 1 rfl rfl (by kernel_rfl) (by kernel_rfl) (by kernel_rfl) rfl rfl (zf 2 ty4 rfl rfl rfl)<|d_pv 2 rfl rfl (by kernel_rfl) (by kernel_rfl) rfl rfl (zn Try.underlying34 rfl sz4 rfl rfl)<|d_uw 3 rfl rfl (by kernel_rfl) (by kernel_rfl) (by kernel_rfl) rfl rfl (zf 1 ty4 rfl rfl rfl)<|d_pv 4 rfl rfl (by kernel_rfl) (by kernel_rfl) rfl rfl (zJb Try.underlying4 rfl rfl)<|d_uw 5 rfl rfl (by kernel_rfl) (by kernel_rfl) (by kernel_rfl) rfl rfl (zh 2 ty34 rfl rfl (.take (.take .nil)))<|d_uw 7 rfl rfl (by kernel_rfl) (by kernel_rfl) (by kernel_rfl) rfl rfl (zh 1 ty34 rfl rfl (.take (.take .nil)))<|zO 6 (by kernel_rfl) (zL rfl rfl rfl rfl (.c rfl .n) ce91 (zZa (s:=s) (p:=p1) (n:=n1) (cap:=c1) (l:=l1) (hn:=by assumption)) (.c (j:=0) rfl .n) ?_)
 rintro ⟨p24,c25⟩ -
 dsimp only [List.append_eq,List.nil_append,List.cons_append]
 refine zO 8 (by kernel_rfl) (zL rfl rfl rfl rfl (.c rfl .n) ce91 (zZa (s:=t) (p:=p2) (n:=n2) (cap:=c2) (l:=l2) (hn:=by assumption)) (.c (j:=2) rfl .n) ?_)
 rintro ⟨p26,c27⟩ -
 dsimp only [List.append_eq,List.nil_append,List.cons_append]
 refine zO 9 (by kernel_rfl) (zL rfl rfl rfl rfl (.c rfl (.c rfl .n)) ce114 (zNd (a:=(Big.raw s l1).natAbs) (b:=(Big.raw t l2).natAbs) (p1:=p24) (c1:=c25) (p2:=p26) (c2:=c27) (hb1:=by first|rfl|assumption|omega|(simp;done)|(simp;omega)|(simp_all;done)) (hb2:=by first|rfl|assumption|omega|(simp;done)|(simp;omega)|(simp_all;done))) (.c (j:=1) rfl (.c (j:=0) rfl .n)) ?_)
 rintro ⟨p38,c39⟩ -
 dsimp only [List.append_eq,List.nil_append,List.cons_append]
 refine zO 10 (by kernel_rfl) (zL rfl rfl rfl rfl (.c rfl (.c rfl .n)) ce88 (zjb (s:=decide (s≠t)) (a:=((Big.raw s l1).natAbs)*((Big.raw t l2).natAbs)) (p:=p38) (cap:=c39)) (.c (j:=0) rfl .n) ?_)
 rintro ⟨p210,c211⟩ -
 dsimp only [List.append_eq,List.nil_append,List.cons_append]
 refine zO 11 (by kernel_rfl) (zca (by kernel_rfl) rfl rfl rfl rfl rfl sz34 rfl (.take (.take .nil)) ?_)
 refine zwa (by kernel_rfl)<|zc<|zK ?_
 have hz:Big.sg (decide (s≠t)) (((Big.raw s l1).natAbs*(Big.raw t l2).natAbs:Nat):Int)=Big.raw s l1*Big.raw t l2:=by rw [Big.sg_mul,Big.sg_raw hnn1,Big.sg_raw hnn2]
 exact zB Try.results92 (p210,c211) trivial (zR 0 ty34 rfl rfl (.take (.take .nil))) (by rw [hz]) (ho:=(.n:PickO _ _ _)) ((.e (j:=0) rfl (by rw [hz]) .n):SelR _ _ _)
theorem zje {x1:Int} {x2:Int} {p1:Option Addr} {c1:Nat} {p2:Option Addr} {c2:Nat} (hb1:Big.ln x1≤1099511627776) (hb2:Big.ln x2≤1099511627776):Con Try.prog 92 [.agg #[.bool (decide ((x1)<0)),.slice (p1) ((Big.digs ((x1).natAbs)).length) (c1)],.agg #[.bool (decide ((x2)<0)),.slice (p2) ((Big.digs ((x2).natAbs)).length) (c2)]] [] [slF (rI .u32) (p1) (c1) (Big.digs ((x1).natAbs)),slF (rI .u32) (p2) (c2) (Big.digs ((x2).natAbs))] (Y:=(Option Addr)×(Nat)) (fun y=>True) (fun y=> .agg #[.bool (decide ((x1*x2)<0)),.slice (y.1) ((Big.digs ((x1*x2).natAbs)).length) (y.2)]) (fun y=>[]) (fun y=>[slF (rI .u32) (y.1) (y.2) (Big.digs ((x1*x2).natAbs))]):=by
  have h:= @zEe (decide ((x1)<0)) p1 (Big.digs (x1).natAbs).length c1 (Big.digs (x1).natAbs) (decide ((x2)<0)) p2 (Big.digs (x2).natAbs).length c2 (Big.digs (x2).natAbs) rfl rfl (by rw [Big.raw_big];exact hb1) (by rw [Big.raw_big];exact hb2)
  rw [Big.raw_big,Big.raw_big] at h
  exact h
theorem zXa {w1:Wd} {w2:Wd} {x1:Int} {x2:Int} (hb1:Big.ln x1≤1099511627776) (hb2:Big.ln x2≤1099511627776):Con Try.prog 92 [.agg #[w1.b,w1.l],.agg #[w2.b,w2.l]] [] [zF w1 (x1),zF w2 (x2)] (Y:=(Wd)) (fun y=>True) (fun y=> .agg #[y.b,y.l]) (fun y=>[]) (fun y=>[zF y (x1*x2)]):=by
  exact zCc (zYc (fun p1 c1 p2 c2=>zje hb1 hb2))
end Go.Proofs.Ytalfgjpbbongcaa.Sp
namespace Go.Proofs.Ytalfgjpbbongcaa.Sp
open Go
set_option linter.unusedVariables false
set_option maxRecDepth 100000
set_option maxHeartbeats 8000000
theorem zOd {s:Bool} {p:Option Addr} {n:Nat} {cap:Nat} {l:List Int} (hn:l.length=n) (ho:Big.okL l) (hln:n≤4398046511104):Con Try.prog 86 [.bool s,.slice p n cap] [] [slF (rI .u32) p cap l] (Y:=(Option Addr)×Nat) (fun y=>True) (fun y=> .agg #[.bool (decide ((Big.sg s (Big.valL l))<0)),.slice (y.1) ((Big.digs ((Big.sg s (Big.valL l)).natAbs)).length) (y.2)]) (fun y=>[]) (fun y=>[slF (rI .u32) (y.1) (y.2) (Big.digs ((Big.sg s (Big.valL l)).natAbs))]):=by
 refine zy Try.func86 rfl rfl rfl (fun c=> ?_)
 show RunC _ _ _ _ _ [(0,.bool s),(1,.slice p n cap)] [] [slF (rI .u32) p cap l]
 refine zda 0 rfl (fun hL0=> ?_)
 refine ze<|za<|zV rfl rfl (zr zr34 rfl) (fun b1=> ?_)
 refine zg<|zc<|ze<|za<|r_pv rfl rfl (zb rfl)<|r_pv rfl rfl (zJ Try.underlying32 rfl)<|r_pv rfl rfl (zd rfl)<|zg<|zc<|ze<|zq<|zha (X:=Nat) (fun x:Nat=>x≤n∧Big.trimL (l.take x)=Big.trimL l) (fun x=>[(5,.int .i64 ((x:Nat):Int)),(4,.pointer (some ⟨b1,0,none⟩)),(0,.bool s),(1,.slice p n cap)]) (fun x=>[boxA b1 34 [.bool false,.slice none 0 0]]) (fun x=>[slF (rI .u32) p cap l]) (fun x:Nat=>x) n (show n≤n∧Big.trimL (l.take n)=Big.trimL l from by exact ⟨by omega,by rw [List.take_of_length_le (by omega)]⟩) ((.of rfl):SubM _ _) (ho:=((.c (i:=0) rfl .n):PickO _ _ _)) ((.c (j:=0) rfl .n):SelR _ _ _) ?_
 rintro k hI
 replace hI:k≤n∧Big.trimL (l.take k)=Big.trimL l:=hI
 try dsimp only
 obtain ⟨hk,hT⟩:=hI
 refine ze<|zLa (X:=Unit) (fun x=>True) (fun x=>[(17,.bool (decide (0<k∧l.getD (k - 1) 0=0))),(5,.int .i64 ((k:Nat):Int)),(4,.pointer (some ⟨b1,0,none⟩)),(0,.bool s),(1,.slice p n cap)]) (fun x=>[boxA b1 34 [.bool false,.slice none 0 0]]) (fun x=>[slF (rI .u32) p cap l]) ?_ ?_
 ·
  refine za<|r_pv rfl rfl (zb rfl)<|r_pv rfl rfl (zOa rfl rfl)<|zpa rfl rfl (zb rfl) (fun h2=> ?_) (fun h2=> ?_)
  ·
   refine r_pv rfl rfl (zb rfl)<|r_pv rfl rfl (zb rfl)<|r_pv rfl rfl (zUa (z:=(((k:Nat):Int) - 1)) rfl rfl (w64 (by omega)))<|zI (x0:=(l.getD ((((k:Nat):Int) - 1).toNat) 0)) 0 ((((k:Nat):Int) - 1).toNat) rfl Try.underlying32 sz95 rfl rfl rfl (by first|rfl|assumption|(simp_all;done)|omega) rfl (by omega) (gD (d:=0) (by omega)) (fun b3 o4 hok5=> ?_)
   replace hok5:=zma.1 hok5
   refine r_u rfl rfl (zw (j:=0) 0 ty95 rfl rfl rfl rfl)<|r_pv rfl rfl (zFa rfl rfl)<|r_pv rfl rfl (zH rfl rfl)<|zg ?_
   exact zja () (show True from by first|trivial|omega|simp_all) ((.e rfl (congrArg Value.bool (by have h1:0<k:=(by omega);have h2:((k:Int) - 1).toNat=k - 1:=(by omega);simp [h1,h2])) (.of rfl)):SubM _ _) (ho:=((.c (i:=0) rfl .n):PickO _ _ _)) ((.c (j:=1) rfl .n):SelR _ _ _)
  ·
   refine zi rfl rfl<|zi rfl rfl<|zi rfl rfl<|zi rfl rfl<|zi rfl rfl<|zi rfl rfl<|r_pv rfl rfl (zH rfl rfl)<|zg ?_
   exact zja () (show True from by first|trivial|omega|simp_all) ((.e rfl (congrArg Value.bool (by have h1:¬0<k:=(by omega);simp [h1])) (.of rfl)):SubM _ _) (ho:=((.c (i:=0) rfl .n):PickO _ _ _)) ((.c (j:=0) rfl .n):SelR _ _ _)
 ·
  rintro ⟨⟩ -
  try dsimp only
  refine zD rfl (fun hc=> ?_) (fun hc=> ?_)
  ·
   refine zu<|zc<|zq<|za<|r_pv rfl rfl (zb rfl)<|r_pv rfl rfl (zUa (z:=(((k - 1):Nat):Int)) rfl rfl (w64 (by omega)))<|r_pv rfl rfl (zd rfl)<|zg<|zA<|zba (k - 1) (show (k - 1)≤n∧Big.trimL (l.take (k - 1))=Big.trimL l from by exact ⟨by omega,by rw [← hT,Big.trim_go l hc.1 (by omega) hc.2]⟩) (by show k - 1<k;omega) ((.e rfl (by first|rfl|(congr 1;omega)|simp_all) (.of rfl)):SubM _ _) (ho:=((.c (i:=0) rfl .n):PickO _ _ _)) ((.c (j:=0) rfl .n):SelR _ _ _)
  ·
   have htr:l.take k=Big.digs (Big.sg s (Big.valL l)).natAbs:=by rw [Big.sg_abs (Big.valL_nonneg ho),←Big.digs_valL ho,←hT];exact (Big.trim_stop l (by omega) hc).symm
   have hlt:(l.take k).length=k:=by rw [List.length_take];omega
   have hsg:=Big.made_sign (s:=s) ho htr hlt
   refine zX<|zj<|zj<|zp<|zc<|ze<|za<|r_pv rfl rfl (zb rfl)<|zuc rfl rfl (zb rfl) (fun hs=> ?_) (fun hs=> ?_)
   ·
    refine r_pv rfl rfl (zb rfl)<|r_pv rfl rfl (zOa rfl rfl)<|r_pv rfl rfl (zH rfl rfl)<|zEa rfl rfl (zP (rI .u32) Try.underlying32 inf95) (fun b6 _=> ?_)
    refine r_pv rfl rfl (zb rfl)<|r_pv rfl rfl (zb rfl)<|r_pv rfl rfl (zlb (hi:=k) Try.underlying32 sz95 rfl (.s rfl) (.inr ⟨_,rfl⟩) (by omega))<|zYb (zwb 0 rfl k (by omega)) (fun _ _=> ?_)
    refine zBa 0 rfl rfl rfl (zW 0 rfl Try.underlying32 inf95 (by decide) rfl rfl (by first|rfl|assumption|(simp_all;done)|omega) rfl (by first|rfl|assumption|(simp_all;done)|omega) (by omega) (by omega)) (fun _=> .z) ?_
    rintro ⟨p7,c8⟩ -
    dsimp only [List.append_eq,List.nil_append,List.cons_append]
    refine r_pv rfl rfl (zM zr34 rfl Try.underlying34 (.c sz4 (.c sz32 .n)) (.c rfl (.c rfl .n)) (.c rfl rfl rfl (.take .nil) (.c rfl rfl rfl (.skip (.take .nil)) .n)))<|zv 1 rfl rfl rfl rfl rfl sz34 rfl (.take (.take .nil)) (.s .z)<|zg<|zc<|zK ?_
    subst hs
    refine zKa 0 rfl .z ?_
    exact zB Try.results86 (p7,c8) trivial (zR 1 ty34 rfl rfl (.take (.take .nil))) (by rw [hsg,←htr,hlt,Nat.zero_add] <;> simp) (ho:=(.n:PickO _ _ _)) ((.e (j:=0) rfl (by rw [htr] <;> rfl) .n):SelR _ _ _)
   ·
    refine zi rfl rfl<|zi rfl rfl<|r_pv rfl rfl (zH rfl rfl)<|zEa rfl rfl (zP (rI .u32) Try.underlying32 inf95) (fun b9 _=> ?_)
    refine r_pv rfl rfl (zb rfl)<|r_pv rfl rfl (zb rfl)<|r_pv rfl rfl (zlb (hi:=k) Try.underlying32 sz95 rfl (.s rfl) (.inr ⟨_,rfl⟩) (by omega))<|zYb (zwb 0 rfl k (by omega)) (fun _ _=> ?_)
    refine zBa 0 rfl rfl rfl (zW 0 rfl Try.underlying32 inf95 (by decide) rfl rfl (by first|rfl|assumption|(simp_all;done)|omega) rfl (by first|rfl|assumption|(simp_all;done)|omega) (by omega) (by omega)) (fun _=> .z) ?_
    rintro ⟨p10,c11⟩ -
    dsimp only [List.append_eq,List.nil_append,List.cons_append]
    refine r_pv rfl rfl (zM zr34 rfl Try.underlying34 (.c sz4 (.c sz32 .n)) (.c rfl (.c rfl .n)) (.c rfl rfl rfl (.take .nil) (.c rfl rfl rfl (.skip (.take .nil)) .n)))<|zv 1 rfl rfl rfl rfl rfl sz34 rfl (.take (.take .nil)) (.s .z)<|zg<|zc<|zK ?_
    subst hs
    refine zKa 0 rfl .z ?_
    exact zB Try.results86 (p10,c11) trivial (zR 1 ty34 rfl rfl (.take (.take .nil))) (by rw [hsg,←htr,hlt,Nat.zero_add] <;> simp) (ho:=(.n:PickO _ _ _)) ((.e (j:=0) rfl (by rw [htr] <;> rfl) .n):SelR _ _ _)
theorem zFe {z:Int} (hz: -9223372036854775808≤z∧z≤9223372036854775807):Con Try.prog 45 [.int .i64 z] [] [] (Y:=(Option Addr)×Nat) (fun y=>True) (fun y=> .agg #[.bool (decide (z<0)),.slice (y.1) ((Big.digs ((z).natAbs)).length) (y.2)]) (fun y=>[]) (fun y=>[slF (rI .u32) (y.1) (y.2) (Big.digs ((z).natAbs))]):=by
 refine zy Try.func45 rfl rfl rfl (fun c=> ?_)
 show RunC _ _ _ _ _ [(0,.int .i64 z)] [] []
 refine ze<|za<|zV rfl rfl (zr zr34 rfl) (fun b1=> ?_)
 refine zg<|zc<|ze<|za<|r_pv rfl rfl (zb rfl)<|r_pv rfl rfl (zJa (z:=(z%18446744073709551616)) rfl (by rw [Try.underlying3];rfl) Try.underlying123 (wu64m (by omega)))<|r_pv rfl rfl (zd rfl)<|zg<|zc<|zLa (X:=Unit) (fun x=>True) (fun x=>[(3,.int .u64 ((z.natAbs:Nat):Int)),(2,.pointer (some ⟨b1,0,none⟩)),(0,.int .i64 z)]) (fun x=>[boxA b1 34 [.bool false,.slice none 0 0]]) (fun x=>[]) ?_ ?_
 ·
  refine ze<|za<|r_pv rfl rfl (zb rfl)<|r_pv rfl rfl (zE rfl rfl)<|zg<|zc<|zD rfl (fun hs=> ?_) (fun hs=> ?_)
  ·
   refine za<|r_pv rfl rfl (zb rfl)<|r_pv rfl rfl (zC (z:=(z+1)) rfl rfl (w64 (by omega)))<|r_pv rfl rfl (zme (z:=(-(z+1))) rfl (w64 (by omega)))<|r_pv rfl rfl (zJa (z:=(-(z+1))) rfl (by rw [Try.underlying3];rfl) Try.underlying123 (wu64 (by omega)))<|r_pv rfl rfl (zC (z:=((z.natAbs:Nat):Int)) rfl rfl (wu64 (by omega)))<|r_pv rfl rfl (zd rfl)<|zg ?_
   exact zja () (show True from by first|trivial|omega|simp_all) ((.of rfl):SubM _ _) (ho:=((.c (i:=0) rfl .n):PickO _ _ _)) (.n:SelR _ _ _)
  ·
   have e2:((z%18446744073709551616):Int)=((z.natAbs:Nat):Int):=by omega
   rw [e2]
   refine zu ?_
   exact zja () (show True from by first|trivial|omega|simp_all) ((.of rfl):SubM _ _) (ho:=((.c (i:=0) rfl .n):PickO _ _ _)) (.n:SelR _ _ _)
 ·
  rintro ⟨⟩ -
  try dsimp only
  refine ze<|za<|zEa rfl rfl (zP (rI .u32) Try.underlying32 inf95) (fun b3 _=> ?_)
  refine r_pv rfl rfl (zd rfl)<|zg<|zc<|ze<|zq<|zha (X:=Nat×(Option Addr)×Nat×(List Int)) (fun x:Nat×(Option Addr)×Nat×(List Int)=>x.1≤z.natAbs∧x.2.2.2++Big.digs x.1=Big.digs z.natAbs) (fun x=>[(4,.slice (x.2.1) (x.2.2.2.length) (x.2.2.1)),(3,.int .u64 ((x.1:Nat):Int)),(2,.pointer (some ⟨b1,0,none⟩)),(0,.int .i64 z)]) (fun x=>[rowA 95 (rI .u32) (x.2.1) (x.2.2.1) (x.2.2.2),boxA b1 34 [.bool false,.slice none 0 0]]) (fun x=>[]) (fun x:Nat×(Option Addr)×Nat×(List Int)=>x.1) (z.natAbs,some ⟨b3,0,none⟩,0,[]) (show z.natAbs≤z.natAbs∧([])++Big.digs z.natAbs=Big.digs z.natAbs from by exact ⟨Nat.le_refl _,rfl⟩) ((.e rfl (by first|rfl|(congr 1;omega)|simp_all) (.of rfl)):SubM _ _) (ho:=((.of [0,0] rfl):PickO _ _ _)) (.n:SelR _ _ _) ?_
  rintro ⟨m,p,c,os⟩ hI
  replace hI:m≤z.natAbs∧os++Big.digs m=Big.digs z.natAbs:=hI
  try dsimp only
  obtain ⟨hnn,hos⟩:=hI
  have hlen0:os.length+(Big.digs m).length≤3:=by have:=congrArg List.length hos;rw [List.length_append] at this;have:=Big.zCd (show z.natAbs<18446744073709551616 by omega);omega
  refine ze<|ze<|za<|r_pv rfl rfl (zb rfl)<|r_pv rfl rfl (zOa rfl rfl)<|zg<|zc<|zD rfl (fun h4=> ?_) (fun h4=> ?_)
  ·
   refine zu<|zc<|zq<|ze<|za<|r_pv rfl rfl (zb rfl)<|r_pv rfl rfl (zb rfl)<|r_pv rfl rfl (zgb (z:=(((m%1000000000):Nat):Int)) rfl rfl (by omega) (remN (by omega) (by omega)))<|r_pv rfl rfl (zJa (z:=(((m%1000000000):Nat):Int)) rfl (by rw [Try.underlying123];rfl) Try.underlying95 (wu32 (by omega)))<|zEa rfl rfl (zz (enc:=fun z:Int=>[.int .u32 z]) (ok:=InK .u32) (h1:=fun _=>rfl) (h2:=fun _=>rfl) (k:=1) Try.underlying32 inf95 rfl (by decide) (by decide) (by decide) (.c (x:=(((m%1000000000):Nat):Int)) rfl rfl (fun _ _=>by exact zma.2 (by omega)) .n)) (fun b5 _=> ?_)
   refine zxa 0 rfl .z<|zBa 1 rfl rfl rfl (zW 0 rfl Try.underlying32 inf95 (by decide) rfl rfl (by first|rfl|assumption|(simp_all;done)|omega) rfl (by first|rfl|assumption|(simp_all;done)|omega) (by omega) (by omega)) (fun _=>(.s .z)) ?_
   rintro ⟨p6,c7⟩ -
   dsimp only [List.append_eq,List.nil_append,List.cons_append]
   refine r_pv rfl rfl (zd rfl)<|zg<|zc<|za<|r_pv rfl rfl (zb rfl)<|r_pv rfl rfl (zrc (z:=(((m / 1000000000):Nat):Int)) rfl rfl (by omega) (by rw [quoN (z:=(((m / 1000000000):Nat):Int)) (by omega) (by omega)];exact wu64 (by omega)))<|r_pv rfl rfl (zd rfl)<|zg<|zA<|zba ((m / 1000000000),p6,c7,os++[((m%1000000000:Nat):Int)]) (show (m / 1000000000)≤z.natAbs∧(os++[((m%1000000000:Nat):Int)])++Big.digs (m / 1000000000)=Big.digs z.natAbs from by exact ⟨by omega,Big.split_step (by omega) hos⟩) (by show m / 1000000000<m;omega) ((.e rfl (by simp) (.of rfl)):SubM _ _) (ho:=((.e (i:=1) rfl (by first|rfl|(congr 1;omega)|simp_all) (.c (i:=1) rfl .n)):PickO _ _ _)) (.n:SelR _ _ _)
  ·
   have hm0:m=0:=by omega
   subst hm0
   have hd:os=Big.digs z.natAbs:=by simpa [Big.digs_zero] using hos
   have hok:Big.okL os:=by rw [hd];exact Big.digs_ok _
   have hlen:os.length≤3:=by rw [hd];exact Big.zCd (by omega)
   have hsg:Big.sg (decide (z<0)) (Big.valL os)=z:=by rw [hd,Big.valL_digs];exact Big.sg_big z
   refine zX<|zj<|zj<|zp<|zc<|ze<|za<|r_pv rfl rfl (zb rfl)<|r_pv rfl rfl (zE rfl rfl)<|r_pv rfl rfl (zb rfl)<|zxa 0 rfl .z<|zfa rfl rfl (.c rfl (.c rfl .n)) ce86 (zOd (s:=decide (z<0)) (p:=p) (n:=os.length) (cap:=c) (l:=os) (hn:=by first|rfl|omega) (ho:=by exact hok) (hln:=by first|rfl|omega)) (.c (j:=0) rfl .n) ?_
   rintro ⟨p28,c29⟩ -
   dsimp only [List.append_eq,List.nil_append,List.cons_append]
   refine zv 1 rfl rfl rfl rfl rfl sz34 rfl (.take (.take .nil)) (.s .z)<|zg<|zc<|zK ?_
   exact zB Try.results45 (p28,c29) trivial (zR 1 ty34 rfl rfl (.take (.take .nil))) (by rw [hsg]) (ho:=(.n:PickO _ _ _)) ((.e (j:=0) rfl (by rw [hsg]) .n):SelR _ _ _)
theorem zke {z:Int} (hz: -9223372036854775808≤z∧z≤9223372036854775807):Con Try.prog 45 [.int .i64 (z)] [] [] (Y:=(Wd)) (fun y=>True) (fun y=> .agg #[y.b,y.l]) (fun y=>[]) (fun y=>[zF y (z)]):=by
  exact zCc (zFe hz)
end Go.Proofs.Ytalfgjpbbongcaa.Sp
namespace Go.Proofs.Ytalfgjpbbongcaa.Sp
open Go
set_option linter.unusedVariables false
set_option maxRecDepth 100000
set_option maxHeartbeats 8000000
theorem zPd {s:Bool} {p1:Option Addr} {n1:Nat} {c1:Nat} {l1:List Int} {t:Bool} {p2:Option Addr} {n2:Nat} {c2:Nat} {l2:List Int} (hn1:l1.length=n1) (hn2:l2.length=n2):Con Try.prog 18 [.agg #[.bool s,.slice p1 n1 c1],.agg #[.bool t,.slice p2 n2 c2]] [] [slF (rI .u32) p1 c1 l1,slF (rI .u32) p2 c2 l2] (Y:=Unit) (fun y=>True) (fun y=> .bool (decide (s=t∧l1=l2))) (fun y=>[]) (fun y=>[]):=by
 refine zy Try.func18 rfl rfl rfl (fun c=> ?_)
 show RunC _ _ _ _ _ [(0,.agg #[.bool s,.slice p1 n1 c1]),(1,.agg #[.bool t,.slice p2 n2 c2])] [] [slF (rI .u32) p1 c1 l1,slF (rI .u32) p2 c2 l2]
 refine zda 0 rfl (fun hL0=> ?_)
 refine zda 1 rfl (fun hL1=> ?_)
 refine ze<|za<|zV rfl rfl (zla rfl rfl) (fun b1=> ?_)
 refine zV rfl rfl (zla rfl rfl) (fun b2=> ?_)
 refine r_pv rfl rfl (zd rfl)<|zg<|zc<|ze<|zLa (X:=Unit) (fun x=>True) (fun x=>[(19,.bool (decide (¬(s=t∧n1=n2)))),(4,.bool false),(3,.pointer (some ⟨b2,0,none⟩)),(2,.pointer (some ⟨b1,0,none⟩))]) (fun x=>[boxA b2 34 [.bool t,.slice p2 n2 c2],boxA b1 34 [.bool s,.slice p1 n1 c1]]) (fun x=>[slF (rI .u32) p1 c1 l1,slF (rI .u32) p2 c2 l2]) ?_ ?_
 ·
  refine za<|r_pv rfl rfl (zn Try.underlying34 rfl sz4 rfl rfl)<|r_u rfl rfl (zf 1 ty4 rfl rfl rfl)<|r_pv rfl rfl (zn Try.underlying34 rfl sz4 rfl rfl)<|r_u rfl rfl (zf 0 ty4 rfl rfl rfl)<|r_pv rfl rfl (zJb Try.underlying4 rfl rfl)<|zpa rfl rfl (zb rfl) (fun h3=> ?_) (fun h3=> ?_)
  ·
   refine zi rfl rfl<|zi rfl rfl<|zi rfl rfl<|zi rfl rfl<|zi rfl rfl<|zi rfl rfl<|zi rfl rfl<|r_pv rfl rfl (zH rfl rfl)<|zg ?_
   exact zja () (show True from by first|trivial|omega|simp_all) ((.e rfl (congrArg Value.bool (by simp_all)) (.of rfl)):SubM _ _) (ho:=((.of [0,0] rfl):PickO _ _ _)) ((.of [0,1] rfl):SelR _ _ _)
  ·
   refine r_pv rfl rfl (zn Try.underlying34 rfl sz32 rfl rfl)<|r_u rfl rfl (zf 1 ty32 rfl rfl rfl)<|r_pv rfl rfl (zJ Try.underlying32 rfl)<|r_pv rfl rfl (zn Try.underlying34 rfl sz32 rfl rfl)<|r_u rfl rfl (zf 0 ty32 rfl rfl rfl)<|r_pv rfl rfl (zJ Try.underlying32 rfl)<|r_pv rfl rfl (zMa rfl rfl)<|r_pv rfl rfl (zH rfl rfl)<|zg ?_
   exact zja () (show True from by first|trivial|omega|simp_all) ((.e rfl (congrArg Value.bool (by simp_all;try omega)) (.of rfl)):SubM _ _) (ho:=((.of [0,0] rfl):PickO _ _ _)) ((.of [0,1] rfl):SelR _ _ _)
 ·
  rintro ⟨⟩ -
  try dsimp only
  refine zD rfl (fun hne=> ?_) (fun hne=> ?_)
  ·
   refine ze<|za<|r_pv rfl rfl (zd rfl)<|zg<|zc<|zK<|zk ?_
   exact zB Try.results18 () trivial (zx rfl) (congrArg Value.bool (decide_eq_false (fun h=>hne ⟨h.1,by rw [← hn1,←hn2,h.2]⟩))) (ho:=(.n:PickO _ _ _)) (.n:SelR _ _ _)
  ·
   replace hne:s=t∧n1=n2:=Decidable.not_not.1 hne
   refine zu<|zc<|ze<|ze<|za<|r_pv rfl rfl (zd rfl)<|zg<|zc<|zq<|zha (X:=Nat) (fun x:Nat=>x≤n1∧∀j,j<x→l1.getD j 0=l2.getD j 0) (fun x=>[(5,.int .i64 ((x:Nat):Int)),(3,.pointer (some ⟨b2,0,none⟩)),(2,.pointer (some ⟨b1,0,none⟩))]) (fun x=>[boxA b2 34 [.bool t,.slice p2 n2 c2],boxA b1 34 [.bool s,.slice p1 n1 c1]]) (fun x=>[slF (rI .u32) p1 c1 l1,slF (rI .u32) p2 c2 l2]) (fun x:Nat=>n1 - x) 0 (show 0≤n1∧∀j,j<0→l1.getD j 0=l2.getD j 0 from by exact ⟨by omega,fun j h=>by omega⟩) ((.e rfl (by first|rfl|(congr 1;omega)|simp_all) (.c rfl (.c rfl .n))):SubM _ _) (ho:=((.of [0,0] rfl):PickO _ _ _)) ((.of [0,1] rfl):SelR _ _ _) ?_
   rintro i hI
   replace hI:i≤n1∧∀j,j<i→l1.getD j 0=l2.getD j 0:=hI
   try dsimp only
   obtain ⟨hi,hall⟩:=hI
   refine ze<|ze<|za<|r_pv rfl rfl (zb rfl)<|r_pv rfl rfl (zn Try.underlying34 rfl sz32 rfl rfl)<|r_u rfl rfl (zf 1 ty32 rfl rfl rfl)<|r_pv rfl rfl (zJ Try.underlying32 rfl)<|r_pv rfl rfl (zE rfl rfl)<|zg<|zc<|zD rfl (fun h4=> ?_) (fun h4=> ?_)
   ·
    refine zu<|zc<|ze<|zq<|ze<|zva (OW:=[]) (O:=[boxA b2 34 [.bool t,.slice p2 n2 c2],boxA b1 34 [.bool s,.slice p1 n1 c1]]) 100000 mixed (.then (.block (.then (.then (.block (.then .ret)))))) (by kernel_rfl)<|d_pv 0 rfl rfl (by kernel_rfl) (by kernel_rfl) rfl rfl (zn Try.underlying34 rfl sz32 rfl rfl)<|d_u 1 rfl rfl (by kernel_rfl) (by kernel_rfl) rfl rfl (zf 1 ty32 rfl rfl rfl)<|d_pv 2 rfl rfl (by kernel_rfl) (by kernel_rfl) rfl rfl (zb rfl)<|zka (x0:=(l1.getD i 0)) 3 rfl rfl (by kernel_rfl) (by kernel_rfl) 0 i rfl Try.underlying32 sz95 rfl rfl rfl (by first|rfl|assumption|(simp_all;done)|omega) rfl rfl (gD (d:=0) (by omega)) (fun b5 o6 hok7=> ?_)
    replace hok7:=zma.1 hok7
    refine d_u 4 rfl rfl (by kernel_rfl) (by kernel_rfl) rfl rfl (zw (j:=0) 0 ty95 rfl rfl rfl rfl)<|d_pv 5 rfl rfl (by kernel_rfl) (by kernel_rfl) rfl rfl (zn Try.underlying34 rfl sz32 rfl rfl)<|d_u 6 rfl rfl (by kernel_rfl) (by kernel_rfl) rfl rfl (zf 0 ty32 rfl rfl rfl)<|d_pv 7 rfl rfl (by kernel_rfl) (by kernel_rfl) rfl rfl (zb rfl)<|zka (x0:=(l2.getD i 0)) 8 rfl rfl (by kernel_rfl) (by kernel_rfl) 2 i rfl Try.underlying32 sz95 rfl rfl rfl (by first|rfl|assumption|(simp_all;done)|omega) rfl rfl (gD (d:=0) (by omega)) (fun b8 o9 hok10=> ?_)
    replace hok10:=zma.1 hok10
    refine d_u 9 rfl rfl (by kernel_rfl) (by kernel_rfl) rfl rfl (zw (j:=0) 0 ty95 rfl rfl rfl rfl)<|d_pv 10 rfl rfl (by kernel_rfl) (by kernel_rfl) rfl rfl (zMa rfl rfl)<|zwa (by kernel_rfl)<|zc<|zD rfl (fun hd=> ?_) (fun hd=> ?_)
    ·
     refine ze<|za<|r_pv rfl rfl (zd rfl)<|zg<|zc<|zK<|zo<|zk<|zk<|zo<|zk ?_
     exact zB Try.results18 () trivial (zx rfl) (congrArg Value.bool (decide_eq_false (fun h=>hd (by rw [h.2])))) (ho:=(.n:PickO _ _ _)) (.n:SelR _ _ _)
    ·
     refine zu<|zA<|zc<|za<|r_pv rfl rfl (zb rfl)<|r_pv rfl rfl (zC (z:=(((i+1):Nat):Int)) rfl rfl (w64 (by omega)))<|r_pv rfl rfl (zd rfl)<|zg<|zba (i+1) (show (i+1)≤n1∧∀j,j<(i+1)→l1.getD j 0=l2.getD j 0 from by refine ⟨by omega,fun j hj=> ?_⟩;by_cases e:j=i;subst e;omega;exact hall j (by omega)) (by show n1 - (i+1)<n1 - i;omega) ((.of rfl):SubM _ _) (ho:=((.of [0,0] rfl):PickO _ _ _)) ((.of [2,3] rfl):SelR _ _ _)
   ·
    refine zX<|zj<|zj<|zp<|zc<|ze<|za<|r_pv rfl rfl (zd rfl)<|zg<|zc<|zK ?_
    exact zB Try.results18 () trivial (zx rfl) (congrArg Value.bool (decide_eq_true ⟨hne.1,Big.ext_getD (by omega) (fun j hj=>hall j (by omega))⟩)) (ho:=(.n:PickO _ _ _)) (.n:SelR _ _ _)
theorem zjd {x1:Int} {x2:Int} {p1:Option Addr} {c1:Nat} {p2:Option Addr} {c2:Nat}:Con Try.prog 18 [.agg #[.bool (decide ((x1)<0)),.slice (p1) ((Big.digs ((x1).natAbs)).length) (c1)],.agg #[.bool (decide ((x2)<0)),.slice (p2) ((Big.digs ((x2).natAbs)).length) (c2)]] [] [slF (rI .u32) (p1) (c1) (Big.digs ((x1).natAbs)),slF (rI .u32) (p2) (c2) (Big.digs ((x2).natAbs))] (Y:=Unit) (fun y=>True) (fun y=> .bool (decide (x1=x2))) (fun y=>[]) (fun y=>[]):=by
  have h:= @zPd (decide ((x1)<0)) p1 (Big.digs (x1).natAbs).length c1 (Big.digs (x1).natAbs) (decide ((x2)<0)) p2 (Big.digs (x2).natAbs).length c2 (Big.digs (x2).natAbs) rfl rfl
  rw [show decide (decide ((x1)<0)=decide ((x2)<0)∧Big.digs (x1).natAbs=Big.digs (x2).natAbs)=decide (x1=x2) from decide_eq_decide.2 Big.same_iff] at h
  exact h
theorem zkd {w1:Wd} {w2:Wd} {x1:Int} {x2:Int}:Con Try.prog 18 [.agg #[w1.b,w1.l],.agg #[w2.b,w2.l]] [] [zF w1 (x1),zF w2 (x2)] (Y:=Unit) (fun y=>True) (fun y=> .bool (decide (x1=x2))) (fun y=>[]) (fun y=>[]):=by
  exact zYc (fun p1 c1 p2 c2=>zjd)
end Go.Proofs.Ytalfgjpbbongcaa.Sp
namespace Go.Proofs.Ytalfgjpbbongcaa.Sp
open Go
set_option linter.unusedVariables false
set_option maxRecDepth 100000
set_option maxHeartbeats 8000000
theorem zra {ex:Int} {ey:Int} {ez:Int} {fx:Int} {fy:Int} {fz:Int} (hbex: -4611686018427387903≤ex∧ex≤4611686018427387903) (hbey: -4611686018427387903≤ey∧ey≤4611686018427387903) (hbez: -4611686018427387903≤ez∧ez≤4611686018427387903) (hbfx: -4611686018427387903≤fx∧fx≤4611686018427387903) (hbfy: -4611686018427387903≤fy∧fy≤4611686018427387903) (hbfz: -4611686018427387903≤fz∧fz≤4611686018427387903):Con Try.prog 58 [.agg #[.int .i64 ex,.int .i64 ey,.int .i64 ez],.agg #[.int .i64 fx,.int .i64 fy,.int .i64 fz]] [] [] (Y:=Wd×Wd×Wd) (fun y=>True) (fun y=> .agg #[y.1.b,y.1.l,y.2.1.b,y.2.1.l,y.2.2.b,y.2.2.l]) (fun y=>[]) (fun y=>[zF y.1 (fx - ex),zF y.2.1 (fy - ey),zF y.2.2 (fz - ez)]):=by
 refine zy Try.func58 rfl rfl rfl (fun c=> ?_)
 show RunC _ _ _ _ _ [(0,.agg #[.int .i64 ex,.int .i64 ey,.int .i64 ez]),(1,.agg #[.int .i64 fx,.int .i64 fy,.int .i64 fz])] [] []
 refine ze<|za<|zV rfl rfl (zla rfl rfl) (fun b1=> ?_)
 refine zV rfl rfl (zla rfl rfl) (fun b2=> ?_)
 refine zV rfl rfl (zr zr89 rfl) (fun b3=> ?_)
 refine zg<|zc<|ze<|zva (OW:=[boxA b3 89 [.bool false,.slice none 0 0,.bool false,.slice none 0 0,.bool false,.slice none 0 0]]) (O:=[boxA b2 42 [.int .i64 fx,.int .i64 fy,.int .i64 fz],boxA b1 42 [.int .i64 ex,.int .i64 ey,.int .i64 ez]]) 19 mixed (.then .ret) (by kernel_rfl)<|d_pv 0 rfl rfl (by kernel_rfl) (by kernel_rfl) rfl rfl (zn Try.underlying42 rfl sz3 rfl rfl)<|d_uw 1 rfl rfl (by kernel_rfl) (by kernel_rfl) (by kernel_rfl) rfl rfl (zf 1 ty3 rfl rfl rfl)<|d_pv 2 rfl rfl (by kernel_rfl) (by kernel_rfl) rfl rfl (zn Try.underlying42 rfl sz3 rfl rfl)<|d_uw 3 rfl rfl (by kernel_rfl) (by kernel_rfl) (by kernel_rfl) rfl rfl (zf 2 ty3 rfl rfl rfl)<|d_pv 4 rfl rfl (by kernel_rfl) (by kernel_rfl) rfl rfl (zUa (z:=(fx - ex)) rfl rfl (w64 (by omega)))<|d_pv 6 rfl rfl (by kernel_rfl) (by kernel_rfl) rfl rfl (zn Try.underlying42 rfl sz3 rfl rfl)<|d_uw 7 rfl rfl (by kernel_rfl) (by kernel_rfl) (by kernel_rfl) rfl rfl (zf 1 ty3 rfl rfl rfl)<|d_pv 8 rfl rfl (by kernel_rfl) (by kernel_rfl) rfl rfl (zn Try.underlying42 rfl sz3 rfl rfl)<|d_uw 9 rfl rfl (by kernel_rfl) (by kernel_rfl) (by kernel_rfl) rfl rfl (zf 2 ty3 rfl rfl rfl)<|d_pv 10 rfl rfl (by kernel_rfl) (by kernel_rfl) rfl rfl (zUa (z:=(fy - ey)) rfl rfl (w64 (by omega)))<|d_pv 12 rfl rfl (by kernel_rfl) (by kernel_rfl) rfl rfl (zn Try.underlying42 rfl sz3 rfl rfl)<|d_uw 13 rfl rfl (by kernel_rfl) (by kernel_rfl) (by kernel_rfl) rfl rfl (zf 1 ty3 rfl rfl rfl)<|d_pv 14 rfl rfl (by kernel_rfl) (by kernel_rfl) rfl rfl (zn Try.underlying42 rfl sz3 rfl rfl)<|d_uw 15 rfl rfl (by kernel_rfl) (by kernel_rfl) (by kernel_rfl) rfl rfl (zf 2 ty3 rfl rfl rfl)<|d_pv 16 rfl rfl (by kernel_rfl) (by kernel_rfl) rfl rfl (zUa (z:=(fz - ez)) rfl rfl (w64 (by omega)))<|zO 5 (by kernel_rfl) (zL rfl rfl rfl rfl (.c rfl .n) ce57 (zTb (z:=(fx - ex)) (hz:=by first|rfl|assumption|omega|(simp;done)|(simp;omega)|(simp_all;done))) (.n) ?_)
 rintro w34 -
 dsimp only [List.append_eq,List.nil_append,List.cons_append]
 refine zO 11 (by kernel_rfl) (zL rfl rfl rfl rfl (.c rfl .n) ce57 (zTb (z:=(fy - ey)) (hz:=by first|rfl|assumption|omega|(simp;done)|(simp;omega)|(simp_all;done))) (.n) ?_)
 rintro w35 -
 dsimp only [List.append_eq,List.nil_append,List.cons_append]
 refine zO 17 (by kernel_rfl) (zL rfl rfl rfl rfl (.c rfl .n) ce57 (zTb (z:=(fz - ez)) (hz:=by first|rfl|assumption|omega|(simp;done)|(simp;omega)|(simp_all;done))) (.n) ?_)
 rintro w36 -
 dsimp only [List.append_eq,List.nil_append,List.cons_append]
 refine d_pv 18 rfl rfl (by kernel_rfl) (by kernel_rfl) rfl rfl (zT zr89 rfl Try.underlying89 sz34 (.c rfl (.c rfl (.c rfl .n))) (.c rfl rfl rfl (.take (.take .nil)) (.c rfl rfl rfl (.skip (.skip (.take (.take .nil)))) (.c rfl rfl rfl (.skip (.skip (.skip (.skip (.take (.take .nil)))))) .n))))<|zO 19 (by kernel_rfl) (zca (by kernel_rfl) rfl rfl rfl rfl rfl sz89 rfl (.take (.take (.take (.take (.take (.take .nil)))))) ?_)
 refine zwa (by kernel_rfl)<|zc<|zK ?_
 exact zB Try.results58 (w34,w35,w36) trivial (zR 0 ty89 rfl rfl (.take (.take (.take (.take (.take (.take .nil))))))) rfl (ho:=(.n:PickO _ _ _)) ((.of [2,1,0] rfl):SelR _ _ _)
theorem zGe {ex:Int} {ey:Int} {ez:Int} {wa0:Wd} {wa1:Wd} {wa2:Wd} {fx:Int} {fy:Int} {fz:Int} {wb0:Wd} {wb1:Wd} {wb2:Wd} (hlex:Big.ln ex≤1000) (hley:Big.ln ey≤1000) (hlez:Big.ln ez≤1000) (hlfx:Big.ln fx≤1000) (hlfy:Big.ln fy≤1000) (hlfz:Big.ln fz≤1000):Con Try.prog 60 [.agg #[wa0.b,wa0.l,wa1.b,wa1.l,wa2.b,wa2.l],.agg #[wb0.b,wb0.l,wb1.b,wb1.l,wb2.b,wb2.l]] [] [zF wa0 ex,zF wa1 ey,zF wa2 ez,zF wb0 fx,zF wb1 fy,zF wb2 fz] (Y:=Wd) (fun y=>True) (fun y=> .agg #[y.b,y.l]) (fun y=>[]) (fun y=>[zF y (Ms.dot (ex,ey,ez) (fx,fy,fz))]):=by
 refine zy Try.func60 rfl rfl rfl (fun c=> ?_)
 show RunC _ _ _ _ _ [(0,.agg #[wa0.b,wa0.l,wa1.b,wa1.l,wa2.b,wa2.l]),(1,.agg #[wb0.b,wb0.l,wb1.b,wb1.l,wb2.b,wb2.l])] [] [zF wa0 ex,zF wa1 ey,zF wa2 ez,zF wb0 fx,zF wb1 fy,zF wb2 fz]
 have hnexfx:=Big.zdb ex fx
 have hneyfy:=Big.zdb ey fy
 have hnezfz:=Big.zdb ez fz
 have ha0:=Big.zBd
 have ha1:=Big.zRb 0 (ex*fx)
 have ha2:=Big.zRb (0+ex*fx) (ey*fy)
 have ha3:=Big.zRb ((0+ex*fx)+ey*fy) (ez*fz)
 refine ze<|za<|zV rfl rfl (zla rfl rfl) (fun b1=> ?_)
 refine zV rfl rfl (zla rfl rfl) (fun b2=> ?_)
 refine zV rfl rfl (zr zr34 rfl) (fun b3=> ?_)
 refine zg<|zc<|ze<|za<|zfa rfl rfl (.c rfl .n) ce57 (zTb (z:=(0:Int)) (hz:=by first|omega|rfl)) (.n) ?_
 rintro w34 -
 dsimp only [List.append_eq,List.nil_append,List.cons_append]
 refine zV rfl rfl (zr zr34 rfl) (fun b5=> ?_)
 refine zv 0 rfl rfl rfl rfl rfl sz34 rfl (.take (.take .nil)) .z<|zg<|zc<|ze<|ze<|za<|r_pv rfl rfl (zb rfl)<|zg<|zc<|zq<|zbb<|zaa<|ze<|za<|r_pv rfl rfl (zE rfl rfl)<|zg<|zc<|ze<|zZ rfl rfl<|zu<|zc<|ze<|zq<|ze<|za<|r_pv rfl rfl (zb rfl)<|r_pv rfl rfl (zd rfl)<|zg<|zc<|zva (OW:=[boxA b5 34 [w34.b,w34.l]]) (O:=[boxA b3 34 [.bool false,.slice none 0 0],boxA b2 89 [wb0.b,wb0.l,wb1.b,wb1.l,wb2.b,wb2.l],boxA b1 89 [wa0.b,wa0.l,wa1.b,wa1.l,wa2.b,wa2.l]]) 9 mixed (.block (.then (.then (.block (.then .ret))))) (by kernel_rfl)<|d_uw 0 rfl rfl (by kernel_rfl) (by kernel_rfl) (by kernel_rfl) rfl rfl (zh 0 ty34 rfl rfl (.take (.take .nil)))<|d_pv 1 rfl rfl (by kernel_rfl) (by kernel_rfl) rfl rfl (zb rfl)<|d_pv 2 rfl rfl (by kernel_rfl) (by kernel_rfl) rfl rfl (zm (i:=0) Try.underlying89 sz34 rfl rfl (by decide) rfl)<|d_uw 3 rfl rfl (by kernel_rfl) (by kernel_rfl) (by kernel_rfl) rfl rfl (zh 3 ty34 rfl rfl (.take (.take .nil)))<|d_pv 4 rfl rfl (by kernel_rfl) (by kernel_rfl) rfl rfl (zb rfl)<|d_pv 5 rfl rfl (by kernel_rfl) (by kernel_rfl) rfl rfl (zm (i:=0) Try.underlying89 sz34 rfl rfl (by decide) rfl)<|d_uw 6 rfl rfl (by kernel_rfl) (by kernel_rfl) (by kernel_rfl) rfl rfl (zh 2 ty34 rfl rfl (.take (.take .nil)))<|zO 7 (by kernel_rfl) (zL rfl rfl rfl rfl (.c rfl (.c rfl .n)) ce92 (zXa (w1:=wa0) (w2:=wb0) (x1:=ex) (x2:=fx) (hb1:=by first|omega|rfl) (hb2:=by first|omega|rfl)) (.c (j:=1) rfl (.c (j:=4) rfl .n)) ?_)
 rintro w36 -
 dsimp only [List.append_eq,List.nil_append,List.cons_append]
 refine zO 8 (by kernel_rfl) (zL rfl rfl rfl rfl (.c rfl (.c rfl .n)) ce59 (zGb (w1:=w34) (w2:=w36) (x1:=(0:Int)) (x2:=ex*fx) (hb1:=by first|omega|rfl) (hb2:=by first|omega|rfl)) (.c (j:=1) rfl (.c (j:=0) rfl .n)) ?_)
 rintro w37 -
 dsimp only [List.append_eq,List.nil_append,List.cons_append]
 refine zO 9 (by kernel_rfl) (zca (by kernel_rfl) rfl rfl rfl rfl rfl sz34 rfl (.take (.take .nil)) ?_)
 refine zwa (by kernel_rfl)<|zA<|zc<|za<|r_pv rfl rfl (zC (z:=1) rfl rfl (w64 (by decide)))<|r_pv rfl rfl (zb rfl)<|zg<|zna<|zaa<|ze<|za<|r_pv rfl rfl (zE rfl rfl)<|zg<|zc<|ze<|zZ rfl rfl<|zu<|zc<|ze<|zq<|ze<|za<|r_pv rfl rfl (zb rfl)<|r_pv rfl rfl (zd rfl)<|zg<|zc<|zva (OW:=[boxA b5 34 [w37.b,w37.l]]) (O:=[boxA b3 34 [.bool false,.slice none 0 0],boxA b2 89 [wb0.b,wb0.l,wb1.b,wb1.l,wb2.b,wb2.l],boxA b1 89 [wa0.b,wa0.l,wa1.b,wa1.l,wa2.b,wa2.l]]) 9 mixed (.block (.then (.then (.block (.then .ret))))) (by kernel_rfl)<|d_uw 0 rfl rfl (by kernel_rfl) (by kernel_rfl) (by kernel_rfl) rfl rfl (zh 0 ty34 rfl rfl (.take (.take .nil)))<|d_pv 1 rfl rfl (by kernel_rfl) (by kernel_rfl) rfl rfl (zb rfl)<|d_pv 2 rfl rfl (by kernel_rfl) (by kernel_rfl) rfl rfl (zm (i:=1) Try.underlying89 sz34 rfl rfl (by decide) rfl)<|d_uw 3 rfl rfl (by kernel_rfl) (by kernel_rfl) (by kernel_rfl) rfl rfl (zh 3 ty34 rfl rfl (.skip (.skip (.take (.take .nil)))))<|d_pv 4 rfl rfl (by kernel_rfl) (by kernel_rfl) rfl rfl (zb rfl)<|d_pv 5 rfl rfl (by kernel_rfl) (by kernel_rfl) rfl rfl (zm (i:=1) Try.underlying89 sz34 rfl rfl (by decide) rfl)<|d_uw 6 rfl rfl (by kernel_rfl) (by kernel_rfl) (by kernel_rfl) rfl rfl (zh 2 ty34 rfl rfl (.skip (.skip (.take (.take .nil)))))<|zO 7 (by kernel_rfl) (zL rfl rfl rfl rfl (.c rfl (.c rfl .n)) ce92 (zXa (w1:=wa1) (w2:=wb1) (x1:=ey) (x2:=fy) (hb1:=by first|omega|rfl) (hb2:=by first|omega|rfl)) (.c (j:=4) rfl (.c (j:=7) rfl .n)) ?_)
 rintro w38 -
 dsimp only [List.append_eq,List.nil_append,List.cons_append]
 refine zO 8 (by kernel_rfl) (zL rfl rfl rfl rfl (.c rfl (.c rfl .n)) ce59 (zGb (w1:=w37) (w2:=w38) (x1:=(0:Int)+(ex*fx)) (x2:=ey*fy) (hb1:=by first|omega|rfl) (hb2:=by first|omega|rfl)) (.c (j:=1) rfl (.c (j:=0) rfl .n)) ?_)
 rintro w39 -
 dsimp only [List.append_eq,List.nil_append,List.cons_append]
 refine zO 9 (by kernel_rfl) (zca (by kernel_rfl) rfl rfl rfl rfl rfl sz34 rfl (.take (.take .nil)) ?_)
 refine zwa (by kernel_rfl)<|zA<|zc<|za<|r_pv rfl rfl (zC (z:=2) rfl rfl (w64 (by decide)))<|r_pv rfl rfl (zb rfl)<|zg<|zna<|zaa<|ze<|za<|r_pv rfl rfl (zE rfl rfl)<|zg<|zc<|ze<|zZ rfl rfl<|zu<|zc<|ze<|zq<|ze<|za<|r_pv rfl rfl (zb rfl)<|r_pv rfl rfl (zd rfl)<|zg<|zc<|zva (OW:=[boxA b5 34 [w39.b,w39.l]]) (O:=[boxA b3 34 [.bool false,.slice none 0 0],boxA b2 89 [wb0.b,wb0.l,wb1.b,wb1.l,wb2.b,wb2.l],boxA b1 89 [wa0.b,wa0.l,wa1.b,wa1.l,wa2.b,wa2.l]]) 9 mixed (.block (.then (.then (.block (.then .ret))))) (by kernel_rfl)<|d_uw 0 rfl rfl (by kernel_rfl) (by kernel_rfl) (by kernel_rfl) rfl rfl (zh 0 ty34 rfl rfl (.take (.take .nil)))<|d_pv 1 rfl rfl (by kernel_rfl) (by kernel_rfl) rfl rfl (zb rfl)<|d_pv 2 rfl rfl (by kernel_rfl) (by kernel_rfl) rfl rfl (zm (i:=2) Try.underlying89 sz34 rfl rfl (by decide) rfl)<|d_uw 3 rfl rfl (by kernel_rfl) (by kernel_rfl) (by kernel_rfl) rfl rfl (zh 3 ty34 rfl rfl (.skip (.skip (.skip (.skip (.take (.take .nil)))))))<|d_pv 4 rfl rfl (by kernel_rfl) (by kernel_rfl) rfl rfl (zb rfl)<|d_pv 5 rfl rfl (by kernel_rfl) (by kernel_rfl) rfl rfl (zm (i:=2) Try.underlying89 sz34 rfl rfl (by decide) rfl)<|d_uw 6 rfl rfl (by kernel_rfl) (by kernel_rfl) (by kernel_rfl) rfl rfl (zh 2 ty34 rfl rfl (.skip (.skip (.skip (.skip (.take (.take .nil)))))))<|zO 7 (by kernel_rfl) (zL rfl rfl rfl rfl (.c rfl (.c rfl .n)) ce92 (zXa (w1:=wa2) (w2:=wb2) (x1:=ez) (x2:=fz) (hb1:=by first|omega|rfl) (hb2:=by first|omega|rfl)) (.c (j:=7) rfl (.c (j:=10) rfl .n)) ?_)
 rintro w310 -
 dsimp only [List.append_eq,List.nil_append,List.cons_append]
 refine zO 8 (by kernel_rfl) (zL rfl rfl rfl rfl (.c rfl (.c rfl .n)) ce59 (zGb (w1:=w39) (w2:=w310) (x1:=((0:Int)+(ex*fx))+(ey*fy)) (x2:=ez*fz) (hb1:=by first|omega|rfl) (hb2:=by first|omega|rfl)) (.c (j:=1) rfl (.c (j:=0) rfl .n)) ?_)
 rintro w311 -
 dsimp only [List.append_eq,List.nil_append,List.cons_append]
 refine zO 9 (by kernel_rfl) (zca (by kernel_rfl) rfl rfl rfl rfl rfl sz34 rfl (.take (.take .nil)) ?_)
 refine zwa (by kernel_rfl)<|zA<|zc<|za<|r_pv rfl rfl (zC (z:=3) rfl rfl (w64 (by decide)))<|r_pv rfl rfl (zb rfl)<|zg<|zna<|zaa<|ze<|za<|r_pv rfl rfl (zE rfl rfl)<|zg<|zc<|ze<|zya rfl rfl<|zX<|zj<|zj<|zp<|zc<|ze<|za<|r_u rfl rfl (zh 0 ty34 rfl rfl (.take (.take .nil)))<|zv 1 rfl rfl rfl rfl rfl sz34 rfl (.take (.take .nil)) (.s .z)<|zg<|zc<|zK ?_
 have hz9:((((0:Int)+ex*fx)+ey*fy)+ez*fz)=Ms.dot (ex,ey,ez) (fx,fy,fz):=by simp [Ms.dot,Ms.det,Ms.cross]
 exact zB Try.results60 w311 trivial (zR 1 ty34 rfl rfl (.take (.take .nil))) rfl (ho:=(.n:PickO _ _ _)) ((.e (j:=0) rfl (by rw [hz9]) .n):SelR _ _ _)
theorem zQd {ex:Int} {ey:Int} {ez:Int} {wa0:Wd} {wa1:Wd} {wa2:Wd} {fx:Int} {fy:Int} {fz:Int} {wb0:Wd} {wb1:Wd} {wb2:Wd} (hlex:Big.ln ex≤1000) (hley:Big.ln ey≤1000) (hlez:Big.ln ez≤1000) (hlfx:Big.ln fx≤1000) (hlfy:Big.ln fy≤1000) (hlfz:Big.ln fz≤1000):Con Try.prog 61 [.agg #[wa0.b,wa0.l,wa1.b,wa1.l,wa2.b,wa2.l],.agg #[wb0.b,wb0.l,wb1.b,wb1.l,wb2.b,wb2.l]] [] [zF wa0 ex,zF wa1 ey,zF wa2 ez,zF wb0 fx,zF wb1 fy,zF wb2 fz] (Y:=Wd×Wd×Wd) (fun y=>True) (fun y=> .agg #[y.1.b,y.1.l,y.2.1.b,y.2.1.l,y.2.2.b,y.2.2.l]) (fun y=>[]) (fun y=>[zF y.1 (ey*fz - ez*fy),zF y.2.1 (ez*fx - ex*fz),zF y.2.2 (ex*fy - ey*fx)]):=by
 refine zy Try.func61 rfl rfl rfl (fun c=> ?_)
 show RunC _ _ _ _ _ [(0,.agg #[wa0.b,wa0.l,wa1.b,wa1.l,wa2.b,wa2.l]),(1,.agg #[wb0.b,wb0.l,wb1.b,wb1.l,wb2.b,wb2.l])] [] [zF wa0 ex,zF wa1 ey,zF wa2 ez,zF wb0 fx,zF wb1 fy,zF wb2 fz]
 have hnexfy:=Big.zdb ex fy
 have hnexfz:=Big.zdb ex fz
 have hneyfx:=Big.zdb ey fx
 have hneyfz:=Big.zdb ey fz
 have hnezfx:=Big.zdb ez fx
 have hnezfy:=Big.zdb ez fy
 refine ze<|za<|zV rfl rfl (zla rfl rfl) (fun b1=> ?_)
 refine zV rfl rfl (zla rfl rfl) (fun b2=> ?_)
 refine zV rfl rfl (zr zr89 rfl) (fun b3=> ?_)
 refine zg<|zc<|ze<|za<|zV rfl rfl (zr zr89 rfl) (fun b4=> ?_)
 refine zg<|zc<|ze<|ze<|za<|r_pv rfl rfl (zb rfl)<|zg<|zc<|zq<|zbb<|zaa<|ze<|za<|r_pv rfl rfl (zE rfl rfl)<|zg<|zc<|ze<|zZ rfl rfl<|zu<|zc<|ze<|zq<|ze<|za<|r_pv rfl rfl (zb rfl)<|r_pv rfl rfl (zd rfl)<|zg<|zc<|ze<|za<|r_pv rfl rfl (zb rfl)<|r_pv rfl rfl (zC (z:=1) rfl rfl (w64 (by decide)))<|r_pv rfl rfl (zgb (z:=1) rfl rfl (by decide) (by decide))<|r_pv rfl rfl (zb rfl)<|r_pv rfl rfl (zC (z:=2) rfl rfl (w64 (by decide)))<|r_pv rfl rfl (zgb (z:=2) rfl rfl (by decide) (by decide))<|r_pv rfl rfl (zd rfl)<|r_pv rfl rfl (zd rfl)<|zg<|zc<|zva (OW:=[boxA b4 89 [.bool false,.slice none 0 0,.bool false,.slice none 0 0,.bool false,.slice none 0 0]]) (O:=[boxA b3 89 [.bool false,.slice none 0 0,.bool false,.slice none 0 0,.bool false,.slice none 0 0],boxA b2 89 [wb0.b,wb0.l,wb1.b,wb1.l,wb2.b,wb2.l],boxA b1 89 [wa0.b,wa0.l,wa1.b,wa1.l,wa2.b,wa2.l]]) 17 mixed (.block (.then (.then (.block (.then .ret))))) (by kernel_rfl)<|d_pv 0 rfl rfl (by kernel_rfl) (by kernel_rfl) rfl rfl (zb rfl)<|d_pv 1 rfl rfl (by kernel_rfl) (by kernel_rfl) rfl rfl (zb rfl)<|d_pv 2 rfl rfl (by kernel_rfl) (by kernel_rfl) rfl rfl (zm (i:=1) Try.underlying89 sz34 rfl rfl (by decide) rfl)<|d_uw 3 rfl rfl (by kernel_rfl) (by kernel_rfl) (by kernel_rfl) rfl rfl (zh 3 ty34 rfl rfl (.skip (.skip (.take (.take .nil)))))<|d_pv 4 rfl rfl (by kernel_rfl) (by kernel_rfl) rfl rfl (zb rfl)<|d_pv 5 rfl rfl (by kernel_rfl) (by kernel_rfl) rfl rfl (zm (i:=2) Try.underlying89 sz34 rfl rfl (by decide) rfl)<|d_uw 6 rfl rfl (by kernel_rfl) (by kernel_rfl) (by kernel_rfl) rfl rfl (zh 2 ty34 rfl rfl (.skip (.skip (.skip (.skip (.take (.take .nil)))))))<|d_pv 8 rfl rfl (by kernel_rfl) (by kernel_rfl) rfl rfl (zb rfl)<|d_pv 9 rfl rfl (by kernel_rfl) (by kernel_rfl) rfl rfl (zm (i:=2) Try.underlying89 sz34 rfl rfl (by decide) rfl)<|d_uw 10 rfl rfl (by kernel_rfl) (by kernel_rfl) (by kernel_rfl) rfl rfl (zh 3 ty34 rfl rfl (.skip (.skip (.skip (.skip (.take (.take .nil)))))))<|d_pv 11 rfl rfl (by kernel_rfl) (by kernel_rfl) rfl rfl (zb rfl)<|d_pv 12 rfl rfl (by kernel_rfl) (by kernel_rfl) rfl rfl (zm (i:=1) Try.underlying89 sz34 rfl rfl (by decide) rfl)<|d_uw 13 rfl rfl (by kernel_rfl) (by kernel_rfl) (by kernel_rfl) rfl rfl (zh 2 ty34 rfl rfl (.skip (.skip (.take (.take .nil)))))<|zO 7 (by kernel_rfl) (zL rfl rfl rfl rfl (.c rfl (.c rfl .n)) ce92 (zXa (w1:=wa1) (w2:=wb2) (x1:=ey) (x2:=fz) (hb1:=by first|omega|rfl) (hb2:=by first|omega|rfl)) (.c (j:=1) rfl (.c (j:=5) rfl .n)) ?_)
 rintro w35 -
 dsimp only [List.append_eq,List.nil_append,List.cons_append]
 refine zO 14 (by kernel_rfl) (zL rfl rfl rfl rfl (.c rfl (.c rfl .n)) ce92 (zXa (w1:=wa2) (w2:=wb1) (x1:=ez) (x2:=fy) (hb1:=by first|omega|rfl) (hb2:=by first|omega|rfl)) (.c (j:=3) rfl (.c (j:=5) rfl .n)) ?_)
 rintro w36 -
 dsimp only [List.append_eq,List.nil_append,List.cons_append]
 refine zO 15 (by kernel_rfl) (zL rfl rfl rfl rfl (.c rfl (.c rfl .n)) ce93 (znc (w1:=w35) (w2:=w36) (x1:=ey*fz) (x2:=ez*fy) (hb1:=by first|omega|rfl) (hb2:=by first|omega|rfl)) (.c (j:=1) rfl (.c (j:=0) rfl .n)) ?_)
 rintro w37 -
 dsimp only [List.append_eq,List.nil_append,List.cons_append]
 refine d_pv 16 rfl rfl (by kernel_rfl) (by kernel_rfl) rfl rfl (zm (i:=0) Try.underlying89 sz34 rfl rfl (by decide) rfl)<|zO 17 (by kernel_rfl) (zca (by kernel_rfl) rfl rfl rfl rfl rfl sz34 rfl (.take (.take .nil)) ?_)
 refine zwa (by kernel_rfl)<|zA<|zc<|za<|r_pv rfl rfl (zC (z:=1) rfl rfl (w64 (by decide)))<|r_pv rfl rfl (zb rfl)<|zg<|zna<|zaa<|ze<|za<|r_pv rfl rfl (zE rfl rfl)<|zg<|zc<|ze<|zZ rfl rfl<|zu<|zc<|ze<|zq<|ze<|za<|r_pv rfl rfl (zb rfl)<|r_pv rfl rfl (zd rfl)<|zg<|zc<|ze<|za<|r_pv rfl rfl (zb rfl)<|r_pv rfl rfl (zC (z:=2) rfl rfl (w64 (by decide)))<|r_pv rfl rfl (zgb (z:=2) rfl rfl (by decide) (by decide))<|r_pv rfl rfl (zb rfl)<|r_pv rfl rfl (zC (z:=3) rfl rfl (w64 (by decide)))<|r_pv rfl rfl (zgb (z:=0) rfl rfl (by decide) (by decide))<|r_pv rfl rfl (zd rfl)<|r_pv rfl rfl (zd rfl)<|zg<|zc<|zva (OW:=[boxA b4 89 [w37.b,w37.l,.bool false,.slice none 0 0,.bool false,.slice none 0 0]]) (O:=[boxA b3 89 [.bool false,.slice none 0 0,.bool false,.slice none 0 0,.bool false,.slice none 0 0],boxA b2 89 [wb0.b,wb0.l,wb1.b,wb1.l,wb2.b,wb2.l],boxA b1 89 [wa0.b,wa0.l,wa1.b,wa1.l,wa2.b,wa2.l]]) 17 mixed (.block (.then (.then (.block (.then .ret))))) (by kernel_rfl)<|d_pv 0 rfl rfl (by kernel_rfl) (by kernel_rfl) rfl rfl (zb rfl)<|d_pv 1 rfl rfl (by kernel_rfl) (by kernel_rfl) rfl rfl (zb rfl)<|d_pv 2 rfl rfl (by kernel_rfl) (by kernel_rfl) rfl rfl (zm (i:=2) Try.underlying89 sz34 rfl rfl (by decide) rfl)<|d_uw 3 rfl rfl (by kernel_rfl) (by kernel_rfl) (by kernel_rfl) rfl rfl (zh 3 ty34 rfl rfl (.skip (.skip (.skip (.skip (.take (.take .nil)))))))<|d_pv 4 rfl rfl (by kernel_rfl) (by kernel_rfl) rfl rfl (zb rfl)<|d_pv 5 rfl rfl (by kernel_rfl) (by kernel_rfl) rfl rfl (zm (i:=0) Try.underlying89 sz34 rfl rfl (by decide) rfl)<|d_uw 6 rfl rfl (by kernel_rfl) (by kernel_rfl) (by kernel_rfl) rfl rfl (zh 2 ty34 rfl rfl (.take (.take .nil)))<|d_pv 8 rfl rfl (by kernel_rfl) (by kernel_rfl) rfl rfl (zb rfl)<|d_pv 9 rfl rfl (by kernel_rfl) (by kernel_rfl) rfl rfl (zm (i:=0) Try.underlying89 sz34 rfl rfl (by decide) rfl)<|d_uw 10 rfl rfl (by kernel_rfl) (by kernel_rfl) (by kernel_rfl) rfl rfl (zh 3 ty34 rfl rfl (.take (.take .nil)))<|d_pv 11 rfl rfl (by kernel_rfl) (by kernel_rfl) rfl rfl (zb rfl)<|d_pv 12 rfl rfl (by kernel_rfl) (by kernel_rfl) rfl rfl (zm (i:=2) Try.underlying89 sz34 rfl rfl (by decide) rfl)<|d_uw 13 rfl rfl (by kernel_rfl) (by kernel_rfl) (by kernel_rfl) rfl rfl (zh 2 ty34 rfl rfl (.skip (.skip (.skip (.skip (.take (.take .nil)))))))<|zO 7 (by kernel_rfl) (zL rfl rfl rfl rfl (.c rfl (.c rfl .n)) ce92 (zXa (w1:=wa2) (w2:=wb0) (x1:=ez) (x2:=fx) (hb1:=by first|omega|rfl) (hb2:=by first|omega|rfl)) (.c (j:=5) rfl (.c (j:=6) rfl .n)) ?_)
 rintro w38 -
 dsimp only [List.append_eq,List.nil_append,List.cons_append]
 refine zO 14 (by kernel_rfl) (zL rfl rfl rfl rfl (.c rfl (.c rfl .n)) ce92 (zXa (w1:=wa0) (w2:=wb2) (x1:=ex) (x2:=fz) (hb1:=by first|omega|rfl) (hb2:=by first|omega|rfl)) (.c (j:=4) rfl (.c (j:=9) rfl .n)) ?_)
 rintro w39 -
 dsimp only [List.append_eq,List.nil_append,List.cons_append]
 refine zO 15 (by kernel_rfl) (zL rfl rfl rfl rfl (.c rfl (.c rfl .n)) ce93 (znc (w1:=w38) (w2:=w39) (x1:=ez*fx) (x2:=ex*fz) (hb1:=by first|omega|rfl) (hb2:=by first|omega|rfl)) (.c (j:=1) rfl (.c (j:=0) rfl .n)) ?_)
 rintro w310 -
 dsimp only [List.append_eq,List.nil_append,List.cons_append]
 refine d_pv 16 rfl rfl (by kernel_rfl) (by kernel_rfl) rfl rfl (zm (i:=1) Try.underlying89 sz34 rfl rfl (by decide) rfl)<|zO 17 (by kernel_rfl) (zca (by kernel_rfl) rfl rfl rfl rfl rfl sz34 rfl (.skip (.skip (.take (.take .nil)))) ?_)
 refine zwa (by kernel_rfl)<|zA<|zc<|za<|r_pv rfl rfl (zC (z:=2) rfl rfl (w64 (by decide)))<|r_pv rfl rfl (zb rfl)<|zg<|zna<|zaa<|ze<|za<|r_pv rfl rfl (zE rfl rfl)<|zg<|zc<|ze<|zZ rfl rfl<|zu<|zc<|ze<|zq<|ze<|za<|r_pv rfl rfl (zb rfl)<|r_pv rfl rfl (zd rfl)<|zg<|zc<|ze<|za<|r_pv rfl rfl (zb rfl)<|r_pv rfl rfl (zC (z:=3) rfl rfl (w64 (by decide)))<|r_pv rfl rfl (zgb (z:=0) rfl rfl (by decide) (by decide))<|r_pv rfl rfl (zb rfl)<|r_pv rfl rfl (zC (z:=4) rfl rfl (w64 (by decide)))<|r_pv rfl rfl (zgb (z:=1) rfl rfl (by decide) (by decide))<|r_pv rfl rfl (zd rfl)<|r_pv rfl rfl (zd rfl)<|zg<|zc<|zva (OW:=[boxA b4 89 [w37.b,w37.l,w310.b,w310.l,.bool false,.slice none 0 0]]) (O:=[boxA b3 89 [.bool false,.slice none 0 0,.bool false,.slice none 0 0,.bool false,.slice none 0 0],boxA b2 89 [wb0.b,wb0.l,wb1.b,wb1.l,wb2.b,wb2.l],boxA b1 89 [wa0.b,wa0.l,wa1.b,wa1.l,wa2.b,wa2.l]]) 17 mixed (.block (.then (.then (.block (.then .ret))))) (by kernel_rfl)<|d_pv 0 rfl rfl (by kernel_rfl) (by kernel_rfl) rfl rfl (zb rfl)<|d_pv 1 rfl rfl (by kernel_rfl) (by kernel_rfl) rfl rfl (zb rfl)<|d_pv 2 rfl rfl (by kernel_rfl) (by kernel_rfl) rfl rfl (zm (i:=0) Try.underlying89 sz34 rfl rfl (by decide) rfl)<|d_uw 3 rfl rfl (by kernel_rfl) (by kernel_rfl) (by kernel_rfl) rfl rfl (zh 3 ty34 rfl rfl (.take (.take .nil)))<|d_pv 4 rfl rfl (by kernel_rfl) (by kernel_rfl) rfl rfl (zb rfl)<|d_pv 5 rfl rfl (by kernel_rfl) (by kernel_rfl) rfl rfl (zm (i:=1) Try.underlying89 sz34 rfl rfl (by decide) rfl)<|d_uw 6 rfl rfl (by kernel_rfl) (by kernel_rfl) (by kernel_rfl) rfl rfl (zh 2 ty34 rfl rfl (.skip (.skip (.take (.take .nil)))))<|d_pv 8 rfl rfl (by kernel_rfl) (by kernel_rfl) rfl rfl (zb rfl)<|d_pv 9 rfl rfl (by kernel_rfl) (by kernel_rfl) rfl rfl (zm (i:=1) Try.underlying89 sz34 rfl rfl (by decide) rfl)<|d_uw 10 rfl rfl (by kernel_rfl) (by kernel_rfl) (by kernel_rfl) rfl rfl (zh 3 ty34 rfl rfl (.skip (.skip (.take (.take .nil)))))<|d_pv 11 rfl rfl (by kernel_rfl) (by kernel_rfl) rfl rfl (zb rfl)<|d_pv 12 rfl rfl (by kernel_rfl) (by kernel_rfl) rfl rfl (zm (i:=0) Try.underlying89 sz34 rfl rfl (by decide) rfl)<|d_uw 13 rfl rfl (by kernel_rfl) (by kernel_rfl) (by kernel_rfl) rfl rfl (zh 2 ty34 rfl rfl (.take (.take .nil)))<|zO 7 (by kernel_rfl) (zL rfl rfl rfl rfl (.c rfl (.c rfl .n)) ce92 (zXa (w1:=wa0) (w2:=wb1) (x1:=ex) (x2:=fy) (hb1:=by first|omega|rfl) (hb2:=by first|omega|rfl)) (.c (j:=6) rfl (.c (j:=10) rfl .n)) ?_)
 rintro w311 -
 dsimp only [List.append_eq,List.nil_append,List.cons_append]
 refine zO 14 (by kernel_rfl) (zL rfl rfl rfl rfl (.c rfl (.c rfl .n)) ce92 (zXa (w1:=wa1) (w2:=wb0) (x1:=ey) (x2:=fx) (hb1:=by first|omega|rfl) (hb2:=by first|omega|rfl)) (.c (j:=8) rfl (.c (j:=10) rfl .n)) ?_)
 rintro w312 -
 dsimp only [List.append_eq,List.nil_append,List.cons_append]
 refine zO 15 (by kernel_rfl) (zL rfl rfl rfl rfl (.c rfl (.c rfl .n)) ce93 (znc (w1:=w311) (w2:=w312) (x1:=ex*fy) (x2:=ey*fx) (hb1:=by first|omega|rfl) (hb2:=by first|omega|rfl)) (.c (j:=1) rfl (.c (j:=0) rfl .n)) ?_)
 rintro w313 -
 dsimp only [List.append_eq,List.nil_append,List.cons_append]
 refine d_pv 16 rfl rfl (by kernel_rfl) (by kernel_rfl) rfl rfl (zm (i:=2) Try.underlying89 sz34 rfl rfl (by decide) rfl)<|zO 17 (by kernel_rfl) (zca (by kernel_rfl) rfl rfl rfl rfl rfl sz34 rfl (.skip (.skip (.skip (.skip (.take (.take .nil)))))) ?_)
 refine zwa (by kernel_rfl)<|zA<|zc<|za<|r_pv rfl rfl (zC (z:=3) rfl rfl (w64 (by decide)))<|r_pv rfl rfl (zb rfl)<|zg<|zna<|zaa<|ze<|za<|r_pv rfl rfl (zE rfl rfl)<|zg<|zc<|ze<|zya rfl rfl<|zX<|zj<|zj<|zp<|zc<|ze<|za<|r_u rfl rfl (zh 0 ty89 rfl rfl (.take (.take (.take (.take (.take (.take .nil)))))))<|zv 1 rfl rfl rfl rfl rfl sz89 rfl (.take (.take (.take (.take (.take (.take .nil)))))) (.s .z)<|zg<|zc<|zK ?_
 exact zB Try.results61 (w37,w310,w313) trivial (zR 1 ty89 rfl rfl (.take (.take (.take (.take (.take (.take .nil))))))) rfl (ho:=(.n:PickO _ _ _)) ((.of [6,3,0] rfl):SelR _ _ _)
end Go.Proofs.Ytalfgjpbbongcaa.Sp
namespace Go.Proofs.Ytalfgjpbbongcaa.Sp
open Go
set_option linter.unusedVariables false
set_option maxRecDepth 100000
set_option maxHeartbeats 8000000
theorem zHb {b:Nat} {U:List (Int×Int)} {i0:Int} (hU:Ms.UOk U) (hi0:0≤i0∧i0≤1099511627776):Con Try.prog 49 [.map (some b),.int .i64 i0] [mapA b (fun z:Int=> .int .i64 z) (fun z:Int=> .int .i64 z) (InK .i64) U] [] (Y:=Unit) (fun y=>True) (fun y=> .int .i64 (Ms.find U i0)) (fun y=>[mapA b (fun z:Int=> .int .i64 z) (fun z:Int=> .int .i64 z) (InK .i64) U]) (fun y=>[]):=by
 refine zy Try.func49 rfl rfl rfl (fun c=> ?_)
 show RunC _ _ _ _ _ [(0,.map (some b)),(1,.int .i64 i0)] [mapA b (fun z:Int=> .int .i64 z) (fun z:Int=> .int .i64 z) (InK .i64) U] []
 refine ze<|za<|r_pv rfl rfl (zd rfl)<|zg<|zc<|zq<|zha (X:=Int) (fun x:Int=>0≤x∧x≤i0∧Ms.find U x=Ms.find U i0) (fun x=>[(1,.int .i64 x),(0,.map (some b))]) (fun x=>[mapA b (fun z:Int=> .int .i64 z) (fun z:Int=> .int .i64 z) (InK .i64) U]) (fun x=>[]) (fun x:Int=>x.toNat) i0 (show 0≤i0∧i0≤i0∧Ms.find U i0=Ms.find U i0 from by exact ⟨hi0.1,Int.le_refl _,rfl⟩) ((.c rfl (.c rfl .n)):SubM _ _) (ho:=((.c (i:=0) rfl .n):PickO _ _ _)) (.n:SelR _ _ _) ?_
 rintro i hI
 replace hI:0≤i∧i≤i0∧Ms.find U i=Ms.find U i0:=hI
 try dsimp only
 obtain ⟨hi,hile,hfi⟩:=hI
 refine zq<|ze<|za<|r_pv rfl rfl (zb rfl)<|r_pv rfl rfl (zb rfl)<|r_u rfl rfl (zYa (z:=0) (a0:=i) (v:= .int .i64 ((mget U i).getD 0)) 0 rfl ky3 Try.underlying77 zr3 rfl rfl (zl.2 (by omega)) rfl)<|r_pv rfl rfl (zb rfl)<|r_pv rfl rfl (zY rfl rfl)<|r_pv rfl rfl (zY rfl rfl)<|r_pv rfl rfl (zd rfl)<|r_pv rfl rfl (zd rfl)<|zg<|zc<|ze<|zLa (X:=Unit) (fun x=>True) (fun x=>[(19,.bool (decide (((!((mget U i).isSome))=true)∨(((mget U i).getD 0)=i)))),(5,.int .i64 ((mget U i).getD 0)),(1,.int .i64 i),(0,.map (some b))]) (fun x=>[mapA b (fun z:Int=> .int .i64 z) (fun z:Int=> .int .i64 z) (InK .i64) U]) (fun x=>[]) ?_ ?_
 ·
  refine za<|r_pv rfl rfl (zb rfl)<|r_pv rfl rfl (zhb rfl)<|zuc rfl rfl (zb rfl) (fun h1=> ?_) (fun h1=> ?_)
  ·
   refine zi rfl rfl<|zi rfl rfl<|zi rfl rfl<|r_pv rfl rfl (zH rfl rfl)<|zg ?_
   exact zja () (show True from by first|trivial|omega|simp_all) ((.e rfl (congrArg Value.bool (by first|(simp_all;done)|(simp;done))) (.of rfl)):SubM _ _) (ho:=((.c (i:=0) rfl .n):PickO _ _ _)) (.n:SelR _ _ _)
  ·
   refine r_pv rfl rfl (zb rfl)<|r_pv rfl rfl (zb rfl)<|r_pv rfl rfl (zFa rfl rfl)<|r_pv rfl rfl (zH rfl rfl)<|zg ?_
   exact zja () (show True from by first|trivial|omega|simp_all) ((.e rfl (congrArg Value.bool (by first|(simp_all;done)|(simp;done))) (.of rfl)):SubM _ _) (ho:=((.c (i:=0) rfl .n):PickO _ _ _)) (.n:SelR _ _ _)
 ·
  rintro ⟨⟩ -
  try dsimp only
  refine zD rfl (fun hst=> ?_) (fun hst=> ?_)
  ·
   refine ze<|za<|r_pv rfl rfl (zb rfl)<|r_pv rfl rfl (zd rfl)<|zg<|zc<|zK<|zk<|zo<|zk<|zo ?_
   exact zB Try.results49 () trivial (zx rfl) (by rw [← hfi,Ms.find_stop hst]) (ho:=((.c (i:=0) rfl .n):PickO _ _ _)) (.n:SelR _ _ _)
  ·
   refine zu<|zc<|za<|r_pv rfl rfl (zb rfl)<|r_pv rfl rfl (zd rfl)<|zg<|zA<|zba ((mget U i).getD 0) (show 0≤((mget U i).getD 0)∧((mget U i).getD 0)≤i0∧Ms.find U ((mget U i).getD 0)=Ms.find U i0 from by have hg:=Ms.find_go hU hst;exact ⟨hg.1,by omega,by rw [hg.2.2,hfi]⟩) (by have hg:=Ms.find_go hU hst;show ((mget U i).getD 0).toNat<i.toNat;omega) ((.c rfl (.c rfl .n)):SubM _ _) (ho:=((.c (i:=0) rfl .n):PickO _ _ _)) (.n:SelR _ _ _)
theorem zoc {b:Nat} {U:List (Int×Int)} {i0:Int} {k0:Int} (hU:Ms.UOk U) (hi0:0≤i0∧i0≤1099511627776) (hk0:0≤k0∧k0≤1099511627776):Con Try.prog 48 [.map (some b),.int .i64 i0,.int .i64 k0] [mapA b (fun z:Int=> .int .i64 z) (fun z:Int=> .int .i64 z) (InK .i64) U] [] (Y:=Unit) (fun y=>True) (fun y=> .tuple #[]) (fun y=>[mapA b (fun z:Int=> .int .i64 z) (fun z:Int=> .int .i64 z) (InK .i64) (Ms.joinU U i0 k0)]) (fun y=>[]):=by
 refine zy Try.func48 rfl rfl rfl (fun c=> ?_)
 show RunC _ _ _ _ _ [(0,.map (some b)),(1,.int .i64 i0),(2,.int .i64 k0)] [mapA b (fun z:Int=> .int .i64 z) (fun z:Int=> .int .i64 z) (InK .i64) U] []
 have hr1:=Ms.find_rng hU i0 hi0.1
 have hr2:=Ms.find_rng hU k0 hk0.1
 refine ze<|za<|r_pv rfl rfl (zb rfl)<|r_pv rfl rfl (zb rfl)<|zOb (A:=[mapA b (fun z:Int=> .int .i64 z) (fun z:Int=> .int .i64 z) (InK .i64) U]) (F:=[]) (first:=[]) (cap:=[]) rfl rfl rfl (.c rfl (.c rfl .n)) ce49 (zHb (b:=b) (U:=U) (i0:=i0) (hU:=by assumption) (hi0:=by assumption)) (.n) ?_
 rintro ⟨⟩ -
 dsimp only [List.append_eq,List.nil_append,List.cons_append]
 refine r_pv rfl rfl (zb rfl)<|r_pv rfl rfl (zb rfl)<|zOb (A:=[mapA b (fun z:Int=> .int .i64 z) (fun z:Int=> .int .i64 z) (InK .i64) U]) (F:=[]) (first:=[]) (cap:=[]) rfl rfl rfl (.c rfl (.c rfl .n)) ce49 (zHb (b:=b) (U:=U) (i0:=k0) (hU:=by assumption) (hi0:=by assumption)) (.n) ?_
 rintro ⟨⟩ -
 dsimp only [List.append_eq,List.nil_append,List.cons_append]
 refine r_pv rfl rfl (zd rfl)<|r_pv rfl rfl (zd rfl)<|zg<|zc<|za<|r_pv rfl rfl (zb rfl)<|r_pv rfl rfl (zb rfl)<|r_pv rfl rfl (zb rfl)<|r_pv rfl rfl (zrd rfl rfl)<|r_pv rfl rfl (zb rfl)<|r_pv rfl rfl (zb rfl)<|r_pv rfl rfl (zne rfl rfl)<|zBa 0 rfl rfl rfl (zga (a0:=(max (Ms.find U i0) (Ms.find U k0))) (v:=(min (Ms.find U i0) (Ms.find U k0))) ky3 Try.underlying77 rfl rfl rfl (zl.2 (by omega))) (fun _=> .z) (fun _ _=> ?_)
 refine zg<|p_end ?_
 exact p_ret0 Try.results48 () trivial rfl (ho:=((.c (i:=0) rfl .n):PickO _ _ _)) (.n:SelR _ _ _)
end Go.Proofs.Ytalfgjpbbongcaa.Sp
namespace Go.Proofs.Ytalfgjpbbongcaa.Sp
open Go
set_option linter.unusedVariables false
set_option maxRecDepth 100000
set_option maxHeartbeats 8000000
theorem znb {pv:Option Addr} {nv:Nat} {cv:Nat} {V:List (Int×Int×Int)} {pf:Option Addr} {nf:Nat} {cf:Nat} {F:List (Int×Int×Int)} (hnv:V.length=nv) (hnf:F.length=nf):Con Try.prog 14 [.agg #[.slice pv nv cv,.slice pf nf cf]] [] [slF (rI3 .i64) pv cv V,slF (rI3 .i64) pf cf F] (Y:=Unit) (fun y=>True) (fun y=> .int .i64 (Ms.check V F)) (fun y=>[]) (fun y=>[]):=by
 refine zy Try.func14 rfl rfl rfl (fun c=> ?_)
 show RunC _ _ _ _ _ [(0,.agg #[.slice pv nv cv,.slice pf nf cf])] [] [slF (rI3 .i64) pv cv V,slF (rI3 .i64) pf cf F]
 refine zda 0 rfl (fun hL0=> ?_)
 refine zda 1 rfl (fun hL1=> ?_)
 refine ze<|za<|zV rfl rfl (zla rfl rfl) (fun b1=> ?_)
 refine r_pv rfl rfl (zd rfl)<|zg<|zc<|ze<|ze<|za<|r_u rfl rfl (zh 0 ty25 rfl rfl (.take (.take .nil)))<|zea rfl rfl (.c rfl .n) ce46 (zee (pv:=pv) (nv:=nv) (cv:=cv) (V:=V) (pf:=pf) (nf:=nf) (cf:=cf) (F:=F) (hnv:=by assumption) (hnf:=by assumption)) (.c (j:=0) rfl (.c (j:=1) rfl .n))<|r_pv rfl rfl (zd rfl)<|zg<|zc<|ze<|za<|r_pv rfl rfl (zb rfl)<|r_pv rfl rfl (zMa rfl rfl)<|zg<|zc<|zD rfl (fun hcode=> ?_) (fun hcode=> ?_)
 ·
  refine ze<|za<|r_pv rfl rfl (zb rfl)<|r_pv rfl rfl (zd rfl)<|zg<|zc<|zK<|zk ?_
  exact zB Try.results14 () trivial (zx rfl) (by rw [Ms.check_bad hcode]) (ho:=(.n:PickO _ _ _)) (.n:SelR _ _ _)
 ·
  have hf0:=Decidable.not_not.1 hcode
  have hgood:=Ms.form_zero.1 hf0
  have hnv5:nv≤512:=by have:=hgood.nv;omega
  have hnf5:nf≤1024:=by have:=hgood.nf;omega
  refine zu<|zc<|ze<|za<|zEa rfl rfl (zGa (κ:=Int×Int) (ν:=Bool) (fun z:Int×Int=> .agg #[.int .i64 z.1,.int .i64 z.2]) (fun z:Bool=> .bool z) (fun z=>InK .i64 z.1∧InK .i64 z.2)) (fun b2 _=> ?_)
  refine r_pv rfl rfl (zd rfl)<|zg<|zc<|ze<|za<|r_pv rfl rfl (zn Try.underlying25 rfl sz22 rfl rfl)<|r_u rfl rfl (zf 1 ty22 rfl rfl rfl)<|r_pv rfl rfl (zJ Try.underlying22 rfl)<|zEa rfl rfl (zhc (r:=rV) (k:=nv) (x0:=(none,0,0)) (γ0:=()) Try.underlying37 inf50 rfl rfl rfl rfl (by omega) (by omega) rfl (fun _ _=>by trivial) (by decide)) (fun b3 _=> ?_)
  refine r_mem (fun w mm=>mm.rowsNew 3 (rI .i64) nv)<|r_pv rfl rfl (zd rfl)<|zg<|zc<|ze<|ze<|za<|r_pv rfl rfl (zn Try.underlying25 rfl sz23 rfl rfl)<|r_u rfl rfl (zf 3 ty23 rfl rfl rfl)<|r_pv rfl rfl (zJ Try.underlying23 rfl)<|r_pv rfl rfl (zb rfl)<|zg<|zc<|zq<|zha (X:=Nat×(List ((Int×Int)×Bool))×(List (RW Int))) (fun x:Nat×(List ((Int×Int)×Bool))×(List (RW Int))=>x.1≤nf∧Ms.Seen x.2.1 (Ms.all (F.take x.1))∧(Ms.all (F.take x.1)).Nodup∧Ms.RowsAre x.2.2 nv (Ms.srcs (F.take x.1))) (fun x=>[(35,.int .i64 ((x.1:Nat):Int)),(34,.int .i64 ((nf:Nat):Int)),(33,.slice pf nf cf),(5,.slice (some ⟨b3,0,none⟩) nv nv),(4,.map (some b2)),(1,.pointer (some ⟨b1,0,none⟩))]) (fun x=>[rowsA 3 (rI .i64) (x.2.2),rowA 50 rV (some ⟨b3,0,none⟩) nv (x.2.2.map ov),mapA b2 (fun z:Int×Int=> .agg #[.int .i64 z.1,.int .i64 z.2]) (fun z:Bool=> .bool z) (fun z=>InK .i64 z.1∧InK .i64 z.2) (x.2.1),boxA b1 25 [.slice pv nv cv,.slice pf nf cf]]) (fun x=>[slF (rI3 .i64) pv cv V,slF (rI3 .i64) pf cf F]) (fun x:Nat×(List ((Int×Int)×Bool))×(List (RW Int))=>nf - x.1) (0,[],(List.replicate nv (none,0,[]):List (RW Int))) (show 0≤nf∧Ms.Seen ([]) (Ms.all (F.take 0))∧(Ms.all (F.take 0)).Nodup∧Ms.RowsAre (List.replicate nv (none,0,[]):List (RW Int)) nv (Ms.srcs (F.take 0)) from by exact ⟨Nat.zero_le _,Ms.Seen.nil,by simp [Ms.all],Ms.RowsAre.nil nv⟩) ((.e rfl (by first|rfl|(congr 1;omega)|simp_all) (.of rfl)):SubM _ _) (ho:=((.e (i:=0) rfl (by first|rfl|simp [ov]) (.e (i:=0) rfl (by first|rfl|simp [ov]) (.of [0,0] rfl))):PickO _ _ _)) ((.of [0,1] rfl):SelR _ _ _) ?_
  rintro ⟨i,sm,zs⟩ hI
  replace hI:i≤nf∧Ms.Seen sm (Ms.all (F.take i))∧(Ms.all (F.take i)).Nodup∧Ms.RowsAre zs nv (Ms.srcs (F.take i)):=hI
  try dsimp only
  obtain ⟨hi,hsm,hnd,hrw⟩:=hI
  refine ze<|za<|r_pv rfl rfl (zE rfl rfl)<|zg<|zc<|ze<|zD rfl (fun h4=> ?_) (fun h4=> ?_)
  ·
   have hat:=hgood.at (show i<F.length by omega)
   have hta:=Ms.take_all (F:=F) (show i<F.length by omega)
   have hts:=Ms.take_srcs (F:=F) (show i<F.length by omega)
   have hsl:(Ms.srcs (F.take i)).length≤3072:=by rw [Ms.srcs_len,List.length_take];omega
   have hs0:=hsm
   have hn0:=hnd
   have hr0:=hrw
   have hzl0:=hr0.len
   refine zu<|zc<|ze<|zq<|ze<|za<|r_pv rfl rfl (zb rfl)<|zI (x0:=(F.getD i (0,0,0))) 1 i rfl Try.underlying23 sz44 rfl rfl rfl (by first|rfl|assumption|(simp;done)|omega) rfl rfl (gD (d:=(0,0,0)) (by omega)) (fun b5 o6 hok7=> ?_)
   obtain ⟨hok7x,hok7y,hok7z⟩:=hok7
   replace hok7x:=zl.1 hok7x
   replace hok7y:=zl.1 hok7y
   replace hok7z:=zl.1 hok7z
   refine r_u rfl rfl (zG (j:=0) 0 ty44 rfl rfl rfl (.take (.take (.take .nil))))<|zV rfl rfl (zr zr44 rfl) (fun b8=> ?_)
   refine r_pv rfl rfl (zd rfl)<|zv 0 rfl rfl rfl rfl rfl sz44 rfl (.take (.take (.take .nil))) .z<|zg<|zc<|ze<|za<|r_u rfl rfl (zh 0 ty44 rfl rfl (.take (.take (.take .nil))))<|zea rfl rfl (.c rfl .n) ce47 (zSb (ex:=(F.getD i (0,0,0)).1) (ey:=(F.getD i (0,0,0)).2.1) (ez:=(F.getD i (0,0,0)).2.2)) (.n)<|r_pv rfl rfl (zb rfl)<|zg<|zc<|zq<|zbb<|zaa<|ze<|za<|r_pv rfl rfl (zE rfl rfl)<|zg<|zc<|ze<|zZ rfl rfl<|zu<|zc<|ze<|zq<|ze<|za<|r_pv rfl rfl (zta (i:=0) Try.underlying74 ty73 rfl rfl (by decide) (.take (.take .nil)))<|zV rfl rfl (zr zr73 rfl) (fun b9=> ?_)
   refine zv 0 rfl rfl rfl rfl rfl sz73 rfl (.take (.take .nil)) .z<|zg<|zc<|ze<|ze<|za<|r_pv rfl rfl (zb rfl)<|r_u rfl rfl (zh 0 ty73 rfl rfl (.take (.take .nil)))<|r_u rfl rfl (zoa (z:=false) (a0:=(((F.getD i (0,0,0)).1),((F.getD i (0,0,0)).2.1))) (v:= .bool ((mget sm (((F.getD i (0,0,0)).1),((F.getD i (0,0,0)).2.1))).getD false)) 4 rfl ky73 Try.underlying71 zr4 rfl rfl (⟨zl.2 (by omega),zl.2 (by omega)⟩) rfl)<|zg<|zc<|zAa rfl (fun hseen=> ?_) (fun hseen=> ?_)
   ·
    have hfin:Ms.check V F=7:=Ms.dup_at hf0 (i:=i) (by omega) (A:=Ms.all (F.take i)) (B:=[((F.getD i (0,0,0)).2.1,(F.getD i (0,0,0)).2.2),((F.getD i (0,0,0)).2.2,(F.getD i (0,0,0)).1)]) (e:=((F.getD i (0,0,0)).1,(F.getD i (0,0,0)).2.1)) (by rw [hta] <;> simp) hs0 hseen
    refine ze<|za<|r_pv rfl rfl (zd rfl)<|zg<|zc<|zK<|zk<|zo<|zk<|zk<|zo<|zo<|zk<|zk<|zo<|zk ?_
    exact zB Try.results14 () trivial (zx rfl) (by rw [hfin]) (ho:=(.n:PickO _ _ _)) (.n:SelR _ _ _)
   ·
    have hn1:=Ms.nodup_step (e:=((F.getD i (0,0,0)).1,(F.getD i (0,0,0)).2.1)) hn0 (hs0.no hseen)
    have hs1:=hs0.step ((F.getD i (0,0,0)).1,(F.getD i (0,0,0)).2.1)
    refine zu<|zc<|ze<|za<|r_pv rfl rfl (zb rfl)<|r_u rfl rfl (zh 0 ty73 rfl rfl (.take (.take .nil)))<|zBa 4 rfl rfl rfl (zga (a0:=(((F.getD i (0,0,0)).1),((F.getD i (0,0,0)).2.1))) (v:=true) ky73 Try.underlying71 rfl rfl rfl (⟨zl.2 (by omega),zl.2 (by omega)⟩)) (fun _=>(.s (.s (.s (.s .z))))) (fun _ _=> ?_)
    refine zg<|zc ?_
    obtain ⟨⟨pz0,cz0,lz0⟩,hz0⟩:∃z,(zs)[((F.getD i (0,0,0)).1).toNat]? =some z:=⟨_,List.getElem?_eq_getElem (by first|(rw [hr2.len];omega)|(rw [hr1.len];omega)|(rw [hr0.len];omega))⟩
    refine zMb (fun w mm=>mm.rowsOpen 2 (((F.getD i (0,0,0)).1).toNat) rfl hz0) ?_
    try dsimp only [List.eraseIdx]
    have hlb0:lz0.length≤3075:=by have h9:=(hr0.at hz0).2;(try simp only [List.length_append,List.length_cons,List.length_nil] at h9);omega
    refine zTa (.c (i:=0) rfl (.c (i:=3) rfl (.c (i:=0) rfl (.c (i:=0) rfl (.c (i:=0) rfl (.c (i:=0) rfl (.c (i:=0) rfl .n)))))))<|zva (OW:=[rowA 3 (rI .i64) pz0 cz0 lz0,rowA 50 rV (some ⟨b3,0,none⟩) nv (zs.map ov)]) (O:=[rowsA 3 (rI .i64) ((zs).eraseIdx (((F.getD i (0,0,0)).1).toNat)),boxA b9 73 [.int .i64 ((F.getD i (0,0,0)).1),.int .i64 ((F.getD i (0,0,0)).2.1)],boxA b8 44 [.int .i64 ((F.getD i (0,0,0)).1),.int .i64 ((F.getD i (0,0,0)).2.1),.int .i64 ((F.getD i (0,0,0)).2.2)],mapA b2 (fun z:Int×Int=> .agg #[.int .i64 z.1,.int .i64 z.2]) (fun z:Bool=> .bool z) (fun z=>InK .i64 z.1∧InK .i64 z.2) (mput sm (((F.getD i (0,0,0)).1),((F.getD i (0,0,0)).2.1)) true),boxA b1 25 [.slice pv nv cv,.slice pf nf cf]]) 10 mixed (.block (.then (.then (.block (.block (.then (.then (.block (.then .ret))))))))) (by kernel_rfl)<|d_pv 0 rfl rfl (by kernel_rfl) (by kernel_rfl) rfl rfl (zb rfl)<|d_pv 1 rfl rfl (by kernel_rfl) (by kernel_rfl) rfl rfl (zm (i:=0) Try.underlying73 sz3 rfl rfl (by decide) rfl)<|d_u 2 rfl rfl (by kernel_rfl) (by kernel_rfl) rfl rfl (zf 1 ty3 rfl rfl rfl)<|d_pv 3 rfl rfl (by kernel_rfl) (by kernel_rfl) rfl rfl (zb rfl)<|d_pv 4 rfl rfl (by kernel_rfl) (by kernel_rfl) rfl rfl (zm (i:=0) Try.underlying73 sz3 rfl rfl (by decide) rfl)<|d_uw 5 rfl rfl (by kernel_rfl) (by kernel_rfl) (by kernel_rfl) rfl rfl (zf 3 ty3 rfl rfl rfl)<|d_pv 6 rfl rfl (by kernel_rfl) (by kernel_rfl) rfl rfl (zsa (j:=((F.getD i (0,0,0)).1).toNat) Try.underlying37 sz50 rfl rfl (by omega) (by omega))<|zXd 7 rfl rfl (by kernel_rfl) (by kernel_rfl) (by kernel_rfl) rfl rfl (zNa (x0:=(pz0,lz0.length,cz0)) (v:= .slice pz0 (lz0.length) cz0) 1 (((F.getD i (0,0,0)).1).toNat) rfl ty50 rfl rfl (by rw [List.getElem?_map,hz0];rfl) rfl) (fun _ hok10=> ?_)
    refine d_pv 8 rfl rfl (by kernel_rfl) (by kernel_rfl) rfl rfl (zb rfl)<|zO 9 (by kernel_rfl) (zkb rfl rfl rfl rfl (zz (enc:=fun z:Int=>[.int .i64 z]) (ok:=InK .i64) (h1:=fun _=>rfl) (h2:=fun _=>rfl) (k:=1) Try.underlying50 inf3 rfl (by decide) (by decide) (by decide) (.c (x:=((i:Nat):Int)) rfl rfl (fun _ _=>by exact zl.2 (by omega)) .n)) (fun b11 _=> ?_))
    refine zDa 0 rfl .z<|zO 10 (by kernel_rfl) (zVa (A':=fun v:Option Addr×Nat=>rowA 3 (rI .i64) v.1 v.2 (lz0++([((i:Nat):Int)]))) (by kernel_rfl) rfl rfl rfl (zW 0 rfl Try.underlying50 inf3 (by decide) rfl rfl (by first|rfl|assumption|(simp;done)|omega) rfl (by first|rfl|assumption|(simp;done)|omega) (by omega) (by omega)) ?_)
    rintro ⟨p12,c13⟩ -
    dsimp only [List.append_eq,List.nil_append,List.cons_append]
    refine d_pv 11 rfl rfl (by kernel_rfl) (by kernel_rfl) rfl rfl (zsa (j:=((F.getD i (0,0,0)).1).toNat) Try.underlying37 sz50 rfl rfl (by omega) (by omega))<|zsb (zS (i:=1) rfl)<|zO 12 (by kernel_rfl) (zVa (A':=fun _=>rowA 50 rV (some ⟨b3,0,none⟩) nv ((zs.map ov).set (((F.getD i (0,0,0)).1).toNat) (p12,lz0.length+1,c13))) (by kernel_rfl) rfl rfl rfl (zCa (j:=((F.getD i (0,0,0)).1).toNat) (x0:=(p12,lz0.length+1,c13)) (γ0:=()) rfl rfl (by first|omega|(rw [List.length_map];omega)|(simp only [List.length_set];omega)|(simp;done)|(simp;omega)) rfl rfl sz50 (fun _ _=>by trivial)) (fun _ _=> ?_))
    refine zwa (by kernel_rfl)<|zA<|zc<|zMb (fun w mm=>mm.rowsClose (zs:=zs) 1 2 (((F.getD i (0,0,0)).1).toNat) rfl rfl (by first|(rw [hr2.len];omega)|(rw [hr1.len];omega)|(rw [hr0.len];omega))) ?_
    try dsimp only [List.eraseIdx]
    obtain ⟨zq1,hzq1⟩:∃z,z=(zs).set (((F.getD i (0,0,0)).1).toNat) (p12,c13,(lz0++([((i:Nat):Int)]))):=⟨_,rfl⟩
    rw [← hzq1,show ((zs.map ov).set (((F.getD i (0,0,0)).1).toNat) (p12,lz0.length+1,c13))=(zq1).map ov by rw [hzq1,List.map_set];simp [ov]]
    have hr1:=hr0.step (w:=(F.getD i (0,0,0)).1) (i:=(i:Int)) (by omega) (p':=p12) (c':=c13) hz0
    rw [← hzq1] at hr1
    have hzl1:=hr1.len
    refine za<|r_pv rfl rfl (zC (z:=1) rfl rfl (w64 (by decide)))<|r_pv rfl rfl (zb rfl)<|zg<|zna<|zaa<|ze<|za<|r_pv rfl rfl (zE rfl rfl)<|zg<|zc<|ze<|zZ rfl rfl<|zu<|zc<|ze<|zq<|ze<|za<|r_pv rfl rfl (zta (i:=1) Try.underlying74 ty73 rfl rfl (by decide) (.skip (.skip (.take (.take .nil)))))<|zV rfl rfl (zr zr73 rfl) (fun b14=> ?_)
    refine zv 0 rfl rfl rfl rfl rfl sz73 rfl (.take (.take .nil)) .z<|zg<|zc<|ze<|ze<|za<|r_pv rfl rfl (zb rfl)<|r_u rfl rfl (zh 0 ty73 rfl rfl (.take (.take .nil)))<|r_u rfl rfl (zoa (z:=false) (a0:=(((F.getD i (0,0,0)).2.1),((F.getD i (0,0,0)).2.2))) (v:= .bool ((mget (mput sm (((F.getD i (0,0,0)).1),((F.getD i (0,0,0)).2.1)) true) (((F.getD i (0,0,0)).2.1),((F.getD i (0,0,0)).2.2))).getD false)) 6 rfl ky73 Try.underlying71 zr4 rfl rfl (⟨zl.2 (by omega),zl.2 (by omega)⟩) rfl)<|zg<|zc<|zAa rfl (fun hseen=> ?_) (fun hseen=> ?_)
    ·
     have hfin:Ms.check V F=7:=Ms.dup_at hf0 (i:=i) (by omega) (A:=Ms.all (F.take i)++[((F.getD i (0,0,0)).1,(F.getD i (0,0,0)).2.1)]) (B:=[((F.getD i (0,0,0)).2.2,(F.getD i (0,0,0)).1)]) (e:=((F.getD i (0,0,0)).2.1,(F.getD i (0,0,0)).2.2)) (by rw [hta] <;> simp) hs1 hseen
     refine ze<|za<|r_pv rfl rfl (zd rfl)<|zg<|zc<|zK<|zk<|zo<|zk<|zk<|zo<|zo<|zk<|zk<|zo<|zk ?_
     exact zB Try.results14 () trivial (zx rfl) (by rw [hfin]) (ho:=(.n:PickO _ _ _)) (.n:SelR _ _ _)
    ·
     have hn2:=Ms.nodup_step (e:=((F.getD i (0,0,0)).2.1,(F.getD i (0,0,0)).2.2)) hn1 (hs1.no hseen)
     have hs2:=hs1.step ((F.getD i (0,0,0)).2.1,(F.getD i (0,0,0)).2.2)
     refine zu<|zc<|ze<|za<|r_pv rfl rfl (zb rfl)<|r_u rfl rfl (zh 0 ty73 rfl rfl (.take (.take .nil)))<|zBa 6 rfl rfl rfl (zga (a0:=(((F.getD i (0,0,0)).2.1),((F.getD i (0,0,0)).2.2))) (v:=true) ky73 Try.underlying71 rfl rfl rfl (⟨zl.2 (by omega),zl.2 (by omega)⟩)) (fun _=>(.s (.s (.s (.s (.s (.s .z))))))) (fun _ _=> ?_)
     refine zg<|zc ?_
     obtain ⟨⟨pz1,cz1,lz1⟩,hz1⟩:∃z,(zq1)[((F.getD i (0,0,0)).2.1).toNat]? =some z:=⟨_,List.getElem?_eq_getElem (by first|(rw [hr2.len];omega)|(rw [hr1.len];omega)|(rw [hr0.len];omega))⟩
     refine zMb (fun w mm=>mm.rowsOpen 1 (((F.getD i (0,0,0)).2.1).toNat) rfl hz1) ?_
     try dsimp only [List.eraseIdx]
     have hlb1:lz1.length≤3075:=by have h9:=(hr1.at hz1).2;(try simp only [List.length_append,List.length_cons,List.length_nil] at h9);omega
     refine zTa (.c (i:=0) rfl (.c (i:=2) rfl (.c (i:=0) rfl (.c (i:=0) rfl (.c (i:=0) rfl (.c (i:=0) rfl (.c (i:=0) rfl (.c (i:=0) rfl (.c (i:=0) rfl .n)))))))))<|zva (OW:=[rowA 3 (rI .i64) pz1 cz1 lz1,rowA 50 rV (some ⟨b3,0,none⟩) nv ((zq1).map ov)]) (O:=[rowsA 3 (rI .i64) ((zq1).eraseIdx (((F.getD i (0,0,0)).2.1).toNat)),boxA b14 73 [.int .i64 ((F.getD i (0,0,0)).2.1),.int .i64 ((F.getD i (0,0,0)).2.2)],emA,boxA b9 73 [.int .i64 ((F.getD i (0,0,0)).1),.int .i64 ((F.getD i (0,0,0)).2.1)],boxA b8 44 [.int .i64 ((F.getD i (0,0,0)).1),.int .i64 ((F.getD i (0,0,0)).2.1),.int .i64 ((F.getD i (0,0,0)).2.2)],mapA b2 (fun z:Int×Int=> .agg #[.int .i64 z.1,.int .i64 z.2]) (fun z:Bool=> .bool z) (fun z=>InK .i64 z.1∧InK .i64 z.2) (mput (mput sm (((F.getD i (0,0,0)).1),((F.getD i (0,0,0)).2.1)) true) (((F.getD i (0,0,0)).2.1),((F.getD i (0,0,0)).2.2)) true),boxA b1 25 [.slice pv nv cv,.slice pf nf cf]]) 10 mixed (.block (.then (.then (.block (.block (.then (.then (.block (.then .ret))))))))) (by kernel_rfl)<|d_pv 0 rfl rfl (by kernel_rfl) (by kernel_rfl) rfl rfl (zb rfl)<|d_pv 1 rfl rfl (by kernel_rfl) (by kernel_rfl) rfl rfl (zm (i:=0) Try.underlying73 sz3 rfl rfl (by decide) rfl)<|d_u 2 rfl rfl (by kernel_rfl) (by kernel_rfl) rfl rfl (zf 1 ty3 rfl rfl rfl)<|d_pv 3 rfl rfl (by kernel_rfl) (by kernel_rfl) rfl rfl (zb rfl)<|d_pv 4 rfl rfl (by kernel_rfl) (by kernel_rfl) rfl rfl (zm (i:=0) Try.underlying73 sz3 rfl rfl (by decide) rfl)<|d_uw 5 rfl rfl (by kernel_rfl) (by kernel_rfl) (by kernel_rfl) rfl rfl (zf 3 ty3 rfl rfl rfl)<|d_pv 6 rfl rfl (by kernel_rfl) (by kernel_rfl) rfl rfl (zsa (j:=((F.getD i (0,0,0)).2.1).toNat) Try.underlying37 sz50 rfl rfl (by omega) (by omega))<|zXd 7 rfl rfl (by kernel_rfl) (by kernel_rfl) (by kernel_rfl) rfl rfl (zNa (x0:=(pz1,lz1.length,cz1)) (v:= .slice pz1 (lz1.length) cz1) 1 (((F.getD i (0,0,0)).2.1).toNat) rfl ty50 rfl rfl (by rw [List.getElem?_map,hz1];rfl) rfl) (fun _ hok15=> ?_)
     refine d_pv 8 rfl rfl (by kernel_rfl) (by kernel_rfl) rfl rfl (zb rfl)<|zO 9 (by kernel_rfl) (zkb rfl rfl rfl rfl (zz (enc:=fun z:Int=>[.int .i64 z]) (ok:=InK .i64) (h1:=fun _=>rfl) (h2:=fun _=>rfl) (k:=1) Try.underlying50 inf3 rfl (by decide) (by decide) (by decide) (.c (x:=((i:Nat):Int)) rfl rfl (fun _ _=>by exact zl.2 (by omega)) .n)) (fun b16 _=> ?_))
     refine zDa 0 rfl .z<|zO 10 (by kernel_rfl) (zVa (A':=fun v:Option Addr×Nat=>rowA 3 (rI .i64) v.1 v.2 (lz1++([((i:Nat):Int)]))) (by kernel_rfl) rfl rfl rfl (zW 0 rfl Try.underlying50 inf3 (by decide) rfl rfl (by first|rfl|assumption|(simp;done)|omega) rfl (by first|rfl|assumption|(simp;done)|omega) (by omega) (by omega)) ?_)
     rintro ⟨p17,c18⟩ -
     dsimp only [List.append_eq,List.nil_append,List.cons_append]
     refine d_pv 11 rfl rfl (by kernel_rfl) (by kernel_rfl) rfl rfl (zsa (j:=((F.getD i (0,0,0)).2.1).toNat) Try.underlying37 sz50 rfl rfl (by omega) (by omega))<|zsb (zS (i:=1) rfl)<|zO 12 (by kernel_rfl) (zVa (A':=fun _=>rowA 50 rV (some ⟨b3,0,none⟩) nv (((zq1).map ov).set (((F.getD i (0,0,0)).2.1).toNat) (p17,lz1.length+1,c18))) (by kernel_rfl) rfl rfl rfl (zCa (j:=((F.getD i (0,0,0)).2.1).toNat) (x0:=(p17,lz1.length+1,c18)) (γ0:=()) rfl rfl (by first|omega|(rw [List.length_map];omega)|(simp only [List.length_set];omega)|(simp;done)|(simp;omega)) rfl rfl sz50 (fun _ _=>by trivial)) (fun _ _=> ?_))
     refine zwa (by kernel_rfl)<|zA<|zc<|zMb (fun w mm=>mm.rowsClose (zs:=zq1) 1 2 (((F.getD i (0,0,0)).2.1).toNat) rfl rfl (by first|(rw [hr2.len];omega)|(rw [hr1.len];omega)|(rw [hr0.len];omega))) ?_
     try dsimp only [List.eraseIdx]
     obtain ⟨zq2,hzq2⟩:∃z,z=(zq1).set (((F.getD i (0,0,0)).2.1).toNat) (p17,c18,(lz1++([((i:Nat):Int)]))):=⟨_,rfl⟩
     rw [← hzq2,show (((zq1).map ov).set (((F.getD i (0,0,0)).2.1).toNat) (p17,lz1.length+1,c18))=(zq2).map ov by rw [hzq2,List.map_set];simp [ov]]
     have hr2:=hr1.step (w:=(F.getD i (0,0,0)).2.1) (i:=(i:Int)) (by omega) (p':=p17) (c':=c18) hz1
     rw [← hzq2] at hr2
     have hzl2:=hr2.len
     refine za<|r_pv rfl rfl (zC (z:=2) rfl rfl (w64 (by decide)))<|r_pv rfl rfl (zb rfl)<|zg<|zna<|zaa<|ze<|za<|r_pv rfl rfl (zE rfl rfl)<|zg<|zc<|ze<|zZ rfl rfl<|zu<|zc<|ze<|zq<|ze<|za<|r_pv rfl rfl (zta (i:=2) Try.underlying74 ty73 rfl rfl (by decide) (.skip (.skip (.skip (.skip (.take (.take .nil)))))))<|zV rfl rfl (zr zr73 rfl) (fun b19=> ?_)
     refine zv 0 rfl rfl rfl rfl rfl sz73 rfl (.take (.take .nil)) .z<|zg<|zc<|ze<|ze<|za<|r_pv rfl rfl (zb rfl)<|r_u rfl rfl (zh 0 ty73 rfl rfl (.take (.take .nil)))<|r_u rfl rfl (zoa (z:=false) (a0:=(((F.getD i (0,0,0)).2.2),((F.getD i (0,0,0)).1))) (v:= .bool ((mget (mput (mput sm (((F.getD i (0,0,0)).1),((F.getD i (0,0,0)).2.1)) true) (((F.getD i (0,0,0)).2.1),((F.getD i (0,0,0)).2.2)) true) (((F.getD i (0,0,0)).2.2),((F.getD i (0,0,0)).1))).getD false)) 8 rfl ky73 Try.underlying71 zr4 rfl rfl (⟨zl.2 (by omega),zl.2 (by omega)⟩) rfl)<|zg<|zc<|zAa rfl (fun hseen=> ?_) (fun hseen=> ?_)
     ·
      have hfin:Ms.check V F=7:=Ms.dup_at hf0 (i:=i) (by omega) (A:=Ms.all (F.take i)++[((F.getD i (0,0,0)).1,(F.getD i (0,0,0)).2.1)]++[((F.getD i (0,0,0)).2.1,(F.getD i (0,0,0)).2.2)]) (B:=[]) (e:=((F.getD i (0,0,0)).2.2,(F.getD i (0,0,0)).1)) (by rw [hta] <;> simp) hs2 hseen
      refine ze<|za<|r_pv rfl rfl (zd rfl)<|zg<|zc<|zK<|zk<|zo<|zk<|zk<|zo<|zo<|zk<|zk<|zo<|zk ?_
      exact zB Try.results14 () trivial (zx rfl) (by rw [hfin]) (ho:=(.n:PickO _ _ _)) (.n:SelR _ _ _)
     ·
      have hn3:=Ms.nodup_step (e:=((F.getD i (0,0,0)).2.2,(F.getD i (0,0,0)).1)) hn2 (hs2.no hseen)
      have hs3:=hs2.step ((F.getD i (0,0,0)).2.2,(F.getD i (0,0,0)).1)
      refine zu<|zc<|ze<|za<|r_pv rfl rfl (zb rfl)<|r_u rfl rfl (zh 0 ty73 rfl rfl (.take (.take .nil)))<|zBa 8 rfl rfl rfl (zga (a0:=(((F.getD i (0,0,0)).2.2),((F.getD i (0,0,0)).1))) (v:=true) ky73 Try.underlying71 rfl rfl rfl (⟨zl.2 (by omega),zl.2 (by omega)⟩)) (fun _=>(.s (.s (.s (.s (.s (.s (.s (.s .z))))))))) (fun _ _=> ?_)
      refine zg<|zc ?_
      obtain ⟨⟨pz2,cz2,lz2⟩,hz2⟩:∃z,(zq2)[((F.getD i (0,0,0)).2.2).toNat]? =some z:=⟨_,List.getElem?_eq_getElem (by first|(rw [hr2.len];omega)|(rw [hr1.len];omega)|(rw [hr0.len];omega))⟩
      refine zMb (fun w mm=>mm.rowsOpen 1 (((F.getD i (0,0,0)).2.2).toNat) rfl hz2) ?_
      try dsimp only [List.eraseIdx]
      have hlb2:lz2.length≤3075:=by have h9:=(hr2.at hz2).2;(try simp only [List.length_append,List.length_cons,List.length_nil] at h9);omega
      refine zTa (.c (i:=0) rfl (.c (i:=2) rfl (.c (i:=0) rfl (.c (i:=0) rfl (.c (i:=0) rfl (.c (i:=0) rfl (.c (i:=0) rfl (.c (i:=0) rfl (.c (i:=0) rfl (.c (i:=0) rfl (.c (i:=0) rfl .n)))))))))))<|zva (OW:=[rowA 3 (rI .i64) pz2 cz2 lz2,rowA 50 rV (some ⟨b3,0,none⟩) nv ((zq2).map ov)]) (O:=[rowsA 3 (rI .i64) ((zq2).eraseIdx (((F.getD i (0,0,0)).2.2).toNat)),boxA b19 73 [.int .i64 ((F.getD i (0,0,0)).2.2),.int .i64 ((F.getD i (0,0,0)).1)],emA,boxA b14 73 [.int .i64 ((F.getD i (0,0,0)).2.1),.int .i64 ((F.getD i (0,0,0)).2.2)],emA,boxA b9 73 [.int .i64 ((F.getD i (0,0,0)).1),.int .i64 ((F.getD i (0,0,0)).2.1)],boxA b8 44 [.int .i64 ((F.getD i (0,0,0)).1),.int .i64 ((F.getD i (0,0,0)).2.1),.int .i64 ((F.getD i (0,0,0)).2.2)],mapA b2 (fun z:Int×Int=> .agg #[.int .i64 z.1,.int .i64 z.2]) (fun z:Bool=> .bool z) (fun z=>InK .i64 z.1∧InK .i64 z.2) (mput (mput (mput sm (((F.getD i (0,0,0)).1),((F.getD i (0,0,0)).2.1)) true) (((F.getD i (0,0,0)).2.1),((F.getD i (0,0,0)).2.2)) true) (((F.getD i (0,0,0)).2.2),((F.getD i (0,0,0)).1)) true),boxA b1 25 [.slice pv nv cv,.slice pf nf cf]]) 10 mixed (.block (.then (.then (.block (.block (.then (.then (.block (.then .ret))))))))) (by kernel_rfl)<|d_pv 0 rfl rfl (by kernel_rfl) (by kernel_rfl) rfl rfl (zb rfl)<|d_pv 1 rfl rfl (by kernel_rfl) (by kernel_rfl) rfl rfl (zm (i:=0) Try.underlying73 sz3 rfl rfl (by decide) rfl)<|d_u 2 rfl rfl (by kernel_rfl) (by kernel_rfl) rfl rfl (zf 1 ty3 rfl rfl rfl)<|d_pv 3 rfl rfl (by kernel_rfl) (by kernel_rfl) rfl rfl (zb rfl)<|d_pv 4 rfl rfl (by kernel_rfl) (by kernel_rfl) rfl rfl (zm (i:=0) Try.underlying73 sz3 rfl rfl (by decide) rfl)<|d_uw 5 rfl rfl (by kernel_rfl) (by kernel_rfl) (by kernel_rfl) rfl rfl (zf 3 ty3 rfl rfl rfl)<|d_pv 6 rfl rfl (by kernel_rfl) (by kernel_rfl) rfl rfl (zsa (j:=((F.getD i (0,0,0)).2.2).toNat) Try.underlying37 sz50 rfl rfl (by omega) (by omega))<|zXd 7 rfl rfl (by kernel_rfl) (by kernel_rfl) (by kernel_rfl) rfl rfl (zNa (x0:=(pz2,lz2.length,cz2)) (v:= .slice pz2 (lz2.length) cz2) 1 (((F.getD i (0,0,0)).2.2).toNat) rfl ty50 rfl rfl (by rw [List.getElem?_map,hz2];rfl) rfl) (fun _ hok20=> ?_)
      refine d_pv 8 rfl rfl (by kernel_rfl) (by kernel_rfl) rfl rfl (zb rfl)<|zO 9 (by kernel_rfl) (zkb rfl rfl rfl rfl (zz (enc:=fun z:Int=>[.int .i64 z]) (ok:=InK .i64) (h1:=fun _=>rfl) (h2:=fun _=>rfl) (k:=1) Try.underlying50 inf3 rfl (by decide) (by decide) (by decide) (.c (x:=((i:Nat):Int)) rfl rfl (fun _ _=>by exact zl.2 (by omega)) .n)) (fun b21 _=> ?_))
      refine zDa 0 rfl .z<|zO 10 (by kernel_rfl) (zVa (A':=fun v:Option Addr×Nat=>rowA 3 (rI .i64) v.1 v.2 (lz2++([((i:Nat):Int)]))) (by kernel_rfl) rfl rfl rfl (zW 0 rfl Try.underlying50 inf3 (by decide) rfl rfl (by first|rfl|assumption|(simp;done)|omega) rfl (by first|rfl|assumption|(simp;done)|omega) (by omega) (by omega)) ?_)
      rintro ⟨p22,c23⟩ -
      dsimp only [List.append_eq,List.nil_append,List.cons_append]
      refine d_pv 11 rfl rfl (by kernel_rfl) (by kernel_rfl) rfl rfl (zsa (j:=((F.getD i (0,0,0)).2.2).toNat) Try.underlying37 sz50 rfl rfl (by omega) (by omega))<|zsb (zS (i:=1) rfl)<|zO 12 (by kernel_rfl) (zVa (A':=fun _=>rowA 50 rV (some ⟨b3,0,none⟩) nv (((zq2).map ov).set (((F.getD i (0,0,0)).2.2).toNat) (p22,lz2.length+1,c23))) (by kernel_rfl) rfl rfl rfl (zCa (j:=((F.getD i (0,0,0)).2.2).toNat) (x0:=(p22,lz2.length+1,c23)) (γ0:=()) rfl rfl (by first|omega|(rw [List.length_map];omega)|(simp only [List.length_set];omega)|(simp;done)|(simp;omega)) rfl rfl sz50 (fun _ _=>by trivial)) (fun _ _=> ?_))
      refine zwa (by kernel_rfl)<|zA<|zc<|zMb (fun w mm=>mm.rowsClose (zs:=zq2) 1 2 (((F.getD i (0,0,0)).2.2).toNat) rfl rfl (by first|(rw [hr2.len];omega)|(rw [hr1.len];omega)|(rw [hr0.len];omega))) ?_
      try dsimp only [List.eraseIdx]
      obtain ⟨zq3,hzq3⟩:∃z,z=(zq2).set (((F.getD i (0,0,0)).2.2).toNat) (p22,c23,(lz2++([((i:Nat):Int)]))):=⟨_,rfl⟩
      rw [← hzq3,show (((zq2).map ov).set (((F.getD i (0,0,0)).2.2).toNat) (p22,lz2.length+1,c23))=(zq3).map ov by rw [hzq3,List.map_set];simp [ov]]
      have hr3:=hr2.step (w:=(F.getD i (0,0,0)).2.2) (i:=(i:Int)) (by omega) (p':=p22) (c':=c23) hz2
      rw [← hzq3] at hr3
      have hzl3:=hr3.len
      refine za<|r_pv rfl rfl (zC (z:=3) rfl rfl (w64 (by decide)))<|r_pv rfl rfl (zb rfl)<|zg<|zna<|zaa<|ze<|za<|r_pv rfl rfl (zE rfl rfl)<|zg<|zc<|ze<|zya rfl rfl<|zX<|zj<|zj<|zp<|zA<|zc<|za<|r_pv rfl rfl (zC (z:=(((i+1):Nat):Int)) rfl rfl (w64 (by omega)))<|r_pv rfl rfl (zb rfl)<|zg<|zba ((i+1),mput (mput (mput sm (((F.getD i (0,0,0)).1),((F.getD i (0,0,0)).2.1)) true) (((F.getD i (0,0,0)).2.1),((F.getD i (0,0,0)).2.2)) true) (((F.getD i (0,0,0)).2.2),((F.getD i (0,0,0)).1)) true,zq3) (show (i+1)≤nf∧Ms.Seen (mput (mput (mput sm (((F.getD i (0,0,0)).1),((F.getD i (0,0,0)).2.1)) true) (((F.getD i (0,0,0)).2.1),((F.getD i (0,0,0)).2.2)) true) (((F.getD i (0,0,0)).2.2),((F.getD i (0,0,0)).1)) true) (Ms.all (F.take (i+1)))∧(Ms.all (F.take (i+1))).Nodup∧Ms.RowsAre zq3 nv (Ms.srcs (F.take (i+1))) from by exact ⟨by omega,by rw [hta];exact hs3,by rw [hta];exact hn3,by rw [hts];exact hr3⟩) (by show nf - (i+1)<nf - i;omega) ((.of rfl):SubM _ _) (ho:=((.c (i:=0) rfl (.e (i:=0) rfl (by first|rfl|(congr 1;omega)|simp_all) (.of [7,7] rfl))):PickO _ _ _)) ((.of [4,5] rfl):SelR _ _ _)
  ·
   have hrwF:Ms.RowsAre zs nv (Ms.srcs F):=by have:=hrw;rwa [List.take_of_length_le (by omega)] at this
   have hndF:(Ms.all F).Nodup:=by have:=hnd;rwa [List.take_of_length_le (by omega)] at this
   refine zX<|zj<|zj<|zp<|zc<|ze<|ze<|zMb (fun w mm=>mm.rowsFreeze 1 0 rfl rfl) ?_
   dsimp only [List.set]
   rw [show (zs).map (fun z:RW Int=>z.2.2)=((List.range nv).map (fun v:Nat=>Ms.at_ F (v:Int))) by exact hrwF.lists]
   refine za<|r_pv rfl rfl (zb rfl)<|r_pv rfl rfl (zJ Try.underlying37 rfl)<|r_pv rfl rfl (zb rfl)<|zg<|zc<|zq<|zha (X:=Nat) (fun x:Nat=>x≤nv∧∀w:Nat,w<x→Ms.starB F (w:Int) (Ms.at_ F (w:Int))=true) (fun x=>[(66,.int .i64 ((x:Nat):Int)),(65,.int .i64 ((nv:Nat):Int)),(64,.slice (some ⟨b3,0,none⟩) nv nv),(1,.pointer (some ⟨b1,0,none⟩))]) (fun x=>[boxA b1 25 [.slice pv nv cv,.slice pf nf cf]]) (fun x=>[slF (rS (rI .i64)) (some ⟨b3,0,none⟩) nv ((List.range nv).map (fun x:Nat=>Ms.at_ F (x:Int))),slF (rI3 .i64) pv cv V,slF (rI3 .i64) pf cf F]) (fun x:Nat=>nv - x) 0 (show 0≤nv∧∀w:Nat,w<0→Ms.starB F (w:Int) (Ms.at_ F (w:Int))=true from by exact ⟨Nat.zero_le _,fun w h=>by omega⟩) ((.e rfl (by first|rfl|(congr 1;omega)|simp_all) (.of rfl)):SubM _ _) (ho:=((.c (i:=3) rfl .n):PickO _ _ _)) ((.e (j:=0) rfl (by first|rfl|simp_all) (.of [1,2] rfl)):SelR _ _ _) ?_
   rintro v hI
   replace hI:v≤nv∧∀w:Nat,w<v→Ms.starB F (w:Int) (Ms.at_ F (w:Int))=true:=hI
   try dsimp only
   obtain ⟨hv,hst⟩:=hI
   have hal:=Ms.at_len F (v:Int)
   refine ze<|za<|r_pv rfl rfl (zE rfl rfl)<|zg<|zc<|ze<|zD rfl (fun h24=> ?_) (fun h24=> ?_)
   ·
    refine zu<|zc<|ze<|zq<|ze<|za<|r_pv rfl rfl (zb rfl)<|r_vl rfl rfl (zob (x0:=(((List.range nv).map (fun v:Nat=>Ms.at_ F (v:Int))).getD v [])) 0 v rfl Try.underlying37 sz50 rfl (by first|rfl|assumption|(simp;done)|omega) rfl rfl (gD (d:=[]) (by simp;omega))) ?_
    rintro ⟨b25,o26,p27,c28⟩ -
    dsimp only [List.append_eq,List.nil_append,List.cons_append]
    refine r_u rfl rfl (zw (j:=0) 0 ty50 rfl rfl rfl rfl) ?_
    have e29:(((List.range nv).map (fun v:Nat=>Ms.at_ F (v:Int))).getD v [])=(Ms.at_ F (v:Int)):=by exact Ms.rows_get (by omega)
    rw [e29]
    refine r_pv rfl rfl (zd rfl)<|r_pv rfl rfl (zd rfl)<|zg<|zc<|ze<|za<|zEa rfl rfl (zGa (κ:=Int) (ν:=Int) (fun z:Int=> .int .i64 z) (fun z:Int=> .int .i64 z) (InK .i64)) (fun b30 _=> ?_)
    refine r_pv rfl rfl (zd rfl)<|zg<|zc<|ze<|za<|zEa rfl rfl (zGa (κ:=Int) (ν:=Int) (fun z:Int=> .int .i64 z) (fun z:Int=> .int .i64 z) (InK .i64)) (fun b31 _=> ?_)
    refine r_pv rfl rfl (zd rfl)<|zg<|zc<|ze<|ze<|za<|r_pv rfl rfl (zb rfl)<|r_pv rfl rfl (zJ Try.underlying50 rfl)<|r_pv rfl rfl (zb rfl)<|zg<|zc<|zq<|zha (X:=Nat×(List (Int×Int))×(List (Int×Int))) (fun x:Nat×(List (Int×Int))×(List (Int×Int))=>x.1≤(Ms.at_ F (v:Int)).length∧Ms.UInv (Ms.pairs F (v:Int) ((Ms.at_ F (v:Int)).take x.1)) x.2.1 x.2.2) (fun x=>[(75,.int .i64 ((x.1:Nat):Int)),(74,.int .i64 (((Ms.at_ F (v:Int)).length:Nat):Int)),(73,.slice p27 ((Ms.at_ F (v:Int)).length) c28),(13,.map (some b31)),(12,.map (some b30)),(11,.slice p27 ((Ms.at_ F (v:Int)).length) c28),(10,.int .i64 ((v:Nat):Int)),(66,.int .i64 ((v:Nat):Int)),(65,.int .i64 ((nv:Nat):Int)),(64,.slice (some ⟨b3,0,none⟩) nv nv),(1,.pointer (some ⟨b1,0,none⟩))]) (fun x=>[mapA b31 (fun z:Int=> .int .i64 z) (fun z:Int=> .int .i64 z) (InK .i64) (x.2.2),mapA b30 (fun z:Int=> .int .i64 z) (fun z:Int=> .int .i64 z) (InK .i64) (x.2.1),boxA b1 25 [.slice pv nv cv,.slice pf nf cf]]) (fun x=>[atF b25 o26 [.slice p27 ((Ms.at_ F (v:Int)).length) c28],slF (rI .i64) p27 c28 (Ms.at_ F (v:Int)),slF (rS (rI .i64)) (some ⟨b3,0,none⟩) nv ((List.range nv).map (fun v:Nat=>Ms.at_ F (v:Int))),slF (rI3 .i64) pv cv V,slF (rI3 .i64) pf cf F]) (fun x:Nat×(List (Int×Int))×(List (Int×Int))=>(Ms.at_ F (v:Int)).length - x.1) (0,[],[]) (show 0≤(Ms.at_ F (v:Int)).length∧Ms.UInv (Ms.pairs F (v:Int) ((Ms.at_ F (v:Int)).take 0)) ([]) ([]) from by exact ⟨Nat.zero_le _,Ms.UInv.nil⟩) ((.e rfl (by first|rfl|(congr 1;omega)|simp_all) (.of rfl)):SubM _ _) (ho:=((.of [0,0,0] rfl):PickO _ _ _)) ((.of [0,1,2,3,4] rfl):SelR _ _ _) ?_
    rintro ⟨k,u,oth⟩ hJ
    replace hJ:k≤(Ms.at_ F (v:Int)).length∧Ms.UInv (Ms.pairs F (v:Int) ((Ms.at_ F (v:Int)).take k)) u oth:=hJ
    try dsimp only
    obtain ⟨hk,hu⟩:=hJ
    refine ze<|za<|r_pv rfl rfl (zE rfl rfl)<|zg<|zc<|ze<|zD rfl (fun h32=> ?_) (fun h32=> ?_)
    ·
     have hag:=Ms.at_getD (F:=F) (v:=(v:Int)) (j:=k) (by omega)
     have hag2:0≤(Ms.at_ F (v:Int)).getD k 0∧(Ms.at_ F (v:Int)).getD k 0≤1099511627776:=by omega
     have hatf:=hgood.at (i:=((Ms.at_ F (v:Int)).getD k 0).toNat) (by omega)
     refine zu<|zc<|ze<|zq<|ze<|za<|zI (x0:=((Ms.at_ F (v:Int)).getD k 0)) 1 k rfl Try.underlying50 sz3 rfl rfl rfl (by first|rfl|assumption|(simp;done)|omega) rfl rfl (gD (d:=0) (by omega)) (fun b33 o34 hok35=> ?_)
     replace hok35:=zl.1 hok35
     refine r_u rfl rfl (zw (j:=0) 0 ty3 rfl rfl rfl rfl)<|r_pv rfl rfl (zd rfl)<|zg<|zc<|ze<|za<|r_pv rfl rfl (zn Try.underlying25 rfl sz23 rfl rfl)<|r_u rfl rfl (zf 2 ty23 rfl rfl rfl)<|r_pv rfl rfl (zb rfl)<|zI (x0:=(F.getD (((Ms.at_ F (v:Int)).getD k 0).toNat) (0,0,0))) 5 (((Ms.at_ F (v:Int)).getD k 0).toNat) rfl Try.underlying23 sz44 rfl rfl rfl (by first|rfl|assumption|(simp;done)|omega) rfl (by omega) (gD (d:=(0,0,0)) (by omega)) (fun b36 o37 hok38=> ?_)
     obtain ⟨hok38x,hok38y,hok38z⟩:=hok38
     replace hok38x:=zl.1 hok38x
     replace hok38y:=zl.1 hok38y
     replace hok38z:=zl.1 hok38z
     refine r_u rfl rfl (zG (j:=0) 0 ty44 rfl rfl rfl (.take (.take (.take .nil))))<|r_pv rfl rfl (zb rfl)<|zg<|zc<|zq<|zbb<|zaa<|ze<|za<|r_pv rfl rfl (zE rfl rfl)<|zg<|zc<|ze<|zZ rfl rfl<|zu<|zc<|zLa (X:=(List (Int×Int))×(List (Int×Int))) (fun x=>Ms.UInv (Ms.pairs F (v:Int) ((Ms.at_ F (v:Int)).take k)++Ms.mrk (v:Int) ((Ms.at_ F (v:Int)).getD k 0) (F.getD ((Ms.at_ F (v:Int)).getD k 0).toNat (0,0,0)).1) x.1 x.2) (fun x=>[(85,.bool true),(84,.int .i64 0),(83,.agg #[.int .i64 ((F.getD (((Ms.at_ F (v:Int)).getD k 0).toNat) (0,0,0)).1),.int .i64 ((F.getD (((Ms.at_ F (v:Int)).getD k 0).toNat) (0,0,0)).2.1),.int .i64 ((F.getD (((Ms.at_ F (v:Int)).getD k 0).toNat) (0,0,0)).2.2)]),(15,.int .i64 ((Ms.at_ F (v:Int)).getD k 0)),(75,.int .i64 ((k:Nat):Int)),(74,.int .i64 (((Ms.at_ F (v:Int)).length:Nat):Int)),(73,.slice p27 ((Ms.at_ F (v:Int)).length) c28),(13,.map (some b31)),(12,.map (some b30)),(11,.slice p27 ((Ms.at_ F (v:Int)).length) c28),(10,.int .i64 ((v:Nat):Int)),(66,.int .i64 ((v:Nat):Int)),(65,.int .i64 ((nv:Nat):Int)),(64,.slice (some ⟨b3,0,none⟩) nv nv),(1,.pointer (some ⟨b1,0,none⟩))]) (fun x=>[mapA b31 (fun z:Int=> .int .i64 z) (fun z:Int=> .int .i64 z) (InK .i64) (x.2),mapA b30 (fun z:Int=> .int .i64 z) (fun z:Int=> .int .i64 z) (InK .i64) (x.1),boxA b1 25 [.slice pv nv cv,.slice pf nf cf]]) (fun x=>[atF b36 o37 [.int .i64 ((F.getD (((Ms.at_ F (v:Int)).getD k 0).toNat) (0,0,0)).1),.int .i64 ((F.getD (((Ms.at_ F (v:Int)).getD k 0).toNat) (0,0,0)).2.1),.int .i64 ((F.getD (((Ms.at_ F (v:Int)).getD k 0).toNat) (0,0,0)).2.2)],atF b33 o34 [.int .i64 ((Ms.at_ F (v:Int)).getD k 0)],atF b25 o26 [.slice p27 ((Ms.at_ F (v:Int)).length) c28],slF (rI .i64) p27 c28 (Ms.at_ F (v:Int)),slF (rS (rI .i64)) (some ⟨b3,0,none⟩) nv ((List.range nv).map (fun v:Nat=>Ms.at_ F (v:Int))),slF (rI3 .i64) pv cv V,slF (rI3 .i64) pf cf F]) ?_ ?_
     ·
      refine zq<|ze<|za<|r_pv rfl rfl (zia (i:=0) Try.underlying44 ty3 rfl rfl (by decide) rfl)<|r_pv rfl rfl (zd rfl)<|zg<|zc<|ze<|ze<|za<|r_pv rfl rfl (zb rfl)<|r_pv rfl rfl (zb rfl)<|r_pv rfl rfl (zFa rfl rfl)<|zg<|zc<|zD rfl (fun hwv=> ?_) (fun hwv=> ?_)
      ·
       refine zX<|zj<|zp ?_
       exact zja (u,oth) (show Ms.UInv (Ms.pairs F (v:Int) ((Ms.at_ F (v:Int)).take k)++Ms.mrk (v:Int) ((Ms.at_ F (v:Int)).getD k 0) (F.getD ((Ms.at_ F (v:Int)).getD k 0).toNat (0,0,0)).1) u oth from by exact hu.skip hwv) ((.of rfl):SubM _ _) (ho:=((.of [0,0,0] rfl):PickO _ _ _)) ((.of [0,1,2,3,4,5,6] rfl):SelR _ _ _)
      ·
       refine zu<|zc<|ze<|ze<|za<|r_pv rfl rfl (zb rfl)<|r_pv rfl rfl (zb rfl)<|r_u rfl rfl (zYa (z:=0) (a0:=(F.getD (((Ms.at_ F (v:Int)).getD k 0).toNat) (0,0,0)).1) (v:= .int .i64 ((mget oth ((F.getD (((Ms.at_ F (v:Int)).getD k 0).toNat) (0,0,0)).1)).getD 0)) 0 rfl ky3 Try.underlying76 zr3 rfl rfl (zl.2 (by omega)) rfl)<|r_pv rfl rfl (zb rfl)<|r_pv rfl rfl (zY rfl rfl)<|r_pv rfl rfl (zY rfl rfl)<|r_pv rfl rfl (zd rfl)<|r_pv rfl rfl (zd rfl)<|zg<|zc<|ze<|za<|r_pv rfl rfl (zb rfl)<|zg<|zc<|zAa rfl (fun hok=> ?_) (fun hok=> ?_)
       ·
        have hkp:=hu.kpos hok
        refine za<|r_pv rfl rfl (zb rfl)<|r_pv rfl rfl (zb rfl)<|r_pv rfl rfl (zb rfl)<|zvd (zS (i:=1) rfl)<|zOb (A:=[mapA b30 (fun z:Int=> .int .i64 z) (fun z:Int=> .int .i64 z) (InK .i64) u]) (F:=[mapA b31 (fun z:Int=> .int .i64 z) (fun z:Int=> .int .i64 z) (InK .i64) oth,boxA b1 25 [.slice pv nv cv,.slice pf nf cf]]) (first:=[]) (cap:=[]) rfl rfl rfl (.c rfl (.c rfl (.c rfl .n))) ce48 (zoc (b:=b30) (U:=u) (i0:=((Ms.at_ F (v:Int)).getD k 0)) (k0:=((mget oth ((F.getD (((Ms.at_ F (v:Int)).getD k 0).toNat) (0,0,0)).1)).getD 0)) (hU:=by first|rfl|assumption|exact hu.ok|exact huF.ok|omega|(simp;done)|(simp;omega)) (hi0:=by first|rfl|assumption|exact hu.ok|exact huF.ok|omega|(simp;done)|(simp;omega)) (hk0:=by first|rfl|assumption|exact hu.ok|exact huF.ok|omega|(simp;done)|(simp;omega))) (.n) ?_
        rintro ⟨⟩ -
        dsimp only [List.append_eq,List.nil_append,List.cons_append]
        refine zg<|zc<|za<|r_pv rfl rfl (zb rfl)<|r_pv rfl rfl (zb rfl)<|r_pv rfl rfl (zb rfl)<|zBa 1 rfl rfl rfl (zga (a0:=(F.getD (((Ms.at_ F (v:Int)).getD k 0).toNat) (0,0,0)).1) (v:=((Ms.at_ F (v:Int)).getD k 0)) ky3 Try.underlying76 rfl rfl rfl (zl.2 (by omega))) (fun _=>(.s .z)) (fun _ _=> ?_)
        refine zg<|zA ?_
        exact zja (Ms.joinU u ((Ms.at_ F (v:Int)).getD k 0) ((mget oth ((F.getD (((Ms.at_ F (v:Int)).getD k 0).toNat) (0,0,0)).1)).getD 0),mput oth ((F.getD (((Ms.at_ F (v:Int)).getD k 0).toNat) (0,0,0)).1) ((Ms.at_ F (v:Int)).getD k 0)) (show Ms.UInv (Ms.pairs F (v:Int) ((Ms.at_ F (v:Int)).take k)++Ms.mrk (v:Int) ((Ms.at_ F (v:Int)).getD k 0) (F.getD ((Ms.at_ F (v:Int)).getD k 0).toNat (0,0,0)).1) (Ms.joinU u ((Ms.at_ F (v:Int)).getD k 0) ((mget oth ((F.getD (((Ms.at_ F (v:Int)).getD k 0).toNat) (0,0,0)).1)).getD 0)) (mput oth ((F.getD (((Ms.at_ F (v:Int)).getD k 0).toNat) (0,0,0)).1) ((Ms.at_ F (v:Int)).getD k 0)) from by exact hu.hit hag2 hwv hok) ((.of rfl):SubM _ _) (ho:=((.of [1,0,0] rfl):PickO _ _ _)) ((.of [0,1,2,3,4,5,6] rfl):SelR _ _ _)
       ·
        refine zu<|zc<|za<|r_pv rfl rfl (zb rfl)<|r_pv rfl rfl (zb rfl)<|r_pv rfl rfl (zb rfl)<|zBa 0 rfl rfl rfl (zga (a0:=(F.getD (((Ms.at_ F (v:Int)).getD k 0).toNat) (0,0,0)).1) (v:=((Ms.at_ F (v:Int)).getD k 0)) ky3 Try.underlying76 rfl rfl rfl (zl.2 (by omega))) (fun _=> .z) (fun _ _=> ?_)
        refine zg<|zA ?_
        exact zja (u,mput oth ((F.getD (((Ms.at_ F (v:Int)).getD k 0).toNat) (0,0,0)).1) ((Ms.at_ F (v:Int)).getD k 0)) (show Ms.UInv (Ms.pairs F (v:Int) ((Ms.at_ F (v:Int)).take k)++Ms.mrk (v:Int) ((Ms.at_ F (v:Int)).getD k 0) (F.getD ((Ms.at_ F (v:Int)).getD k 0).toNat (0,0,0)).1) u (mput oth ((F.getD (((Ms.at_ F (v:Int)).getD k 0).toNat) (0,0,0)).1) ((Ms.at_ F (v:Int)).getD k 0)) from by exact hu.miss hag2 hwv hok) ((.of rfl):SubM _ _) (ho:=((.of [0,0,0] rfl):PickO _ _ _)) ((.of [0,1,2,3,4,5,6] rfl):SelR _ _ _)
     ·
      rintro ⟨ua0,oa0⟩ hu
      replace hu:Ms.UInv (Ms.pairs F (v:Int) ((Ms.at_ F (v:Int)).take k)++Ms.mrk (v:Int) ((Ms.at_ F (v:Int)).getD k 0) (F.getD ((Ms.at_ F (v:Int)).getD k 0).toNat (0,0,0)).1) ua0 oa0:=hu
      try dsimp only
      refine za<|r_pv rfl rfl (zC (z:=1) rfl rfl (w64 (by decide)))<|r_pv rfl rfl (zb rfl)<|zg<|zna<|zaa<|ze<|za<|r_pv rfl rfl (zE rfl rfl)<|zg<|zc<|ze<|zZ rfl rfl<|zu<|zc<|zLa (X:=(List (Int×Int))×(List (Int×Int))) (fun x=>Ms.UInv (Ms.pairs F (v:Int) ((Ms.at_ F (v:Int)).take k)++Ms.mrk (v:Int) ((Ms.at_ F (v:Int)).getD k 0) (F.getD ((Ms.at_ F (v:Int)).getD k 0).toNat (0,0,0)).1++Ms.mrk (v:Int) ((Ms.at_ F (v:Int)).getD k 0) (F.getD ((Ms.at_ F (v:Int)).getD k 0).toNat (0,0,0)).2.1) x.1 x.2) (fun x=>[(85,.bool true),(84,.int .i64 1),(104,.int .i64 1),(83,.agg #[.int .i64 ((F.getD (((Ms.at_ F (v:Int)).getD k 0).toNat) (0,0,0)).1),.int .i64 ((F.getD (((Ms.at_ F (v:Int)).getD k 0).toNat) (0,0,0)).2.1),.int .i64 ((F.getD (((Ms.at_ F (v:Int)).getD k 0).toNat) (0,0,0)).2.2)]),(15,.int .i64 ((Ms.at_ F (v:Int)).getD k 0)),(75,.int .i64 ((k:Nat):Int)),(74,.int .i64 (((Ms.at_ F (v:Int)).length:Nat):Int)),(73,.slice p27 ((Ms.at_ F (v:Int)).length) c28),(13,.map (some b31)),(12,.map (some b30)),(11,.slice p27 ((Ms.at_ F (v:Int)).length) c28),(10,.int .i64 ((v:Nat):Int)),(66,.int .i64 ((v:Nat):Int)),(65,.int .i64 ((nv:Nat):Int)),(64,.slice (some ⟨b3,0,none⟩) nv nv),(1,.pointer (some ⟨b1,0,none⟩))]) (fun x=>[mapA b31 (fun z:Int=> .int .i64 z) (fun z:Int=> .int .i64 z) (InK .i64) (x.2),mapA b30 (fun z:Int=> .int .i64 z) (fun z:Int=> .int .i64 z) (InK .i64) (x.1),boxA b1 25 [.slice pv nv cv,.slice pf nf cf]]) (fun x=>[atF b36 o37 [.int .i64 ((F.getD (((Ms.at_ F (v:Int)).getD k 0).toNat) (0,0,0)).1),.int .i64 ((F.getD (((Ms.at_ F (v:Int)).getD k 0).toNat) (0,0,0)).2.1),.int .i64 ((F.getD (((Ms.at_ F (v:Int)).getD k 0).toNat) (0,0,0)).2.2)],atF b33 o34 [.int .i64 ((Ms.at_ F (v:Int)).getD k 0)],atF b25 o26 [.slice p27 ((Ms.at_ F (v:Int)).length) c28],slF (rI .i64) p27 c28 (Ms.at_ F (v:Int)),slF (rS (rI .i64)) (some ⟨b3,0,none⟩) nv ((List.range nv).map (fun v:Nat=>Ms.at_ F (v:Int))),slF (rI3 .i64) pv cv V,slF (rI3 .i64) pf cf F]) ?_ ?_
      ·
       refine zq<|ze<|za<|r_pv rfl rfl (zia (i:=1) Try.underlying44 ty3 rfl rfl (by decide) rfl)<|r_pv rfl rfl (zd rfl)<|zg<|zc<|ze<|ze<|za<|r_pv rfl rfl (zb rfl)<|r_pv rfl rfl (zb rfl)<|r_pv rfl rfl (zFa rfl rfl)<|zg<|zc<|zD rfl (fun hwv=> ?_) (fun hwv=> ?_)
       ·
        refine zX<|zj<|zp ?_
        exact zja (ua0,oa0) (show Ms.UInv (Ms.pairs F (v:Int) ((Ms.at_ F (v:Int)).take k)++Ms.mrk (v:Int) ((Ms.at_ F (v:Int)).getD k 0) (F.getD ((Ms.at_ F (v:Int)).getD k 0).toNat (0,0,0)).1++Ms.mrk (v:Int) ((Ms.at_ F (v:Int)).getD k 0) (F.getD ((Ms.at_ F (v:Int)).getD k 0).toNat (0,0,0)).2.1) ua0 oa0 from by exact hu.skip hwv) ((.of rfl):SubM _ _) (ho:=((.of [0,0,0] rfl):PickO _ _ _)) ((.of [0,1,2,3,4,5,6] rfl):SelR _ _ _)
       ·
        refine zu<|zc<|ze<|ze<|za<|r_pv rfl rfl (zb rfl)<|r_pv rfl rfl (zb rfl)<|r_u rfl rfl (zYa (z:=0) (a0:=(F.getD (((Ms.at_ F (v:Int)).getD k 0).toNat) (0,0,0)).2.1) (v:= .int .i64 ((mget oa0 ((F.getD (((Ms.at_ F (v:Int)).getD k 0).toNat) (0,0,0)).2.1)).getD 0)) 0 rfl ky3 Try.underlying76 zr3 rfl rfl (zl.2 (by omega)) rfl)<|r_pv rfl rfl (zb rfl)<|r_pv rfl rfl (zY rfl rfl)<|r_pv rfl rfl (zY rfl rfl)<|r_pv rfl rfl (zd rfl)<|r_pv rfl rfl (zd rfl)<|zg<|zc<|ze<|za<|r_pv rfl rfl (zb rfl)<|zg<|zc<|zAa rfl (fun hok=> ?_) (fun hok=> ?_)
        ·
         have hkp:=hu.kpos hok
         refine za<|r_pv rfl rfl (zb rfl)<|r_pv rfl rfl (zb rfl)<|r_pv rfl rfl (zb rfl)<|zvd (zS (i:=1) rfl)<|zOb (A:=[mapA b30 (fun z:Int=> .int .i64 z) (fun z:Int=> .int .i64 z) (InK .i64) ua0]) (F:=[mapA b31 (fun z:Int=> .int .i64 z) (fun z:Int=> .int .i64 z) (InK .i64) oa0,boxA b1 25 [.slice pv nv cv,.slice pf nf cf]]) (first:=[]) (cap:=[]) rfl rfl rfl (.c rfl (.c rfl (.c rfl .n))) ce48 (zoc (b:=b30) (U:=ua0) (i0:=((Ms.at_ F (v:Int)).getD k 0)) (k0:=((mget oa0 ((F.getD (((Ms.at_ F (v:Int)).getD k 0).toNat) (0,0,0)).2.1)).getD 0)) (hU:=by first|rfl|assumption|exact hu.ok|exact huF.ok|omega|(simp;done)|(simp;omega)) (hi0:=by first|rfl|assumption|exact hu.ok|exact huF.ok|omega|(simp;done)|(simp;omega)) (hk0:=by first|rfl|assumption|exact hu.ok|exact huF.ok|omega|(simp;done)|(simp;omega))) (.n) ?_
         rintro ⟨⟩ -
         dsimp only [List.append_eq,List.nil_append,List.cons_append]
         refine zg<|zc<|za<|r_pv rfl rfl (zb rfl)<|r_pv rfl rfl (zb rfl)<|r_pv rfl rfl (zb rfl)<|zBa 1 rfl rfl rfl (zga (a0:=(F.getD (((Ms.at_ F (v:Int)).getD k 0).toNat) (0,0,0)).2.1) (v:=((Ms.at_ F (v:Int)).getD k 0)) ky3 Try.underlying76 rfl rfl rfl (zl.2 (by omega))) (fun _=>(.s .z)) (fun _ _=> ?_)
         refine zg<|zA ?_
         exact zja (Ms.joinU ua0 ((Ms.at_ F (v:Int)).getD k 0) ((mget oa0 ((F.getD (((Ms.at_ F (v:Int)).getD k 0).toNat) (0,0,0)).2.1)).getD 0),mput oa0 ((F.getD (((Ms.at_ F (v:Int)).getD k 0).toNat) (0,0,0)).2.1) ((Ms.at_ F (v:Int)).getD k 0)) (show Ms.UInv (Ms.pairs F (v:Int) ((Ms.at_ F (v:Int)).take k)++Ms.mrk (v:Int) ((Ms.at_ F (v:Int)).getD k 0) (F.getD ((Ms.at_ F (v:Int)).getD k 0).toNat (0,0,0)).1++Ms.mrk (v:Int) ((Ms.at_ F (v:Int)).getD k 0) (F.getD ((Ms.at_ F (v:Int)).getD k 0).toNat (0,0,0)).2.1) (Ms.joinU ua0 ((Ms.at_ F (v:Int)).getD k 0) ((mget oa0 ((F.getD (((Ms.at_ F (v:Int)).getD k 0).toNat) (0,0,0)).2.1)).getD 0)) (mput oa0 ((F.getD (((Ms.at_ F (v:Int)).getD k 0).toNat) (0,0,0)).2.1) ((Ms.at_ F (v:Int)).getD k 0)) from by exact hu.hit hag2 hwv hok) ((.of rfl):SubM _ _) (ho:=((.of [1,0,0] rfl):PickO _ _ _)) ((.of [0,1,2,3,4,5,6] rfl):SelR _ _ _)
        ·
         refine zu<|zc<|za<|r_pv rfl rfl (zb rfl)<|r_pv rfl rfl (zb rfl)<|r_pv rfl rfl (zb rfl)<|zBa 0 rfl rfl rfl (zga (a0:=(F.getD (((Ms.at_ F (v:Int)).getD k 0).toNat) (0,0,0)).2.1) (v:=((Ms.at_ F (v:Int)).getD k 0)) ky3 Try.underlying76 rfl rfl rfl (zl.2 (by omega))) (fun _=> .z) (fun _ _=> ?_)
         refine zg<|zA ?_
         exact zja (ua0,mput oa0 ((F.getD (((Ms.at_ F (v:Int)).getD k 0).toNat) (0,0,0)).2.1) ((Ms.at_ F (v:Int)).getD k 0)) (show Ms.UInv (Ms.pairs F (v:Int) ((Ms.at_ F (v:Int)).take k)++Ms.mrk (v:Int) ((Ms.at_ F (v:Int)).getD k 0) (F.getD ((Ms.at_ F (v:Int)).getD k 0).toNat (0,0,0)).1++Ms.mrk (v:Int) ((Ms.at_ F (v:Int)).getD k 0) (F.getD ((Ms.at_ F (v:Int)).getD k 0).toNat (0,0,0)).2.1) ua0 (mput oa0 ((F.getD (((Ms.at_ F (v:Int)).getD k 0).toNat) (0,0,0)).2.1) ((Ms.at_ F (v:Int)).getD k 0)) from by exact hu.miss hag2 hwv hok) ((.of rfl):SubM _ _) (ho:=((.of [0,0,0] rfl):PickO _ _ _)) ((.of [0,1,2,3,4,5,6] rfl):SelR _ _ _)
      ·
       rintro ⟨ua1,oa1⟩ hu
       replace hu:Ms.UInv (Ms.pairs F (v:Int) ((Ms.at_ F (v:Int)).take k)++Ms.mrk (v:Int) ((Ms.at_ F (v:Int)).getD k 0) (F.getD ((Ms.at_ F (v:Int)).getD k 0).toNat (0,0,0)).1++Ms.mrk (v:Int) ((Ms.at_ F (v:Int)).getD k 0) (F.getD ((Ms.at_ F (v:Int)).getD k 0).toNat (0,0,0)).2.1) ua1 oa1:=hu
       try dsimp only
       refine za<|r_pv rfl rfl (zC (z:=2) rfl rfl (w64 (by decide)))<|r_pv rfl rfl (zb rfl)<|zg<|zna<|zaa<|ze<|za<|r_pv rfl rfl (zE rfl rfl)<|zg<|zc<|ze<|zZ rfl rfl<|zu<|zc<|zLa (X:=(List (Int×Int))×(List (Int×Int))) (fun x=>Ms.UInv (Ms.pairs F (v:Int) ((Ms.at_ F (v:Int)).take k)++Ms.mrk (v:Int) ((Ms.at_ F (v:Int)).getD k 0) (F.getD ((Ms.at_ F (v:Int)).getD k 0).toNat (0,0,0)).1++Ms.mrk (v:Int) ((Ms.at_ F (v:Int)).getD k 0) (F.getD ((Ms.at_ F (v:Int)).getD k 0).toNat (0,0,0)).2.1++Ms.mrk (v:Int) ((Ms.at_ F (v:Int)).getD k 0) (F.getD ((Ms.at_ F (v:Int)).getD k 0).toNat (0,0,0)).2.2) x.1 x.2) (fun x=>[(85,.bool true),(84,.int .i64 2),(104,.int .i64 2),(83,.agg #[.int .i64 ((F.getD (((Ms.at_ F (v:Int)).getD k 0).toNat) (0,0,0)).1),.int .i64 ((F.getD (((Ms.at_ F (v:Int)).getD k 0).toNat) (0,0,0)).2.1),.int .i64 ((F.getD (((Ms.at_ F (v:Int)).getD k 0).toNat) (0,0,0)).2.2)]),(15,.int .i64 ((Ms.at_ F (v:Int)).getD k 0)),(75,.int .i64 ((k:Nat):Int)),(74,.int .i64 (((Ms.at_ F (v:Int)).length:Nat):Int)),(73,.slice p27 ((Ms.at_ F (v:Int)).length) c28),(13,.map (some b31)),(12,.map (some b30)),(11,.slice p27 ((Ms.at_ F (v:Int)).length) c28),(10,.int .i64 ((v:Nat):Int)),(66,.int .i64 ((v:Nat):Int)),(65,.int .i64 ((nv:Nat):Int)),(64,.slice (some ⟨b3,0,none⟩) nv nv),(1,.pointer (some ⟨b1,0,none⟩))]) (fun x=>[mapA b31 (fun z:Int=> .int .i64 z) (fun z:Int=> .int .i64 z) (InK .i64) (x.2),mapA b30 (fun z:Int=> .int .i64 z) (fun z:Int=> .int .i64 z) (InK .i64) (x.1),boxA b1 25 [.slice pv nv cv,.slice pf nf cf]]) (fun x=>[atF b36 o37 [.int .i64 ((F.getD (((Ms.at_ F (v:Int)).getD k 0).toNat) (0,0,0)).1),.int .i64 ((F.getD (((Ms.at_ F (v:Int)).getD k 0).toNat) (0,0,0)).2.1),.int .i64 ((F.getD (((Ms.at_ F (v:Int)).getD k 0).toNat) (0,0,0)).2.2)],atF b33 o34 [.int .i64 ((Ms.at_ F (v:Int)).getD k 0)],atF b25 o26 [.slice p27 ((Ms.at_ F (v:Int)).length) c28],slF (rI .i64) p27 c28 (Ms.at_ F (v:Int)),slF (rS (rI .i64)) (some ⟨b3,0,none⟩) nv ((List.range nv).map (fun v:Nat=>Ms.at_ F (v:Int))),slF (rI3 .i64) pv cv V,slF (rI3 .i64) pf cf F]) ?_ ?_
       ·
        refine zq<|ze<|za<|r_pv rfl rfl (zia (i:=2) Try.underlying44 ty3 rfl rfl (by decide) rfl)<|r_pv rfl rfl (zd rfl)<|zg<|zc<|ze<|ze<|za<|r_pv rfl rfl (zb rfl)<|r_pv rfl rfl (zb rfl)<|r_pv rfl rfl (zFa rfl rfl)<|zg<|zc<|zD rfl (fun hwv=> ?_) (fun hwv=> ?_)
        ·
         refine zX<|zj<|zp ?_
         exact zja (ua1,oa1) (show Ms.UInv (Ms.pairs F (v:Int) ((Ms.at_ F (v:Int)).take k)++Ms.mrk (v:Int) ((Ms.at_ F (v:Int)).getD k 0) (F.getD ((Ms.at_ F (v:Int)).getD k 0).toNat (0,0,0)).1++Ms.mrk (v:Int) ((Ms.at_ F (v:Int)).getD k 0) (F.getD ((Ms.at_ F (v:Int)).getD k 0).toNat (0,0,0)).2.1++Ms.mrk (v:Int) ((Ms.at_ F (v:Int)).getD k 0) (F.getD ((Ms.at_ F (v:Int)).getD k 0).toNat (0,0,0)).2.2) ua1 oa1 from by exact hu.skip hwv) ((.of rfl):SubM _ _) (ho:=((.of [0,0,0] rfl):PickO _ _ _)) ((.of [0,1,2,3,4,5,6] rfl):SelR _ _ _)
        ·
         refine zu<|zc<|ze<|ze<|za<|r_pv rfl rfl (zb rfl)<|r_pv rfl rfl (zb rfl)<|r_u rfl rfl (zYa (z:=0) (a0:=(F.getD (((Ms.at_ F (v:Int)).getD k 0).toNat) (0,0,0)).2.2) (v:= .int .i64 ((mget oa1 ((F.getD (((Ms.at_ F (v:Int)).getD k 0).toNat) (0,0,0)).2.2)).getD 0)) 0 rfl ky3 Try.underlying76 zr3 rfl rfl (zl.2 (by omega)) rfl)<|r_pv rfl rfl (zb rfl)<|r_pv rfl rfl (zY rfl rfl)<|r_pv rfl rfl (zY rfl rfl)<|r_pv rfl rfl (zd rfl)<|r_pv rfl rfl (zd rfl)<|zg<|zc<|ze<|za<|r_pv rfl rfl (zb rfl)<|zg<|zc<|zAa rfl (fun hok=> ?_) (fun hok=> ?_)
         ·
          have hkp:=hu.kpos hok
          refine za<|r_pv rfl rfl (zb rfl)<|r_pv rfl rfl (zb rfl)<|r_pv rfl rfl (zb rfl)<|zvd (zS (i:=1) rfl)<|zOb (A:=[mapA b30 (fun z:Int=> .int .i64 z) (fun z:Int=> .int .i64 z) (InK .i64) ua1]) (F:=[mapA b31 (fun z:Int=> .int .i64 z) (fun z:Int=> .int .i64 z) (InK .i64) oa1,boxA b1 25 [.slice pv nv cv,.slice pf nf cf]]) (first:=[]) (cap:=[]) rfl rfl rfl (.c rfl (.c rfl (.c rfl .n))) ce48 (zoc (b:=b30) (U:=ua1) (i0:=((Ms.at_ F (v:Int)).getD k 0)) (k0:=((mget oa1 ((F.getD (((Ms.at_ F (v:Int)).getD k 0).toNat) (0,0,0)).2.2)).getD 0)) (hU:=by first|rfl|assumption|exact hu.ok|exact huF.ok|omega|(simp;done)|(simp;omega)) (hi0:=by first|rfl|assumption|exact hu.ok|exact huF.ok|omega|(simp;done)|(simp;omega)) (hk0:=by first|rfl|assumption|exact hu.ok|exact huF.ok|omega|(simp;done)|(simp;omega))) (.n) ?_
          rintro ⟨⟩ -
          dsimp only [List.append_eq,List.nil_append,List.cons_append]
          refine zg<|zc<|za<|r_pv rfl rfl (zb rfl)<|r_pv rfl rfl (zb rfl)<|r_pv rfl rfl (zb rfl)<|zBa 1 rfl rfl rfl (zga (a0:=(F.getD (((Ms.at_ F (v:Int)).getD k 0).toNat) (0,0,0)).2.2) (v:=((Ms.at_ F (v:Int)).getD k 0)) ky3 Try.underlying76 rfl rfl rfl (zl.2 (by omega))) (fun _=>(.s .z)) (fun _ _=> ?_)
          refine zg<|zA ?_
          exact zja (Ms.joinU ua1 ((Ms.at_ F (v:Int)).getD k 0) ((mget oa1 ((F.getD (((Ms.at_ F (v:Int)).getD k 0).toNat) (0,0,0)).2.2)).getD 0),mput oa1 ((F.getD (((Ms.at_ F (v:Int)).getD k 0).toNat) (0,0,0)).2.2) ((Ms.at_ F (v:Int)).getD k 0)) (show Ms.UInv (Ms.pairs F (v:Int) ((Ms.at_ F (v:Int)).take k)++Ms.mrk (v:Int) ((Ms.at_ F (v:Int)).getD k 0) (F.getD ((Ms.at_ F (v:Int)).getD k 0).toNat (0,0,0)).1++Ms.mrk (v:Int) ((Ms.at_ F (v:Int)).getD k 0) (F.getD ((Ms.at_ F (v:Int)).getD k 0).toNat (0,0,0)).2.1++Ms.mrk (v:Int) ((Ms.at_ F (v:Int)).getD k 0) (F.getD ((Ms.at_ F (v:Int)).getD k 0).toNat (0,0,0)).2.2) (Ms.joinU ua1 ((Ms.at_ F (v:Int)).getD k 0) ((mget oa1 ((F.getD (((Ms.at_ F (v:Int)).getD k 0).toNat) (0,0,0)).2.2)).getD 0)) (mput oa1 ((F.getD (((Ms.at_ F (v:Int)).getD k 0).toNat) (0,0,0)).2.2) ((Ms.at_ F (v:Int)).getD k 0)) from by exact hu.hit hag2 hwv hok) ((.of rfl):SubM _ _) (ho:=((.of [1,0,0] rfl):PickO _ _ _)) ((.of [0,1,2,3,4,5,6] rfl):SelR _ _ _)
         ·
          refine zu<|zc<|za<|r_pv rfl rfl (zb rfl)<|r_pv rfl rfl (zb rfl)<|r_pv rfl rfl (zb rfl)<|zBa 0 rfl rfl rfl (zga (a0:=(F.getD (((Ms.at_ F (v:Int)).getD k 0).toNat) (0,0,0)).2.2) (v:=((Ms.at_ F (v:Int)).getD k 0)) ky3 Try.underlying76 rfl rfl rfl (zl.2 (by omega))) (fun _=> .z) (fun _ _=> ?_)
          refine zg<|zA ?_
          exact zja (ua1,mput oa1 ((F.getD (((Ms.at_ F (v:Int)).getD k 0).toNat) (0,0,0)).2.2) ((Ms.at_ F (v:Int)).getD k 0)) (show Ms.UInv (Ms.pairs F (v:Int) ((Ms.at_ F (v:Int)).take k)++Ms.mrk (v:Int) ((Ms.at_ F (v:Int)).getD k 0) (F.getD ((Ms.at_ F (v:Int)).getD k 0).toNat (0,0,0)).1++Ms.mrk (v:Int) ((Ms.at_ F (v:Int)).getD k 0) (F.getD ((Ms.at_ F (v:Int)).getD k 0).toNat (0,0,0)).2.1++Ms.mrk (v:Int) ((Ms.at_ F (v:Int)).getD k 0) (F.getD ((Ms.at_ F (v:Int)).getD k 0).toNat (0,0,0)).2.2) ua1 (mput oa1 ((F.getD (((Ms.at_ F (v:Int)).getD k 0).toNat) (0,0,0)).2.2) ((Ms.at_ F (v:Int)).getD k 0)) from by exact hu.miss hag2 hwv hok) ((.of rfl):SubM _ _) (ho:=((.of [0,0,0] rfl):PickO _ _ _)) ((.of [0,1,2,3,4,5,6] rfl):SelR _ _ _)
       ·
        rintro ⟨ua2,oa2⟩ hu
        replace hu:Ms.UInv (Ms.pairs F (v:Int) ((Ms.at_ F (v:Int)).take k)++Ms.mrk (v:Int) ((Ms.at_ F (v:Int)).getD k 0) (F.getD ((Ms.at_ F (v:Int)).getD k 0).toNat (0,0,0)).1++Ms.mrk (v:Int) ((Ms.at_ F (v:Int)).getD k 0) (F.getD ((Ms.at_ F (v:Int)).getD k 0).toNat (0,0,0)).2.1++Ms.mrk (v:Int) ((Ms.at_ F (v:Int)).getD k 0) (F.getD ((Ms.at_ F (v:Int)).getD k 0).toNat (0,0,0)).2.2) ua2 oa2:=hu
        try dsimp only
        refine za<|r_pv rfl rfl (zC (z:=3) rfl rfl (w64 (by decide)))<|r_pv rfl rfl (zb rfl)<|zg<|zna<|zaa<|ze<|za<|r_pv rfl rfl (zE rfl rfl)<|zg<|zc<|ze<|zya rfl rfl<|zX<|zj<|zj<|zp<|zA<|zc<|za<|r_pv rfl rfl (zC (z:=(((k+1):Nat):Int)) rfl rfl (w64 (by omega)))<|r_pv rfl rfl (zb rfl)<|zg<|zba ((k+1),ua2,oa2) (show (k+1)≤(Ms.at_ F (v:Int)).length∧Ms.UInv (Ms.pairs F (v:Int) ((Ms.at_ F (v:Int)).take (k+1))) ua2 oa2 from by exact ⟨by omega,by rw [Ms.take_snoc 0 (by omega),Ms.pairs_snoc];exact hu⟩) (by show (Ms.at_ F (v:Int)).length - (k+1)<(Ms.at_ F (v:Int)).length - k;omega) ((.of rfl):SubM _ _) (ho:=((.of [0,0,0] rfl):PickO _ _ _)) ((.of [2,3,4,5,6] rfl):SelR _ _ _)
    ·
     have huF:Ms.UInv (Ms.pairs F (v:Int) (Ms.at_ F (v:Int))) u oth:=by have:=hu;rwa [List.take_of_length_le (by omega)] at this
     refine zX<|zj<|zj<|zp<|zc<|ze<|za<|r_pv rfl rfl (zb rfl)<|r_pv rfl rfl (zJ Try.underlying50 rfl)<|r_pv rfl rfl (zb rfl)<|zg<|zc<|zq<|zha (X:=Nat) (fun x:Nat=>x≤(Ms.at_ F (v:Int)).length∧∀j,j<x→Ms.find u ((Ms.at_ F (v:Int)).getD j 0)=Ms.find u ((Ms.at_ F (v:Int)).getD 0 0)) (fun x=>[(108,.int .i64 ((x:Nat):Int)),(107,.int .i64 (((Ms.at_ F (v:Int)).length:Nat):Int)),(106,.slice p27 ((Ms.at_ F (v:Int)).length) c28),(12,.map (some b30)),(11,.slice p27 ((Ms.at_ F (v:Int)).length) c28),(66,.int .i64 ((v:Nat):Int)),(65,.int .i64 ((nv:Nat):Int)),(64,.slice (some ⟨b3,0,none⟩) nv nv),(1,.pointer (some ⟨b1,0,none⟩))]) (fun x=>[mapA b31 (fun z:Int=> .int .i64 z) (fun z:Int=> .int .i64 z) (InK .i64) oth,mapA b30 (fun z:Int=> .int .i64 z) (fun z:Int=> .int .i64 z) (InK .i64) u,boxA b1 25 [.slice pv nv cv,.slice pf nf cf]]) (fun x=>[atF b25 o26 [.slice p27 ((Ms.at_ F (v:Int)).length) c28],slF (rI .i64) p27 c28 (Ms.at_ F (v:Int)),slF (rS (rI .i64)) (some ⟨b3,0,none⟩) nv ((List.range nv).map (fun v:Nat=>Ms.at_ F (v:Int))),slF (rI3 .i64) pv cv V,slF (rI3 .i64) pf cf F]) (fun x:Nat=>(Ms.at_ F (v:Int)).length - x) 0 (show 0≤(Ms.at_ F (v:Int)).length∧∀j,j<0→Ms.find u ((Ms.at_ F (v:Int)).getD j 0)=Ms.find u ((Ms.at_ F (v:Int)).getD 0 0) from by exact ⟨Nat.zero_le _,fun j h=>by omega⟩) ((.e rfl (by first|rfl|(congr 1;omega)|simp_all) (.of rfl)):SubM _ _) (ho:=((.of [0,0,0] rfl):PickO _ _ _)) ((.of [0,1,2,3,4] rfl):SelR _ _ _) ?_
     rintro q hJ
     replace hJ:q≤(Ms.at_ F (v:Int)).length∧∀j,j<q→Ms.find u ((Ms.at_ F (v:Int)).getD j 0)=Ms.find u ((Ms.at_ F (v:Int)).getD 0 0):=hJ
     try dsimp only
     obtain ⟨hq,hall⟩:=hJ
     refine ze<|za<|r_pv rfl rfl (zE rfl rfl)<|zg<|zc<|ze<|zD rfl (fun h39=> ?_) (fun h39=> ?_)
     ·
      have hag:=Ms.at_getD (F:=F) (v:=(v:Int)) (j:=q) (by omega)
      have hag0:=Ms.at_getD (F:=F) (v:=(v:Int)) (j:=0) (by omega)
      refine zu<|zc<|ze<|zq<|ze<|za<|zI (x0:=((Ms.at_ F (v:Int)).getD q 0)) 1 q rfl Try.underlying50 sz3 rfl rfl rfl (by first|rfl|assumption|(simp;done)|omega) rfl rfl (gD (d:=0) (by omega)) (fun b40 o41 hok42=> ?_)
      replace hok42:=zl.1 hok42
      refine r_u rfl rfl (zw (j:=0) 0 ty3 rfl rfl rfl rfl)<|r_pv rfl rfl (zd rfl)<|zg<|zc<|ze<|zTa (.c (i:=1) rfl (.c (i:=0) rfl (.c (i:=0) rfl .n)))<|zva (OW:=[mapA b30 (fun z:Int=> .int .i64 z) (fun z:Int=> .int .i64 z) (InK .i64) u]) (O:=[mapA b31 (fun z:Int=> .int .i64 z) (fun z:Int=> .int .i64 z) (InK .i64) oth,boxA b1 25 [.slice pv nv cv,.slice pf nf cf]]) 2 mixed (.then (.block (.then (.then (.block (.block (.then (.then (.block (.then .ret)))))))))) (by kernel_rfl)<|d_pv 0 rfl rfl (by kernel_rfl) (by kernel_rfl) rfl rfl (zb rfl)<|d_pv 1 rfl rfl (by kernel_rfl) (by kernel_rfl) rfl rfl (zb rfl)<|d_pv 3 rfl rfl (by kernel_rfl) (by kernel_rfl) rfl rfl (zb rfl)<|d_pv 4 rfl rfl (by kernel_rfl) (by kernel_rfl) rfl rfl (zb rfl)<|zka (x0:=((Ms.at_ F (v:Int)).getD 0 0)) 5 rfl rfl (by kernel_rfl) (by kernel_rfl) 2 0 rfl Try.underlying50 sz3 rfl rfl rfl (by first|rfl|assumption|(simp;done)|omega) rfl rfl (gD (d:=0) (by omega)) (fun b43 o44 hok45=> ?_)
      replace hok45:=zl.1 hok45
      refine d_u 6 rfl rfl (by kernel_rfl) (by kernel_rfl) rfl rfl (zw (j:=0) 0 ty3 rfl rfl rfl rfl)<|zO 2 (by kernel_rfl) (zwd (first:=[]) (cap:=[]) (A':=fun y=>mapA b30 (fun z:Int=> .int .i64 z) (fun z:Int=> .int .i64 z) (InK .i64) u) (by kernel_rfl) rfl rfl rfl rfl (.c rfl (.c rfl .n)) ce49 (zHb (b:=b30) (U:=u) (i0:=((Ms.at_ F (v:Int)).getD q 0)) (hU:=by first|rfl|assumption|exact hu.ok|exact huF.ok|omega|(simp;done)|(simp;omega)) (hi0:=by first|rfl|assumption|exact hu.ok|exact huF.ok|omega|(simp;done)|(simp;omega))) (.n) ?_)
      rintro ⟨⟩ -
      dsimp only [List.append_eq,List.nil_append,List.cons_append]
      refine zO 7 (by kernel_rfl) (zwd (first:=[]) (cap:=[]) (A':=fun y=>mapA b30 (fun z:Int=> .int .i64 z) (fun z:Int=> .int .i64 z) (InK .i64) u) (by kernel_rfl) rfl rfl rfl rfl (.c rfl (.c rfl .n)) ce49 (zHb (b:=b30) (U:=u) (i0:=((Ms.at_ F (v:Int)).getD 0 0)) (hU:=by first|rfl|assumption|exact hu.ok|exact huF.ok|omega|(simp;done)|(simp;omega)) (hi0:=by first|rfl|assumption|exact hu.ok|exact huF.ok|omega|(simp;done)|(simp;omega))) (.n) ?_)
      rintro ⟨⟩ -
      dsimp only [List.append_eq,List.nil_append,List.cons_append]
      refine d_pv 8 rfl rfl (by kernel_rfl) (by kernel_rfl) rfl rfl (zMa rfl rfl)<|zwa (by kernel_rfl)<|zc<|zD rfl (fun hne=> ?_) (fun hne=> ?_)
      ·
       refine ze<|za<|r_pv rfl rfl (zd rfl)<|zg<|zc<|zK<|zo<|zk<|zk<|zo<|zo<|zk<|zk<|zo<|zk ?_
       exact zB Try.results14 () trivial (zx rfl) (by rw [Ms.check_star hf0 hndF (v:=v) (by omega) (huF.star_false hgood.nf (j:=q) (by omega) hne)]) (ho:=(.n:PickO _ _ _)) (.n:SelR _ _ _)
      ·
       refine zu<|zA<|zc<|za<|r_pv rfl rfl (zC (z:=(((q+1):Nat):Int)) rfl rfl (w64 (by omega)))<|r_pv rfl rfl (zb rfl)<|zg<|zba (q+1) (show (q+1)≤(Ms.at_ F (v:Int)).length∧∀j,j<(q+1)→Ms.find u ((Ms.at_ F (v:Int)).getD j 0)=Ms.find u ((Ms.at_ F (v:Int)).getD 0 0) from by exact ⟨by omega,Ms.all_lt_succ hall (Decidable.not_not.1 hne)⟩) (by show (Ms.at_ F (v:Int)).length - (q+1)<(Ms.at_ F (v:Int)).length - q;omega) ((.of rfl):SubM _ _) (ho:=((.of [1,0,0] rfl):PickO _ _ _)) ((.of [2,3,4,5,6] rfl):SelR _ _ _)
     ·
      refine zX<|zj<|zj<|zp<|zA<|zc<|za<|r_pv rfl rfl (zC (z:=(((v+1):Nat):Int)) rfl rfl (w64 (by omega)))<|r_pv rfl rfl (zb rfl)<|zg<|zba (v+1) (show (v+1)≤nv∧∀w:Nat,w<(v+1)→Ms.starB F (w:Int) (Ms.at_ F (w:Int))=true from by exact ⟨by omega,Ms.all_lt_succ (P:=fun w=>Ms.starB F (w:Int) (Ms.at_ F (w:Int))=true) hst (huF.star_true hgood.nf (fun j hj=>hall j (by omega)))⟩) (by show nv - (v+1)<nv - v;omega) ((.of rfl):SubM _ _) (ho:=((.c (i:=2) rfl .n):PickO _ _ _)) ((.e (j:=2) rfl (by first|rfl|simp_all) (.of [3,4] rfl)):SelR _ _ _)
   ·
    refine zX<|zj<|zj<|zp<|zc<|ze<|za<|r_pv rfl rfl (zd rfl)<|zg<|zc<|zK ?_
    exact zB Try.results14 () trivial (zx rfl) (by rw [Ms.check_ok hf0 hndF (fun w hw=>hst w (by omega))]) (ho:=(.n:PickO _ _ _)) (.n:SelR _ _ _)
end Go.Proofs.Ytalfgjpbbongcaa.Sp
namespace Go.Proofs.Ytalfgjpbbongcaa.Sp
open Go
set_option linter.unusedVariables false
set_option maxRecDepth 100000
set_option maxHeartbeats 8000000
theorem zRd {pv:Option Addr} {nv:Nat} {cv:Nat} {V:List (Int×Int×Int)} {pf:Option Addr} {nf:Nat} {cf:Nat} {F:List (Int×Int×Int)} (hnv:V.length=nv) (hnf:F.length=nf) (hbf:nf≤1048576):Con Try.prog 50 [.agg #[.slice pv nv cv,.slice pf nf cf]] [] [slF (rI3 .i64) pv cv V,slF (rI3 .i64) pf cf F] (Y:=(Option Addr)×Nat) (fun y=>True) (fun y=> .slice (y.1) ((Ms.all F).length) (y.2)) (fun y=>[]) (fun y=>[slF (rI2 .i64) (y.1) (y.2) (Ms.all F)]):=by
 refine zy Try.func50 rfl rfl rfl (fun c=> ?_)
 show RunC _ _ _ _ _ [(0,.agg #[.slice pv nv cv,.slice pf nf cf])] [] [slF (rI3 .i64) pv cv V,slF (rI3 .i64) pf cf F]
 refine zda 0 rfl (fun hL0=> ?_)
 refine zda 1 rfl (fun hL1=> ?_)
 refine ze<|za<|zV rfl rfl (zla rfl rfl) (fun b1=> ?_)
 refine r_pv rfl rfl (zd rfl)<|zg<|zc<|ze<|za<|zEa rfl rfl (zP (rI2 .i64) Try.underlying80 inf72) (fun b2 _=> ?_)
 refine r_pv rfl rfl (zd rfl)<|zg<|zc<|ze<|ze<|za<|r_pv rfl rfl (zn Try.underlying25 rfl sz23 rfl rfl)<|r_u rfl rfl (zf 1 ty23 rfl rfl rfl)<|r_pv rfl rfl (zJ Try.underlying23 rfl)<|r_pv rfl rfl (zb rfl)<|zg<|zc<|zq<|zha (X:=Nat×(Option Addr)×Nat×(List (Int×Int))) (fun x:Nat×(Option Addr)×Nat×(List (Int×Int))=>x.1≤nf∧x.2.2.2=Ms.all (F.take x.1)) (fun x=>[(3,.slice (x.2.1) (x.2.2.2.length) (x.2.2.1)),(12,.int .i64 ((x.1:Nat):Int)),(11,.int .i64 ((nf:Nat):Int)),(10,.slice pf nf cf),(2,.slice none 0 0)]) (fun x=>[rowA 72 (rI2 .i64) (x.2.1) (x.2.2.1) (x.2.2.2),boxA b1 25 [.slice pv nv cv,.slice pf nf cf]]) (fun x=>[slF (rI3 .i64) pv cv V,slF (rI3 .i64) pf cf F]) (fun x:Nat×(Option Addr)×Nat×(List (Int×Int))=>nf - x.1) (0,some ⟨b2,0,none⟩,0,([]:List (Int×Int))) (show 0≤nf∧([]:List (Int×Int))=Ms.all (F.take 0) from by exact ⟨Nat.zero_le _,rfl⟩) ((.e rfl (by first|rfl|(congr 1;omega)|simp_all) (.e rfl (by first|rfl|(congr 1;omega)|simp_all) (.of rfl))):SubM _ _) (ho:=((.e (i:=0) rfl (by first|rfl|(congr 1;omega)|simp_all) (.c (i:=0) rfl .n)):PickO _ _ _)) ((.of [0,1] rfl):SelR _ _ _) ?_
 rintro ⟨i,p,c,A⟩ hI
 replace hI:i≤nf∧A=Ms.all (F.take i):=hI
 try dsimp only
 obtain ⟨hi,hA⟩:=hI
 have hAl:A.length≤3*nf:=by rw [hA,Ms.all_len,List.length_take];omega
 refine ze<|za<|r_pv rfl rfl (zE rfl rfl)<|zg<|zc<|ze<|zD rfl (fun h3=> ?_) (fun h3=> ?_)
 ·
  refine zu<|zc<|ze<|zq<|ze<|za<|zI (x0:=(F.getD i (0,0,0))) 1 i rfl Try.underlying23 sz44 rfl rfl rfl (by first|rfl|assumption|(simp;done)|omega) rfl rfl (gD (d:=(0,0,0)) (by omega)) (fun b4 o5 hok6=> ?_)
  obtain ⟨hok6x,hok6y,hok6z⟩:=hok6
  replace hok6x:=zl.1 hok6x
  replace hok6y:=zl.1 hok6y
  replace hok6z:=zl.1 hok6z
  refine r_u rfl rfl (zG (j:=0) 0 ty44 rfl rfl rfl (.take (.take (.take .nil))))<|zV rfl rfl (zr zr44 rfl) (fun b7=> ?_)
  refine zv 0 rfl rfl rfl rfl rfl sz44 rfl (.take (.take (.take .nil))) .z<|zg<|zc<|ze<|za<|r_u rfl rfl (zh 0 ty44 rfl rfl (.take (.take (.take .nil))))<|zea rfl rfl (.c rfl .n) ce78 (zdd (ex:=(F.getD i (0,0,0)).1) (ey:=(F.getD i (0,0,0)).2.1) (ez:=(F.getD i (0,0,0)).2.2)) (.n)<|r_pv rfl rfl (zb rfl)<|zg<|zc<|zq<|zbb<|zaa<|ze<|za<|r_pv rfl rfl (zE rfl rfl)<|zg<|zc<|ze<|zZ rfl rfl<|zu<|zc<|ze<|zq<|ze<|za<|r_pv rfl rfl (zta (i:=0) Try.underlying112 ty72 rfl rfl (by decide) (.take (.take .nil)))<|zV rfl rfl (zr zr72 rfl) (fun b8=> ?_)
  refine zv 0 rfl rfl rfl rfl rfl sz72 rfl (.take (.take .nil)) .z<|zg<|zc<|za<|r_pv rfl rfl (zb rfl)<|r_u rfl rfl (zh 0 ty72 rfl rfl (.take (.take .nil)))<|zEa rfl rfl (zz (enc:=fun z:Int×Int=>[.int .i64 z.1,.int .i64 z.2]) (ok:=fun z=>InK .i64 z.1∧InK .i64 z.2) (h1:=fun _=>rfl) (h2:=fun _=>rfl) (k:=1) Try.underlying80 inf72 rfl (by decide) (by decide) (by decide) (.c (x:=(((F.getD i (0,0,0)).1),((F.getD i (0,0,0)).2.1))) rfl rfl (fun _ _=>by exact ⟨zl.2 (by first|omega|decide|(dsimp only;omega)),zl.2 (by first|omega|decide|(dsimp only;omega))⟩) .n)) (fun b9 _=> ?_)
  refine zxa 0 rfl .z<|zBa 3 rfl rfl rfl (zW 0 rfl Try.underlying80 inf72 (by decide) rfl rfl (by first|rfl|assumption|(simp;done)|omega) rfl (by first|rfl|assumption|(simp;done)|omega) (by omega) (by omega)) (fun _=>(.s (.s (.s .z)))) ?_
  rintro ⟨p10,c11⟩ -
  dsimp only [List.append_eq,List.nil_append,List.cons_append]
  refine r_pv rfl rfl (zd rfl)<|zg<|zA<|zc<|za<|r_pv rfl rfl (zC (z:=1) rfl rfl (w64 (by decide)))<|r_pv rfl rfl (zb rfl)<|zg<|zna<|zaa<|ze<|za<|r_pv rfl rfl (zE rfl rfl)<|zg<|zc<|ze<|zZ rfl rfl<|zu<|zc<|ze<|zq<|ze<|za<|r_pv rfl rfl (zta (i:=1) Try.underlying112 ty72 rfl rfl (by decide) (.skip (.skip (.take (.take .nil)))))<|zV rfl rfl (zr zr72 rfl) (fun b12=> ?_)
  refine zv 0 rfl rfl rfl rfl rfl sz72 rfl (.take (.take .nil)) .z<|zg<|zc<|za<|r_pv rfl rfl (zb rfl)<|r_u rfl rfl (zh 0 ty72 rfl rfl (.take (.take .nil)))<|zEa rfl rfl (zz (enc:=fun z:Int×Int=>[.int .i64 z.1,.int .i64 z.2]) (ok:=fun z=>InK .i64 z.1∧InK .i64 z.2) (h1:=fun _=>rfl) (h2:=fun _=>rfl) (k:=1) Try.underlying80 inf72 rfl (by decide) (by decide) (by decide) (.c (x:=(((F.getD i (0,0,0)).2.1),((F.getD i (0,0,0)).2.2))) rfl rfl (fun _ _=>by exact ⟨zl.2 (by first|omega|decide|(dsimp only;omega)),zl.2 (by first|omega|decide|(dsimp only;omega))⟩) .n)) (fun b13 _=> ?_)
  refine zxa 0 rfl .z<|zBa 5 rfl rfl rfl (zW 0 rfl Try.underlying80 inf72 (by decide) rfl rfl (by first|rfl|assumption|(simp;done)|omega) rfl (by first|rfl|assumption|(simp;done)|omega) (by omega) (by omega)) (fun _=>(.s (.s (.s (.s (.s .z)))))) ?_
  rintro ⟨p14,c15⟩ -
  dsimp only [List.append_eq,List.nil_append,List.cons_append]
  refine r_pv rfl rfl (zd rfl)<|zg<|zA<|zc<|za<|r_pv rfl rfl (zC (z:=2) rfl rfl (w64 (by decide)))<|r_pv rfl rfl (zb rfl)<|zg<|zna<|zaa<|ze<|za<|r_pv rfl rfl (zE rfl rfl)<|zg<|zc<|ze<|zZ rfl rfl<|zu<|zc<|ze<|zq<|ze<|za<|r_pv rfl rfl (zta (i:=2) Try.underlying112 ty72 rfl rfl (by decide) (.skip (.skip (.skip (.skip (.take (.take .nil)))))))<|zV rfl rfl (zr zr72 rfl) (fun b16=> ?_)
  refine zv 0 rfl rfl rfl rfl rfl sz72 rfl (.take (.take .nil)) .z<|zg<|zc<|za<|r_pv rfl rfl (zb rfl)<|r_u rfl rfl (zh 0 ty72 rfl rfl (.take (.take .nil)))<|zEa rfl rfl (zz (enc:=fun z:Int×Int=>[.int .i64 z.1,.int .i64 z.2]) (ok:=fun z=>InK .i64 z.1∧InK .i64 z.2) (h1:=fun _=>rfl) (h2:=fun _=>rfl) (k:=1) Try.underlying80 inf72 rfl (by decide) (by decide) (by decide) (.c (x:=(((F.getD i (0,0,0)).2.2),((F.getD i (0,0,0)).1))) rfl rfl (fun _ _=>by exact ⟨zl.2 (by first|omega|decide|(dsimp only;omega)),zl.2 (by first|omega|decide|(dsimp only;omega))⟩) .n)) (fun b17 _=> ?_)
  refine zxa 0 rfl .z<|zBa 7 rfl rfl rfl (zW 0 rfl Try.underlying80 inf72 (by decide) rfl rfl (by first|rfl|assumption|(simp;done)|omega) rfl (by first|rfl|assumption|(simp;done)|omega) (by omega) (by omega)) (fun _=>(.s (.s (.s (.s (.s (.s (.s .z)))))))) ?_
  rintro ⟨p18,c19⟩ -
  dsimp only [List.append_eq,List.nil_append,List.cons_append]
  refine r_pv rfl rfl (zd rfl)<|zg<|zA<|zc<|za<|r_pv rfl rfl (zC (z:=3) rfl rfl (w64 (by decide)))<|r_pv rfl rfl (zb rfl)<|zg<|zna<|zaa<|ze<|za<|r_pv rfl rfl (zE rfl rfl)<|zg<|zc<|ze<|zya rfl rfl<|zX<|zj<|zj<|zp<|zA<|zc<|za<|r_pv rfl rfl (zC (z:=(((i+1):Nat):Int)) rfl rfl (w64 (by omega)))<|r_pv rfl rfl (zb rfl)<|zg<|zba ((i+1),p18,c19,(((A++[((F.getD i (0,0,0)).1,(F.getD i (0,0,0)).2.1)])++[((F.getD i (0,0,0)).2.1,(F.getD i (0,0,0)).2.2)])++[((F.getD i (0,0,0)).2.2,(F.getD i (0,0,0)).1)])) (show (i+1)≤nf∧(((A++[((F.getD i (0,0,0)).1,(F.getD i (0,0,0)).2.1)])++[((F.getD i (0,0,0)).2.1,(F.getD i (0,0,0)).2.2)])++[((F.getD i (0,0,0)).2.2,(F.getD i (0,0,0)).1)])=Ms.all (F.take (i+1)) from by exact ⟨by omega,by rw [Ms.take_all (by omega),hA]⟩) (by show nf - (i+1)<nf - i;omega) ((.e rfl (by simp) (.of rfl)):SubM _ _) (ho:=((.e (i:=7) rfl (by first|rfl|(congr 1;omega)|simp_all) (.c (i:=7) rfl .n)):PickO _ _ _)) ((.of [4,5] rfl):SelR _ _ _)
 ·
  refine zX<|zj<|zj<|zp<|zc<|ze<|za<|r_pv rfl rfl (zb rfl)<|r_pv rfl rfl (zd rfl)<|zg<|zc<|zK ?_
  have hfin:A=Ms.all F:=by rw [hA,List.take_of_length_le (by omega)]
  refine zKa 0 rfl .z ?_
  exact zB Try.results50 (p,c) trivial (zx rfl) (by rw [hfin]) (ho:=(.n:PickO _ _ _)) ((.e (j:=0) rfl (by rw [hfin]) .n):SelR _ _ _)
theorem zGc {p:Option Addr} {n:Nat} {cap:Nat} {l:List (Int×Int)} {ex:Int} {ey:Int} (hn:l.length=n):Con Try.prog 51 [.slice p n cap,.agg #[.int .i64 ex,.int .i64 ey]] [] [slF (rI2 .i64) p cap l] (Y:=Unit) (fun y=>True) (fun y=> .int .i64 (((Ms.count l (ex,ey)):Nat):Int)) (fun y=>[]) (fun y=>[]):=by
 refine zy Try.func51 rfl rfl rfl (fun c=> ?_)
 show RunC _ _ _ _ _ [(0,.slice p n cap),(1,.agg #[.int .i64 ex,.int .i64 ey])] [] [slF (rI2 .i64) p cap l]
 refine zda 0 rfl (fun hL0=> ?_)
 refine ze<|za<|zV rfl rfl (zla rfl rfl) (fun b1=> ?_)
 refine r_pv rfl rfl (zd rfl)<|zg<|zc<|ze<|za<|r_pv rfl rfl (zd rfl)<|zg<|zc<|ze<|ze<|za<|r_pv rfl rfl (zb rfl)<|r_pv rfl rfl (zJ Try.underlying80 rfl)<|r_pv rfl rfl (zb rfl)<|zg<|zc<|zq<|zha (X:=Nat×Nat) (fun x:Nat×Nat=>x.1≤n∧x.2=Ms.count (l.take x.1) (ex,ey)) (fun x=>[(5,.int .i64 ((x.2:Nat):Int)),(10,.int .i64 ((x.1:Nat):Int)),(9,.int .i64 ((n:Nat):Int)),(8,.slice p n cap),(4,.int .i64 0),(3,.pointer (some ⟨b1,0,none⟩))]) (fun x=>[boxA b1 72 [.int .i64 ex,.int .i64 ey]]) (fun x=>[slF (rI2 .i64) p cap l]) (fun x:Nat×Nat=>n - x.1) (0,0) (show 0≤n∧0=Ms.count (l.take 0) (ex,ey) from by exact ⟨Nat.zero_le _,rfl⟩) ((.e rfl (by first|rfl|(congr 1;omega)|simp_all) (.e rfl (by first|rfl|(congr 1;omega)|simp_all) (.of rfl))):SubM _ _) (ho:=((.c (i:=0) rfl .n):PickO _ _ _)) ((.c (j:=0) rfl .n):SelR _ _ _) ?_
 rintro ⟨i,q⟩ hI
 replace hI:i≤n∧q=Ms.count (l.take i) (ex,ey):=hI
 try dsimp only
 obtain ⟨hi,hq⟩:=hI
 have hqn:q≤i:=by have:=Ms.count_le (l.take i) (ex,ey);rw [List.length_take] at this;omega
 refine ze<|za<|r_pv rfl rfl (zE rfl rfl)<|zg<|zc<|ze<|zD rfl (fun h2=> ?_) (fun h2=> ?_)
 ·
  refine zu<|zc<|ze<|zq<|ze<|za<|zI (x0:=(l.getD i (0,0))) 0 i rfl Try.underlying80 sz72 rfl rfl rfl (by first|rfl|assumption|(simp_all;done)|omega) rfl rfl (gD (d:=(0,0)) (by omega)) (fun b3 o4 hok5=> ?_)
  obtain ⟨hok5x,hok5y⟩:=hok5
  replace hok5x:=zl.1 hok5x
  replace hok5y:=zl.1 hok5y
  refine r_u rfl rfl (zG (j:=0) 0 ty72 rfl rfl rfl (.take (.take .nil)))<|zV rfl rfl (zr zr72 rfl) (fun b6=> ?_)
  refine zv 0 rfl rfl rfl rfl rfl sz72 rfl (.take (.take .nil)) .z<|zg<|zc<|ze<|za<|r_u rfl rfl (zh 0 ty72 rfl rfl (.take (.take .nil)))<|r_u rfl rfl (zh 1 ty72 rfl rfl (.take (.take .nil)))<|r_pv rfl rfl (zcd (p:=(l.getD i (0,0)).1=ex∧(l.getD i (0,0)).2=ey) (by kernel_rfl) rfl rfl (zyc Try.underlying72 sz3 (zNb ty3 rfl rfl (zmb Try.underlying3) (zNb ty3 rfl rfl (zmb Try.underlying3) zud))) (by simp [Bool.decide_and]))<|zg<|zc<|zD rfl (fun he=> ?_) (fun he=> ?_)
  ·
   refine za<|r_pv rfl rfl (zb rfl)<|r_pv rfl rfl (zC (z:=(((q+1):Nat):Int)) rfl rfl (w64 (by omega)))<|r_pv rfl rfl (zd rfl)<|zg<|zA<|zc<|za<|r_pv rfl rfl (zC (z:=(((i+1):Nat):Int)) rfl rfl (w64 (by omega)))<|r_pv rfl rfl (zb rfl)<|zg<|zba ((i+1),(q+1)) (show (i+1)≤n∧(q+1)=Ms.count (l.take (i+1)) (ex,ey) from by exact ⟨by omega,by rw [Ms.take_snoc (0,0) (by omega),Ms.count_snoc,if_pos (Prod.ext he.1 he.2),hq]⟩) (by show n - (i+1)<n - i;omega) ((.of rfl):SubM _ _) (ho:=((.c (i:=1) rfl .n):PickO _ _ _)) ((.c (j:=1) rfl .n):SelR _ _ _)
  ·
   refine zu<|zA<|zc<|za<|r_pv rfl rfl (zC (z:=(((i+1):Nat):Int)) rfl rfl (w64 (by omega)))<|r_pv rfl rfl (zb rfl)<|zg<|zba ((i+1),q) (show (i+1)≤n∧q=Ms.count (l.take (i+1)) (ex,ey) from by exact ⟨by omega,by rw [Ms.take_snoc (0,0) (by omega),Ms.count_snoc,if_neg (fun h=>he (by rw [h];exact ⟨rfl,rfl⟩)),hq] <;> rfl⟩) (by show n - (i+1)<n - i;omega) ((.of rfl):SubM _ _) (ho:=((.c (i:=1) rfl .n):PickO _ _ _)) ((.c (j:=1) rfl .n):SelR _ _ _)
 ·
  refine zX<|zj<|zj<|zp<|zc<|ze<|za<|r_pv rfl rfl (zb rfl)<|r_pv rfl rfl (zd rfl)<|zg<|zc<|zK ?_
  exact zB Try.results51 () trivial (zx rfl) (by rw [hq,List.take_of_length_le (by omega)]) (ho:=(.n:PickO _ _ _)) (.n:SelR _ _ _)
theorem zld {ex:Int} {ey:Int} {ez:Int} {fx:Int} {fy:Int} {fz:Int}:Con Try.prog 55 [.agg #[.int .i64 ex,.int .i64 ey,.int .i64 ez],.agg #[.int .i64 fx,.int .i64 fy,.int .i64 fz]] [] [] (Y:=Unit) (fun y=>True) (fun y=> .int .i64 (Ms.common (ex,ey,ez) (fx,fy,fz))) (fun y=>[]) (fun y=>[]):=by
 refine zy Try.func55 rfl rfl rfl (fun c=> ?_)
 show RunC _ _ _ _ _ [(0,.agg #[.int .i64 ex,.int .i64 ey,.int .i64 ez]),(1,.agg #[.int .i64 fx,.int .i64 fy,.int .i64 fz])] [] []
 refine ze<|za<|zV rfl rfl (zla rfl rfl) (fun b1=> ?_)
 refine zV rfl rfl (zla rfl rfl) (fun b2=> ?_)
 refine r_pv rfl rfl (zd rfl)<|zg<|zc<|ze<|za<|r_pv rfl rfl (zd rfl)<|zg<|zc<|ze<|ze<|za<|r_u rfl rfl (zh 1 ty44 rfl rfl (.take (.take (.take .nil))))<|r_pv rfl rfl (zb rfl)<|zg<|zc<|zq<|zbb<|zaa<|ze<|za<|r_pv rfl rfl (zE rfl rfl)<|zg<|zc<|ze<|zZ rfl rfl<|zu<|zc<|zLa (X:=Int) (fun x=>x=0+(if Ms.hasV (fx,fy,fz) ex then 1 else 0)∧0≤x∧x≤1) (fun x=>[(5,.int .i64 x),(10,.bool true),(9,.int .i64 0),(8,.agg #[.int .i64 ex,.int .i64 ey,.int .i64 ez]),(4,.int .i64 0),(3,.pointer (some ⟨b2,0,none⟩))]) (fun x=>[boxA b2 44 [.int .i64 fx,.int .i64 fy,.int .i64 fz],boxA b1 44 [.int .i64 ex,.int .i64 ey,.int .i64 ez]]) (fun x=>[]) ?_ ?_
 ·
  refine zq<|ze<|za<|r_pv rfl rfl (zia (i:=0) Try.underlying44 ty3 rfl rfl (by decide) rfl)<|r_pv rfl rfl (zd rfl)<|zg<|zc<|ze<|za<|r_u rfl rfl (zh 0 ty44 rfl rfl (.take (.take (.take .nil))))<|r_pv rfl rfl (zb rfl)<|zea rfl rfl (.c rfl (.c rfl .n)) ce52 (zmc (ex:=fx) (ey:=fy) (ez:=fz) (w:=ex)) (.n)<|zg<|zc<|zAa rfl (fun hh=> ?_) (fun hh=> ?_)
  ·
   refine za<|r_pv rfl rfl (zb rfl)<|r_pv rfl rfl (zC (z:=1) rfl rfl (w64 (by decide)))<|r_pv rfl rfl (zd rfl)<|zg<|zA ?_
   exact zja 1 (show 1=0+(if Ms.hasV (fx,fy,fz) ex then 1 else 0)∧0≤1∧1≤1 from by exact ⟨by rw [if_pos hh] <;> rfl,by omega,by omega⟩) ((.of rfl):SubM _ _) (ho:=((.of [0,0] rfl):PickO _ _ _)) (.n:SelR _ _ _)
  ·
   refine zu<|zA ?_
   exact zja 0 (show 0=0+(if Ms.hasV (fx,fy,fz) ex then 1 else 0)∧0≤0∧0≤1 from by exact ⟨by rw [if_neg (by rw [hh];decide)] <;> omega,by omega,by omega⟩) ((.of rfl):SubM _ _) (ho:=((.of [0,0] rfl):PickO _ _ _)) (.n:SelR _ _ _)
 ·
  rintro cn0 hc0
  replace hc0:cn0=0+(if Ms.hasV (fx,fy,fz) ex then 1 else 0)∧0≤cn0∧cn0≤1:=hc0
  try dsimp only
  refine za<|r_pv rfl rfl (zC (z:=1) rfl rfl (w64 (by decide)))<|r_pv rfl rfl (zb rfl)<|zg<|zna<|zaa<|ze<|za<|r_pv rfl rfl (zE rfl rfl)<|zg<|zc<|ze<|zZ rfl rfl<|zu<|zc<|zLa (X:=Int) (fun x=>x=cn0+(if Ms.hasV (fx,fy,fz) ey then 1 else 0)∧0≤x∧x≤2) (fun x=>[(5,.int .i64 x),(10,.bool true),(9,.int .i64 1),(17,.int .i64 1),(8,.agg #[.int .i64 ex,.int .i64 ey,.int .i64 ez]),(4,.int .i64 0),(3,.pointer (some ⟨b2,0,none⟩))]) (fun x=>[boxA b2 44 [.int .i64 fx,.int .i64 fy,.int .i64 fz],boxA b1 44 [.int .i64 ex,.int .i64 ey,.int .i64 ez]]) (fun x=>[]) ?_ ?_
  ·
   refine zq<|ze<|za<|r_pv rfl rfl (zia (i:=1) Try.underlying44 ty3 rfl rfl (by decide) rfl)<|r_pv rfl rfl (zd rfl)<|zg<|zc<|ze<|za<|r_u rfl rfl (zh 0 ty44 rfl rfl (.take (.take (.take .nil))))<|r_pv rfl rfl (zb rfl)<|zea rfl rfl (.c rfl (.c rfl .n)) ce52 (zmc (ex:=fx) (ey:=fy) (ez:=fz) (w:=ey)) (.n)<|zg<|zc<|zAa rfl (fun hh=> ?_) (fun hh=> ?_)
   ·
    refine za<|r_pv rfl rfl (zb rfl)<|r_pv rfl rfl (zC (z:=(cn0+1)) rfl rfl (w64 (by omega)))<|r_pv rfl rfl (zd rfl)<|zg<|zA ?_
    exact zja (cn0+1) (show (cn0+1)=cn0+(if Ms.hasV (fx,fy,fz) ey then 1 else 0)∧0≤(cn0+1)∧(cn0+1)≤2 from by exact ⟨by rw [if_pos hh] <;> rfl,by omega,by omega⟩) ((.of rfl):SubM _ _) (ho:=((.of [0,0] rfl):PickO _ _ _)) (.n:SelR _ _ _)
   ·
    refine zu<|zA ?_
    exact zja cn0 (show cn0=cn0+(if Ms.hasV (fx,fy,fz) ey then 1 else 0)∧0≤cn0∧cn0≤2 from by exact ⟨by rw [if_neg (by rw [hh];decide)] <;> omega,by omega,by omega⟩) ((.of rfl):SubM _ _) (ho:=((.of [0,0] rfl):PickO _ _ _)) (.n:SelR _ _ _)
  ·
   rintro cn1 hc1
   replace hc1:cn1=cn0+(if Ms.hasV (fx,fy,fz) ey then 1 else 0)∧0≤cn1∧cn1≤2:=hc1
   try dsimp only
   refine za<|r_pv rfl rfl (zC (z:=2) rfl rfl (w64 (by decide)))<|r_pv rfl rfl (zb rfl)<|zg<|zna<|zaa<|ze<|za<|r_pv rfl rfl (zE rfl rfl)<|zg<|zc<|ze<|zZ rfl rfl<|zu<|zc<|zLa (X:=Int) (fun x=>x=cn1+(if Ms.hasV (fx,fy,fz) ez then 1 else 0)∧0≤x∧x≤3) (fun x=>[(5,.int .i64 x),(10,.bool true),(9,.int .i64 2),(17,.int .i64 2),(8,.agg #[.int .i64 ex,.int .i64 ey,.int .i64 ez]),(4,.int .i64 0),(3,.pointer (some ⟨b2,0,none⟩))]) (fun x=>[boxA b2 44 [.int .i64 fx,.int .i64 fy,.int .i64 fz],boxA b1 44 [.int .i64 ex,.int .i64 ey,.int .i64 ez]]) (fun x=>[]) ?_ ?_
   ·
    refine zq<|ze<|za<|r_pv rfl rfl (zia (i:=2) Try.underlying44 ty3 rfl rfl (by decide) rfl)<|r_pv rfl rfl (zd rfl)<|zg<|zc<|ze<|za<|r_u rfl rfl (zh 0 ty44 rfl rfl (.take (.take (.take .nil))))<|r_pv rfl rfl (zb rfl)<|zea rfl rfl (.c rfl (.c rfl .n)) ce52 (zmc (ex:=fx) (ey:=fy) (ez:=fz) (w:=ez)) (.n)<|zg<|zc<|zAa rfl (fun hh=> ?_) (fun hh=> ?_)
    ·
     refine za<|r_pv rfl rfl (zb rfl)<|r_pv rfl rfl (zC (z:=(cn1+1)) rfl rfl (w64 (by omega)))<|r_pv rfl rfl (zd rfl)<|zg<|zA ?_
     exact zja (cn1+1) (show (cn1+1)=cn1+(if Ms.hasV (fx,fy,fz) ez then 1 else 0)∧0≤(cn1+1)∧(cn1+1)≤3 from by exact ⟨by rw [if_pos hh] <;> rfl,by omega,by omega⟩) ((.of rfl):SubM _ _) (ho:=((.of [0,0] rfl):PickO _ _ _)) (.n:SelR _ _ _)
    ·
     refine zu<|zA ?_
     exact zja cn1 (show cn1=cn1+(if Ms.hasV (fx,fy,fz) ez then 1 else 0)∧0≤cn1∧cn1≤3 from by exact ⟨by rw [if_neg (by rw [hh];decide)] <;> omega,by omega,by omega⟩) ((.of rfl):SubM _ _) (ho:=((.of [0,0] rfl):PickO _ _ _)) (.n:SelR _ _ _)
   ·
    rintro cn2 hc2
    replace hc2:cn2=cn1+(if Ms.hasV (fx,fy,fz) ez then 1 else 0)∧0≤cn2∧cn2≤3:=hc2
    try dsimp only
    refine za<|r_pv rfl rfl (zC (z:=3) rfl rfl (w64 (by decide)))<|r_pv rfl rfl (zb rfl)<|zg<|zna<|zaa<|ze<|za<|r_pv rfl rfl (zE rfl rfl)<|zg<|zc<|ze<|zya rfl rfl<|zX<|zj<|zj<|zp<|zc<|ze<|za<|r_pv rfl rfl (zb rfl)<|r_pv rfl rfl (zd rfl)<|zg<|zc<|zK ?_
    exact zB Try.results55 () trivial (zx rfl) (congrArg (Value.int .i64) (by rw [hc2.1,hc1.1,hc0.1];simp [Ms.common])) (ho:=(.n:PickO _ _ _)) (.n:SelR _ _ _)
theorem zmd {mb:Nat} {pv:Option Addr} {nv:Nat} {cv:Nat} {pf:Option Addr} {nf:Nat} {cf:Nat} {F:List (Int×Int×Int)} {a0:Int} {b0:Int} (hnf:F.length=nf) (ha:0≤a0∧a0<nf) (hb:0≤b0∧b0<nf):Con Try.prog 54 [.int .i64 a0,.int .i64 b0,.pointer (some ⟨mb,0,none⟩)] [] [atF mb 0 [.slice pv nv cv,.slice pf nf cf],slF (rI3 .i64) pf cf F] (Y:=Unit) (fun y=>True) (fun y=> .bool (Ms.nearF F a0 b0)) (fun y=>[]) (fun y=>[]):=by
 refine zy Try.func54 rfl rfl rfl (fun c=> ?_)
 show RunC _ _ _ _ _ [(0,.int .i64 a0),(1,.int .i64 b0),(2,.pointer (some ⟨mb,0,none⟩))] [] [atF mb 0 [.slice pv nv cv,.slice pf nf cf],slF (rI3 .i64) pf cf F]
 refine zda 1 rfl (fun hL1=> ?_)
 refine ze<|za<|r_pv rfl rfl (zd rfl)<|zg<|zc<|ze<|zva (OW:=[]) (O:=[]) 100000 mixed (.then .ret) (by kernel_rfl)<|d_pv 0 rfl rfl (by kernel_rfl) (by kernel_rfl) rfl rfl (zn Try.underlying25 rfl sz23 rfl rfl)<|d_u 1 rfl rfl (by kernel_rfl) (by kernel_rfl) rfl rfl (zw (j:=1) 0 ty23 rfl rfl rfl rfl)<|d_pv 2 rfl rfl (by kernel_rfl) (by kernel_rfl) rfl rfl (zb rfl)<|zka (x0:=(F.getD ((a0).toNat) (0,0,0))) 3 rfl rfl (by kernel_rfl) (by kernel_rfl) 1 ((a0).toNat) rfl Try.underlying23 sz44 rfl rfl rfl (by first|rfl|assumption|(simp_all;done)|omega) rfl (by omega) (gD (d:=(0,0,0)) (by omega)) (fun b1 o2 hok3=> ?_)
 obtain ⟨hok3x,hok3y,hok3z⟩:=hok3
 replace hok3x:=zl.1 hok3x
 replace hok3y:=zl.1 hok3y
 replace hok3z:=zl.1 hok3z
 refine d_u 4 rfl rfl (by kernel_rfl) (by kernel_rfl) rfl rfl (zG (j:=0) 0 ty44 rfl rfl rfl (.take (.take (.take .nil))))<|d_pv 5 rfl rfl (by kernel_rfl) (by kernel_rfl) rfl rfl (zn Try.underlying25 rfl sz23 rfl rfl)<|d_u 6 rfl rfl (by kernel_rfl) (by kernel_rfl) rfl rfl (zw (j:=1) 1 ty23 rfl rfl rfl rfl)<|d_pv 7 rfl rfl (by kernel_rfl) (by kernel_rfl) rfl rfl (zb rfl)<|zka (x0:=(F.getD ((b0).toNat) (0,0,0))) 8 rfl rfl (by kernel_rfl) (by kernel_rfl) 2 ((b0).toNat) rfl Try.underlying23 sz44 rfl rfl rfl (by first|rfl|assumption|(simp_all;done)|omega) rfl (by omega) (gD (d:=(0,0,0)) (by omega)) (fun b4 o5 hok6=> ?_)
 obtain ⟨hok6x,hok6y,hok6z⟩:=hok6
 replace hok6x:=zl.1 hok6x
 replace hok6y:=zl.1 hok6y
 replace hok6z:=zl.1 hok6z
 refine d_u 9 rfl rfl (by kernel_rfl) (by kernel_rfl) rfl rfl (zG (j:=0) 0 ty44 rfl rfl rfl (.take (.take (.take .nil))))<|zO 10 (by kernel_rfl) (zza rfl rfl rfl rfl (.c rfl (.c rfl .n)) ce55 (zld (ex:=(F.getD ((a0).toNat) (0,0,0)).1) (ey:=(F.getD ((a0).toNat) (0,0,0)).2.1) (ez:=(F.getD ((a0).toNat) (0,0,0)).2.2) (fx:=(F.getD ((b0).toNat) (0,0,0)).1) (fy:=(F.getD ((b0).toNat) (0,0,0)).2.1) (fz:=(F.getD ((b0).toNat) (0,0,0)).2.2)) (.n) ?_)
 refine d_pv 11 rfl rfl (by kernel_rfl) (by kernel_rfl) rfl rfl (zcb rfl rfl)<|d_pv 12 rfl rfl (by kernel_rfl) (by kernel_rfl) rfl rfl (zd rfl)<|zwa (by kernel_rfl)<|zc<|zK ?_
 exact zB Try.results54 () trivial (zx rfl) rfl (ho:=(.n:PickO _ _ _)) (.n:SelR _ _ _)
theorem znd {mb:Nat} {pv:Option Addr} {nv:Nat} {cv:Nat} {pf:Option Addr} {nf:Nat} {cf:Nat} {F:List (Int×Int×Int)} {p:Option Addr} {n:Nat} {cap:Nat} {l:List Int} (hnf:F.length=nf) (hn:l.length=n) (hn0:0<n∧n≤4096) (hl:∀a∈l,0≤a∧a<nf):Con Try.prog 53 [.slice p n cap,.func (.func 54) #[] #[.pointer (some ⟨mb,0,none⟩)]] [] [slF (rI .i64) p cap l,atF mb 0 [.slice pv nv cv,.slice pf nf cf],slF (rI3 .i64) pf cf F] (Y:=(List Int)) (fun y=>Ms.Spread (fun a b=>Ms.nearF F a b=true) l y) (fun y=> .int .i64 ((y.length:Nat):Int)) (fun y=>[]) (fun y=>[]):=by
 refine zy Try.func53 rfl rfl rfl (fun c=> ?_)
 show RunC _ _ _ _ _ [(0,.slice p n cap),(1,.func (.func 54) #[] #[.pointer (some ⟨mb,0,none⟩)])] [] [slF (rI .i64) p cap l,atF mb 0 [.slice pv nv cv,.slice pf nf cf],slF (rI3 .i64) pf cf F]
 refine zda 0 rfl (fun hL0=> ?_)
 refine zda 2 rfl (fun hL2=> ?_)
 refine ze<|za<|r_pv rfl rfl (zd rfl)<|zg<|zc<|ze<|za<|zEa rfl rfl (zGa (κ:=Int) (ν:=Bool) (fun z:Int=> .int .i64 z) (fun z:Bool=> .bool z) (InK .i64)) (fun b1 _=> ?_)
 refine r_pv rfl rfl (zd rfl)<|zg<|zc<|ze<|za<|r_pv rfl rfl (zb rfl)<|r_pv rfl rfl (zlb (hi:=1) Try.underlying50 sz3 rfl (.s rfl) (.inr ⟨_,rfl⟩) (by omega))<|zYb (zwb 0 rfl 1 (by omega)) (fun _ _=> ?_)
 refine r_pv rfl rfl (zd rfl)<|zg<|zc<|ze<|zq<|zha (X:=(List (Int×Bool))×(List Int)×(Option Addr)×Nat×(List Int)) (fun x:(List (Int×Bool))×(List Int)×(Option Addr)×Nat×(List Int)=>Ms.Marks x.1 x.2.1∧Ms.SpI (fun a b=>Ms.nearF F a b=true) l x.2.1 x.2.2.2.2∧x.2.2.2.2.length≤1+x.2.1.length*l.length) (fun x=>[(6,.slice (x.2.2.1) (x.2.2.2.2.length) (x.2.2.2.1)),(5,.map (some b1)),(4,.int .i64 0),(0,.slice p n cap),(1,.func (.func 54) #[] #[.pointer (some ⟨mb,0,none⟩)])]) (fun x=>[mapA b1 (fun z:Int=> .int .i64 z) (fun z:Bool=> .bool z) (InK .i64) (x.1)]) (fun x=>[slF (rI .i64) (x.2.2.1) (x.2.2.2.1) (x.2.2.2.2),slF (rI .i64) p cap l,atF mb 0 [.slice pv nv cv,.slice pf nf cf],slF (rI3 .i64) pf cf F]) (fun x:(List (Int×Bool))×(List Int)×(Option Addr)×Nat×(List Int)=>(l.length - x.2.1.length)*(l.length+1)+x.2.2.2.2.length) (([]:List (Int×Bool)),([]:List Int),p,cap,(l.take 1)) (show Ms.Marks ([]:List (Int×Bool)) ([]:List Int)∧Ms.SpI (fun a b=>Ms.nearF F a b=true) l ([]:List Int) (l.take 1)∧(l.take 1).length≤1+([]:List Int).length*l.length from by exact ⟨Ms.Marks.nil,Ms.SpI.start (by omega),by rw [List.length_take];omega⟩) ((.e rfl (congrArg (fun q=>Value.slice _ q _) (by rw [List.length_take];omega)) (.of rfl)):SubM _ _) (ho:=((.e (i:=0) rfl (by first|rfl|(congr 1;omega)|simp_all) .n):PickO _ _ _)) ((.e (j:=0) rfl (by first|rfl|simp_all) (.of [1,2,3] rfl)):SelR _ _ _) ?_
 rintro ⟨sm,K,tp,tc,td⟩ hI
 replace hI:Ms.Marks sm K∧Ms.SpI (fun a b=>Ms.nearF F a b=true) l K td∧td.length≤1+K.length*l.length:=hI
 try dsimp only
 obtain ⟨hM,hS,hT⟩:=hI
 refine zda 0 rfl (fun hLt=> ?_)
 refine ze<|ze<|za<|r_pv rfl rfl (zb rfl)<|r_pv rfl rfl (zJ Try.underlying50 rfl)<|r_pv rfl rfl (zOa rfl rfl)<|zg<|zc<|zD rfl (fun h2=> ?_) (fun h2=> ?_)
 ·
  have htd0:0<td.length:=by omega
  have hta:=Ms.getD_mem (l:=td) (i:=0) 0 (by omega)
  have hal:=hl _ (hS.tsub _ hta)
  have hKL:=Ms.sp_mu hM.nodup hS
  refine zu<|zc<|zq<|ze<|za<|r_pv rfl rfl (zb rfl)<|zI (x0:=(td.getD 0 0)) 0 0 rfl Try.underlying50 sz3 rfl rfl rfl (by first|rfl|assumption|(simp_all;done)|omega) rfl rfl (gD (d:=0) (by omega)) (fun b3 o4 hok5=> ?_)
  replace hok5:=zl.1 hok5
  refine r_u rfl rfl (zw (j:=0) 0 ty3 rfl rfl rfl rfl)<|r_pv rfl rfl (zd rfl)<|zg<|zc<|ze<|za<|r_pv rfl rfl (zb rfl)<|r_pv rfl rfl (zVc (lo:=1) (hi:=td.length) Try.underlying50 sz3 rfl (.s rfl) .n (.inr ⟨_,rfl⟩) (.inl ⟨rfl,rfl⟩) (by omega) (by omega))<|zYb (zWd 1 rfl 1 (td.length) (by omega) (by omega)) (fun _ _=> ?_)
  have e6:(td.take (td.length)).drop 1=td.drop 1:=by rw [List.take_length]
  rw [e6]
  refine r_pv rfl rfl (zd rfl)<|zg<|zc<|ze<|ze<|za<|r_pv rfl rfl (zb rfl)<|r_pv rfl rfl (zb rfl)<|r_u rfl rfl (zoa (z:=false) (a0:=(td.getD 0 0)) (v:= .bool ((mget sm (td.getD 0 0)).getD false)) 0 rfl ky3 Try.underlying94 zr4 rfl rfl (zl.2 (by omega)) rfl)<|zg<|zc<|zAa rfl (fun hs=> ?_) (fun hs=> ?_)
  ·
   refine zX<|zj<|zp<|zba (sm,K,(newP tp tc 1 1),(tc - 1),td.drop 1) (show Ms.Marks sm K∧Ms.SpI (fun a b=>Ms.nearF F a b=true) l K (td.drop 1)∧(td.drop 1).length≤1+K.length*l.length from by exact ⟨hM,hS.skip htd0 (hM.yes hs),by rw [List.length_drop];omega⟩) (by show (l.length - K.length)*(l.length+1)+(td.drop 1).length<(l.length - K.length)*(l.length+1)+td.length;rw [List.length_drop];omega) ((.e rfl (by simp) (.of rfl)):SubM _ _) (ho:=((.c (i:=0) rfl .n):PickO _ _ _)) ((.e (j:=0) rfl (by first|rfl|simp_all) (.of [3,4,5] rfl)):SelR _ _ _)
  ·
   have hM2:=hM.step (hM.no hs)
   have htl:=Ms.td_len hT htd0
   have hTL:K.length*l.length≤4096*4096:=Nat.mul_le_mul (by omega) (by omega)
   refine zu<|zc<|ze<|za<|r_pv rfl rfl (zb rfl)<|r_pv rfl rfl (zb rfl)<|zBa 0 rfl rfl rfl (zga (a0:=(td.getD 0 0)) (v:=true) ky3 Try.underlying94 rfl rfl rfl (zl.2 (by omega))) (fun _=> .z) (fun _ _=> ?_)
   refine zg<|zc<|ze<|za<|r_pv rfl rfl (zb rfl)<|r_pv rfl rfl (zJ Try.underlying50 rfl)<|r_pv rfl rfl (zb rfl)<|zg<|zc<|zq<|zha (X:=Nat×(Option Addr)×Nat×(List Int)) (fun x:Nat×(Option Addr)×Nat×(List Int)=>x.1≤l.length∧x.2.2.2=td.drop 1++Ms.pushed (Ms.nearF F) (K++[td.getD 0 0]) (td.getD 0 0) (l.take x.1)) (fun x=>[(6,.slice (x.2.1) (x.2.2.2.length) (x.2.2.1)),(28,.int .i64 ((x.1:Nat):Int)),(27,.int .i64 ((n:Nat):Int)),(26,.slice p n cap),(7,.int .i64 (td.getD 0 0)),(5,.map (some b1)),(4,.int .i64 0),(0,.slice p n cap),(1,.func (.func 54) #[] #[.pointer (some ⟨mb,0,none⟩)])]) (fun x=>[mapA b1 (fun z:Int=> .int .i64 z) (fun z:Bool=> .bool z) (InK .i64) (mput sm (td.getD 0 0) true)]) (fun x=>[slF (rI .i64) (x.2.1) (x.2.2.1) (x.2.2.2),slF (rI .i64) (newP tp tc 1 1) (tc - 1) (td.drop 1),atF b3 o4 [.int .i64 (td.getD 0 0)],slF (rI .i64) tp tc td,slF (rI .i64) p cap l,atF mb 0 [.slice pv nv cv,.slice pf nf cf],slF (rI3 .i64) pf cf F]) (fun x:Nat×(Option Addr)×Nat×(List Int)=>l.length - x.1) (0,(newP tp tc 1 1),(tc - 1),(td.drop 1)) (show 0≤l.length∧(td.drop 1)=td.drop 1++Ms.pushed (Ms.nearF F) (K++[td.getD 0 0]) (td.getD 0 0) (l.take 0) from by exact ⟨Nat.zero_le _,by simp [Ms.pushed]⟩) ((.e rfl (by simp) (.e rfl (by first|rfl|(congr 1;omega)|simp_all) (.of rfl))):SubM _ _) (ho:=((.c (i:=0) rfl .n):PickO _ _ _)) ((.of [0,0,1,2,3,4,5] rfl):SelR _ _ _) ?_
   rintro ⟨j,up,uc,ud⟩ hJ
   replace hJ:j≤l.length∧ud=td.drop 1++Ms.pushed (Ms.nearF F) (K++[td.getD 0 0]) (td.getD 0 0) (l.take j):=hJ
   try dsimp only
   obtain ⟨hj,hud⟩:=hJ
   refine ze<|za<|r_pv rfl rfl (zE rfl rfl)<|zg<|zc<|ze<|zD rfl (fun h7=> ?_) (fun h7=> ?_)
   ·
    have hbl:=hl _ (Ms.getD_mem (l:=l) (i:=j) 0 (by omega))
    have hpl:=Ms.pushed_len (Ms.nearF F) (K++[td.getD 0 0]) (td.getD 0 0) (l.take j)
    have hul:ud.length≤td.length - 1+l.length:=by rw [hud,List.length_append,List.length_drop];rw [List.length_take] at hpl;omega
    refine zu<|zc<|ze<|zq<|ze<|za<|zI (x0:=(l.getD j 0)) 4 j rfl Try.underlying50 sz3 rfl rfl rfl (by first|rfl|assumption|(simp_all;done)|omega) rfl rfl (gD (d:=0) (by omega)) (fun b8 o9 hok10=> ?_)
    replace hok10:=zl.1 hok10
    refine r_u rfl rfl (zw (j:=0) 0 ty3 rfl rfl rfl rfl)<|r_pv rfl rfl (zd rfl)<|zg<|zc<|zLa (X:=Unit) (fun x=>True) (fun x=>[(41,.bool (decide (((!((mget (mput sm (td.getD 0 0) true) (l.getD j 0)).getD false))=true)∧((Ms.nearF F (td.getD 0 0) (l.getD j 0))=true)))),(9,.int .i64 (l.getD j 0)),(6,.slice up (ud.length) uc),(28,.int .i64 ((j:Nat):Int)),(27,.int .i64 ((n:Nat):Int)),(26,.slice p n cap),(7,.int .i64 (td.getD 0 0)),(5,.map (some b1)),(4,.int .i64 0),(0,.slice p n cap),(1,.func (.func 54) #[] #[.pointer (some ⟨mb,0,none⟩)])]) (fun x=>[mapA b1 (fun z:Int=> .int .i64 z) (fun z:Bool=> .bool z) (InK .i64) (mput sm (td.getD 0 0) true)]) (fun x=>[atF b8 o9 [.int .i64 (l.getD j 0)],slF (rI .i64) up uc ud,slF (rI .i64) (newP tp tc 1 1) (tc - 1) (td.drop 1),atF b3 o4 [.int .i64 (td.getD 0 0)],slF (rI .i64) tp tc td,slF (rI .i64) p cap l,atF mb 0 [.slice pv nv cv,.slice pf nf cf],slF (rI3 .i64) pf cf F]) ?_ ?_
    ·
     refine za<|r_pv rfl rfl (zb rfl)<|r_pv rfl rfl (zb rfl)<|r_u rfl rfl (zoa (z:=false) (a0:=(l.getD j 0)) (v:= .bool ((mget (mput sm (td.getD 0 0) true) (l.getD j 0)).getD false)) 0 rfl ky3 Try.underlying94 zr4 rfl rfl (zl.2 (by omega)) rfl)<|r_pv rfl rfl (zhb rfl)<|zuc rfl rfl (zb rfl) (fun h11=> ?_) (fun h11=> ?_)
     ·
      refine r_pv rfl rfl (zb rfl)<|r_pv rfl rfl (zb rfl)<|r_pv rfl rfl (zb rfl)<|zvc (first:=[]) (cap:=[.pointer (some ⟨mb,0,none⟩)]) rfl rfl rfl (.c rfl (.c rfl .n)) ce54 (zmd (mb:=mb) (pv:=pv) (nv:=nv) (cv:=cv) (pf:=pf) (nf:=nf) (cf:=cf) (F:=F) (a0:=(td.getD 0 0)) (b0:=(l.getD j 0)) (hnf:=by assumption) (ha:=by first|rfl|assumption|omega|(simp;done)|(simp;omega)|(simp_all;done)) (hb:=by first|rfl|assumption|omega|(simp;done)|(simp;omega)|(simp_all;done))) (.c (j:=6) rfl (.c (j:=7) rfl .n)) ?_
      rintro ⟨⟩ -
      dsimp only [List.append_eq,List.nil_append,List.cons_append]
      refine r_pv rfl rfl (zH rfl rfl)<|zg ?_
      exact zja () (show True from by first|trivial|omega|simp_all) ((.e rfl (congrArg Value.bool (by first|(simp_all;done)|(simp_all;omega)|(simp;omega)|omega)) (.of rfl)):SubM _ _) (ho:=((.c (i:=0) rfl .n):PickO _ _ _)) ((.of [0,1,2,3,4,5,6,7] rfl):SelR _ _ _)
     ·
      refine zi rfl rfl<|zi rfl rfl<|zi rfl rfl<|zi rfl rfl<|r_pv rfl rfl (zH rfl rfl)<|zg ?_
      exact zja () (show True from by first|trivial|omega|simp_all) ((.e rfl (congrArg Value.bool (by first|(simp_all;done)|(simp_all;omega)|(simp;omega)|omega)) (.of rfl)):SubM _ _) (ho:=((.c (i:=0) rfl .n):PickO _ _ _)) ((.of [0,1,2,3,4,5,6,7] rfl):SelR _ _ _)
    ·
     rintro ⟨⟩ -
     try dsimp only
     refine zD rfl (fun hp=> ?_) (fun hp=> ?_)
     ·
      refine za<|zEa rfl rfl (zP (rI .i64) Try.underlying50 inf3) (fun b12 _=> ?_)
      refine r_pv rfl rfl (zb rfl)<|zBa 0 rfl rfl rfl (zW 1 rfl Try.underlying50 inf3 (by decide) rfl rfl (by first|rfl|assumption|(simp_all;done)|omega) rfl (by first|rfl|assumption|(simp_all;done)|omega) (by omega) (by omega)) (fun _=> .z) ?_
      rintro ⟨p13,c14⟩ -
      dsimp only [List.append_eq,List.nil_append,List.cons_append]
      refine r_pv rfl rfl (zb rfl)<|zEa rfl rfl (zz (enc:=fun z:Int=>[.int .i64 z]) (ok:=InK .i64) (h1:=fun _=>rfl) (h2:=fun _=>rfl) (k:=1) Try.underlying50 inf3 rfl (by decide) (by decide) (by decide) (.c (x:=(l.getD j 0)) rfl rfl (fun _ _=>by exact zl.2 (by omega)) .n)) (fun b15 _=> ?_)
      refine zxa 0 rfl .z<|zBa 1 rfl rfl rfl (zW 0 rfl Try.underlying50 inf3 (by decide) rfl rfl (by first|rfl|assumption|(simp_all;done)|omega) rfl (by first|rfl|assumption|(simp_all;done)|omega) (by omega) (by omega)) (fun _=>(.s .z)) ?_
      rintro ⟨p16,c17⟩ -
      dsimp only [List.append_eq,List.nil_append,List.cons_append]
      refine r_pv rfl rfl (zd rfl)<|zg<|zA<|zc<|za<|r_pv rfl rfl (zC (z:=(((j+1):Nat):Int)) rfl rfl (w64 (by omega)))<|r_pv rfl rfl (zb rfl)<|zg<|zKa 1 rfl (.s .z)<|zba ((j+1),p16,c17,(([]++ud)++[(l.getD j 0)])) (show (j+1)≤l.length∧(([]++ud)++[(l.getD j 0)])=td.drop 1++Ms.pushed (Ms.nearF F) (K++[td.getD 0 0]) (td.getD 0 0) (l.take (j+1)) from by exact ⟨by omega,by rw [List.nil_append,hud,Ms.take_snoc 0 (by omega),Ms.pushed_snoc,if_pos ⟨hM2.no (by simpa using hp.1),hp.2⟩,List.append_assoc]⟩) (by show l.length - (j+1)<l.length - j;omega) ((.e rfl (by simp) (.of rfl)):SubM _ _) (ho:=((.c (i:=2) rfl .n):PickO _ _ _)) ((.e (j:=0) rfl (by first|rfl|simp_all) (.of [4,5,6,7,8,9] rfl)):SelR _ _ _)
     ·
      refine zu<|zA<|zc<|za<|r_pv rfl rfl (zC (z:=(((j+1):Nat):Int)) rfl rfl (w64 (by omega)))<|r_pv rfl rfl (zb rfl)<|zg<|zba ((j+1),up,uc,ud) (show (j+1)≤l.length∧ud=td.drop 1++Ms.pushed (Ms.nearF F) (K++[td.getD 0 0]) (td.getD 0 0) (l.take (j+1)) from by exact ⟨by omega,by rw [Ms.take_snoc 0 (by omega),Ms.pushed_snoc,if_neg (fun h=>hp ⟨by rw [hM2.get];simpa using h.1,h.2⟩)];exact hud⟩) (by show l.length - (j+1)<l.length - j;omega) ((.of rfl):SubM _ _) (ho:=((.c (i:=0) rfl .n):PickO _ _ _)) ((.of [1,2,3,4,5,6,7] rfl):SelR _ _ _)
   ·
    have hudF:ud=td.drop 1++Ms.pushed (Ms.nearF F) (K++[td.getD 0 0]) (td.getD 0 0) l:=by have:=hud;rwa [List.take_of_length_le (by omega)] at this
    refine zX<|zj<|zj<|zp<|zA<|zba (mput sm (td.getD 0 0) true,K++[td.getD 0 0],up,uc,ud) (show Ms.Marks (mput sm (td.getD 0 0) true) (K++[td.getD 0 0])∧Ms.SpI (fun a b=>Ms.nearF F a b=true) l (K++[td.getD 0 0]) ud∧ud.length≤1+(K++[td.getD 0 0]).length*l.length from by exact ⟨hM2,by have:=hS.round htd0;rwa [← hudF] at this,by rw [hudF,List.length_append,List.length_append,List.length_drop];have:=Ms.pushed_len (Ms.nearF F) (K++[td.getD 0 0]) (td.getD 0 0) l;simp only [List.length_cons,List.length_nil,Nat.zero_add];omega⟩) (by show (l.length - (K++[td.getD 0 0]).length)*(l.length+1)+ud.length<(l.length - K.length)*(l.length+1)+td.length;rw [List.length_append];refine Ms.mu_dec ?_ ?_;have:=Ms.sp_mu hM2.nodup (by have:=hS.round htd0;exact this);rw [List.length_append] at this;simp at this;omega;rw [hudF,List.length_append,List.length_drop];have:=Ms.pushed_len (Ms.nearF F) (K++[td.getD 0 0]) (td.getD 0 0) l;omega) ((.of rfl):SubM _ _) (ho:=((.c (i:=0) rfl .n):PickO _ _ _)) ((.of [0,4,5,6] rfl):SelR _ _ _)
 ·
  have htn:td=[]:=List.eq_nil_of_length_eq_zero (by omega)
  have hS0:Ms.SpI (fun a b=>Ms.nearF F a b=true) l K []:=htn ▸ hS
  refine zX<|zj<|zj<|zp<|zc<|ze<|za<|r_pv rfl rfl (zb rfl)<|r_u rfl rfl (zxb (encK:=(fun z:Int=> .int .i64 z)) (encV:=(fun z:Bool=> .bool z)) (ok:=(InK .i64)) (m:=sm) 0 rfl Try.underlying94 rfl)<|r_pv rfl rfl (zd rfl)<|zg<|zc<|zK ?_
  exact zB Try.results53 K (hS0.fin hM.nodup) (zx rfl) (by rw [hM.len]) (ho:=(.n:PickO _ _ _)) (.n:SelR _ _ _)
end Go.Proofs.Ytalfgjpbbongcaa.Sp
namespace Go.Proofs.Ytalfgjpbbongcaa.Sp
open Go
set_option linter.unusedVariables false
set_option maxRecDepth 100000
set_option maxHeartbeats 8000000
theorem zec {pv:Option Addr} {nv:Nat} {cv:Nat} {V:List (Int×Int×Int)} {pf:Option Addr} {nf:Nat} {cf:Nat} {F:List (Int×Int×Int)} (hnv:V.length=nv) (hnf:F.length=nf):Con Try.prog 15 [.agg #[.slice pv nv cv,.slice pf nf cf]] [] [slF (rI3 .i64) pv cv V,slF (rI3 .i64) pf cf F] (Y:=Unit) (fun y=>True) (fun y=> .int .i64 (Ms.check V F)) (fun y=>[]) (fun y=>[]):=by
 refine zy Try.func15 rfl rfl rfl (fun c=> ?_)
 show RunC _ _ _ _ _ [(0,.agg #[.slice pv nv cv,.slice pf nf cf])] [] [slF (rI3 .i64) pv cv V,slF (rI3 .i64) pf cf F]
 refine zda 0 rfl (fun hL0=> ?_)
 refine zda 1 rfl (fun hL1=> ?_)
 refine ze<|za<|zV rfl rfl (zla rfl rfl) (fun b1=> ?_)
 refine r_pv rfl rfl (zd rfl)<|zg<|zc<|ze<|ze<|za<|r_u rfl rfl (zh 0 ty25 rfl rfl (.take (.take .nil)))<|zea rfl rfl (.c rfl .n) ce20 (zId (pv:=pv) (nv:=nv) (cv:=cv) (V:=V) (pf:=pf) (nf:=nf) (cf:=cf) (F:=F) (hnv:=by assumption) (hnf:=by assumption)) (.c (j:=0) rfl (.c (j:=1) rfl .n))<|r_pv rfl rfl (zd rfl)<|zg<|zc<|ze<|za<|r_pv rfl rfl (zb rfl)<|r_pv rfl rfl (zMa rfl rfl)<|zg<|zc<|zD rfl (fun hcode=> ?_) (fun hcode=> ?_)
 ·
  refine ze<|za<|r_pv rfl rfl (zb rfl)<|r_pv rfl rfl (zd rfl)<|zg<|zc<|zK<|zk ?_
  exact zB Try.results15 () trivial (zx rfl) (by rw [Ms.check_bad hcode]) (ho:=(.n:PickO _ _ _)) (.n:SelR _ _ _)
 ·
  have hf0:=Decidable.not_not.1 hcode
  have hgood:=Ms.form_zero.1 hf0
  have hnv5:nv≤512:=by have:=hgood.nv;omega
  have hnf5:nf≤1024:=by have:=hgood.nf;omega
  have hln:=Ms.all_len F
  refine zu<|zc<|ze<|zsd 0 rfl .z<|za<|r_u rfl rfl (zG (j:=0) 0 ty25 rfl rfl rfl (.take (.take .nil)))<|zfa rfl rfl (.c rfl .n) ce50 (zRd (pv:=pv) (nv:=nv) (cv:=cv) (V:=V) (pf:=pf) (nf:=nf) (cf:=cf) (F:=F) (hnv:=by assumption) (hnf:=by assumption) (hbf:=by first|rfl|assumption|omega|(simp;done)|(simp;omega)|(simp_all;done))) (.c (j:=1) rfl (.c (j:=2) rfl .n)) ?_
  rintro ⟨p22,c23⟩ -
  dsimp only [List.append_eq,List.nil_append,List.cons_append]
  refine r_pv rfl rfl (zd rfl)<|zg<|zc<|ze<|ze<|za<|r_pv rfl rfl (zb rfl)<|r_pv rfl rfl (zJ Try.underlying80 rfl)<|r_pv rfl rfl (zb rfl)<|zg<|zc<|zq<|zha (X:=Nat) (fun x:Nat=>x≤(Ms.all F).length∧∀j,j<x→Ms.count (Ms.all F) ((Ms.all F).getD j (0,0))≤1) (fun x=>[(20,.int .i64 ((x:Nat):Int)),(19,.int .i64 (((Ms.all F).length:Nat):Int)),(18,.slice p22 ((Ms.all F).length) c23),(4,.slice p22 ((Ms.all F).length) c23),(1,.pointer (some ⟨b1,0,none⟩))]) (fun x=>[]) (fun x=>[slF (rI2 .i64) p22 c23 (Ms.all F),atF b1 0 [.slice pv nv cv,.slice pf nf cf],slF (rI3 .i64) pv cv V,slF (rI3 .i64) pf cf F]) (fun x:Nat=>(Ms.all F).length - x) 0 (show 0≤(Ms.all F).length∧∀j,j<0→Ms.count (Ms.all F) ((Ms.all F).getD j (0,0))≤1 from by exact ⟨Nat.zero_le _,fun j h=>by omega⟩) ((.e rfl (by first|rfl|(congr 1;omega)|simp_all) (.of rfl)):SubM _ _) (ho:=(.n:PickO _ _ _)) ((.of [0,1,2,3] rfl):SelR _ _ _) ?_
  rintro i hI
  replace hI:i≤(Ms.all F).length∧∀j,j<i→Ms.count (Ms.all F) ((Ms.all F).getD j (0,0))≤1:=hI
  try dsimp only
  obtain ⟨hi,hall⟩:=hI
  refine ze<|za<|r_pv rfl rfl (zE rfl rfl)<|zg<|zc<|ze<|zD rfl (fun h4=> ?_) (fun h4=> ?_)
  ·
   have hcl:=Ms.count_le (Ms.all F) ((Ms.all F).getD i (0,0))
   have hee:Ms.count (Ms.all F) (((Ms.all F).getD i (0,0)).1,((Ms.all F).getD i (0,0)).2)=Ms.count (Ms.all F) ((Ms.all F).getD i (0,0)):=rfl
   refine zu<|zc<|ze<|zq<|ze<|za<|zI (x0:=((Ms.all F).getD i (0,0))) 0 i rfl Try.underlying80 sz72 rfl rfl rfl (by first|rfl|assumption|(simp;done)|omega) rfl rfl (gD (d:=(0,0)) (by omega)) (fun b5 o6 hok7=> ?_)
   obtain ⟨hok7x,hok7y⟩:=hok7
   replace hok7x:=zl.1 hok7x
   replace hok7y:=zl.1 hok7y
   refine r_u rfl rfl (zG (j:=0) 0 ty72 rfl rfl rfl (.take (.take .nil)))<|zV rfl rfl (zr zr72 rfl) (fun b8=> ?_)
   refine zv 0 rfl rfl rfl rfl rfl sz72 rfl (.take (.take .nil)) .z<|zg<|zc<|ze<|za<|r_pv rfl rfl (zb rfl)<|r_u rfl rfl (zh 0 ty72 rfl rfl (.take (.take .nil)))<|zea rfl rfl (.c rfl (.c rfl .n)) ce51 (zGc (p:=p22) (n:=(Ms.all F).length) (cap:=c23) (l:=Ms.all F) (ex:=((Ms.all F).getD i (0,0)).1) (ey:=((Ms.all F).getD i (0,0)).2) (hn:=by first|rfl|assumption|omega|(simp;done)|(simp;omega)|(simp_all;done))) (.c (j:=1) rfl .n)<|r_pv rfl rfl (zOa rfl rfl)<|zg<|zc<|zD rfl (fun hcnt=> ?_) (fun hcnt=> ?_)
   ·
    refine ze<|za<|r_pv rfl rfl (zd rfl)<|zg<|zc<|zK<|zo<|zk<|zk<|zo<|zk ?_
    exact zB Try.results15 () trivial (zx rfl) (by rw [Ms.check_dup hf0 (fun h=>by have:=Ms.nodup_count.2 h _ (Ms.getD_mem (i:=i) (0,0) (by omega));omega)]) (ho:=(.n:PickO _ _ _)) (.n:SelR _ _ _)
   ·
    refine zu<|zA<|zc<|za<|r_pv rfl rfl (zC (z:=(((i+1):Nat):Int)) rfl rfl (w64 (by omega)))<|r_pv rfl rfl (zb rfl)<|zg<|zba (i+1) (show (i+1)≤(Ms.all F).length∧∀j,j<(i+1)→Ms.count (Ms.all F) ((Ms.all F).getD j (0,0))≤1 from by exact ⟨by omega,Ms.all_lt_succ (P:=fun j=>Ms.count (Ms.all F) ((Ms.all F).getD j (0,0))≤1) hall (by omega)⟩) (by show (Ms.all F).length - (i+1)<(Ms.all F).length - i;omega) ((.of rfl):SubM _ _) (ho:=(.n:PickO _ _ _)) ((.of [1,2,3,4] rfl):SelR _ _ _)
  ·
   have hndF:(Ms.all F).Nodup:=Ms.nodup_count.1 (fun e he=>by obtain ⟨j,hj,rfl⟩:=Ms.mem_getD (0,0) he;have:=hall j (by omega);omega)
   refine zX<|zj<|zj<|zp<|zc<|ze<|ze<|za<|r_pv rfl rfl (zn Try.underlying25 rfl sz22 rfl rfl)<|r_u rfl rfl (zw (j:=0) 1 ty22 rfl rfl rfl rfl)<|r_pv rfl rfl (zJ Try.underlying22 rfl)<|r_pv rfl rfl (zb rfl)<|zg<|zc<|zq<|zha (X:=Nat) (fun x:Nat=>x≤nv∧∀w:Nat,w<x→Ms.starB F (w:Int) (Ms.at_ F (w:Int))=true) (fun x=>[(32,.int .i64 ((x:Nat):Int)),(31,.int .i64 ((nv:Nat):Int)),(1,.pointer (some ⟨b1,0,none⟩))]) (fun x=>[]) (fun x=>[slF (rI2 .i64) p22 c23 (Ms.all F),atF b1 0 [.slice pv nv cv,.slice pf nf cf],slF (rI3 .i64) pv cv V,slF (rI3 .i64) pf cf F]) (fun x:Nat=>nv - x) 0 (show 0≤nv∧∀w:Nat,w<0→Ms.starB F (w:Int) (Ms.at_ F (w:Int))=true from by exact ⟨Nat.zero_le _,fun w h=>by omega⟩) ((.e rfl (by first|rfl|(congr 1;omega)|simp_all) (.c rfl (.c rfl .n))):SubM _ _) (ho:=(.n:PickO _ _ _)) ((.of [0,1,2,3] rfl):SelR _ _ _) ?_
   rintro v hI
   replace hI:v≤nv∧∀w:Nat,w<v→Ms.starB F (w:Int) (Ms.at_ F (w:Int))=true:=hI
   try dsimp only
   obtain ⟨hv,hstar⟩:=hI
   refine ze<|za<|r_pv rfl rfl (zE rfl rfl)<|zg<|zc<|ze<|zD rfl (fun h9=> ?_) (fun h9=> ?_)
   ·
    refine zu<|zc<|ze<|zq<|ze<|za<|r_pv rfl rfl (zb rfl)<|r_pv rfl rfl (zd rfl)<|zg<|zc<|ze<|za<|zEa rfl rfl (zP (rI .i64) Try.underlying50 inf3) (fun b10 _=> ?_)
    refine r_pv rfl rfl (zd rfl)<|zg<|zc<|ze<|ze<|za<|r_pv rfl rfl (zn Try.underlying25 rfl sz23 rfl rfl)<|r_u rfl rfl (zw (j:=1) 1 ty23 rfl rfl rfl rfl)<|r_pv rfl rfl (zJ Try.underlying23 rfl)<|r_pv rfl rfl (zb rfl)<|zg<|zc<|zq<|zha (X:=Nat×(Option Addr)×Nat×(List Int)) (fun x:Nat×(Option Addr)×Nat×(List Int)=>x.1≤nf∧x.2.2.2=Ms.at_ (F.take x.1) (v:Int)) (fun x=>[(8,.slice (x.2.1) (x.2.2.2.length) (x.2.2.1)),(39,.int .i64 ((x.1:Nat):Int)),(38,.int .i64 ((nf:Nat):Int)),(37,.slice pf nf cf),(7,.int .i64 ((v:Nat):Int)),(32,.int .i64 ((v:Nat):Int)),(31,.int .i64 ((nv:Nat):Int)),(1,.pointer (some ⟨b1,0,none⟩))]) (fun x=>[rowA 3 (rI .i64) (x.2.1) (x.2.2.1) (x.2.2.2)]) (fun x=>[slF (rI2 .i64) p22 c23 (Ms.all F),atF b1 0 [.slice pv nv cv,.slice pf nf cf],slF (rI3 .i64) pv cv V,slF (rI3 .i64) pf cf F]) (fun x:Nat×(Option Addr)×Nat×(List Int)=>nf - x.1) (0,some ⟨b10,0,none⟩,0,([]:List Int)) (show 0≤nf∧([]:List Int)=Ms.at_ (F.take 0) (v:Int) from by exact ⟨Nat.zero_le _,rfl⟩) ((.e rfl (by first|rfl|(congr 1;omega)|simp_all) (.e rfl (by first|rfl|(congr 1;omega)|simp_all) (.of rfl))):SubM _ _) (ho:=((.e (i:=0) rfl (by first|rfl|(congr 1;omega)|simp_all) .n):PickO _ _ _)) ((.of [0,1,2,3] rfl):SelR _ _ _) ?_
    rintro ⟨i,p,c,A⟩ hJ
    replace hJ:i≤nf∧A=Ms.at_ (F.take i) (v:Int):=hJ
    try dsimp only
    obtain ⟨hi,hA⟩:=hJ
    have hAl:A.length≤3*nf:=by have:=Ms.at_len (F.take i) (v:Int);rw [← hA,List.length_take] at this;omega
    refine ze<|za<|r_pv rfl rfl (zE rfl rfl)<|zg<|zc<|ze<|zD rfl (fun h11=> ?_) (fun h11=> ?_)
    ·
     refine zu<|zc<|ze<|zq<|ze<|za<|r_pv rfl rfl (zb rfl)<|zI (x0:=(F.getD i (0,0,0))) 3 i rfl Try.underlying23 sz44 rfl rfl rfl (by first|rfl|assumption|(simp;done)|omega) rfl rfl (gD (d:=(0,0,0)) (by omega)) (fun b12 o13 hok14=> ?_)
     obtain ⟨hok14x,hok14y,hok14z⟩:=hok14
     replace hok14x:=zl.1 hok14x
     replace hok14y:=zl.1 hok14y
     replace hok14z:=zl.1 hok14z
     refine r_u rfl rfl (zG (j:=0) 0 ty44 rfl rfl rfl (.take (.take (.take .nil))))<|zV rfl rfl (zr zr44 rfl) (fun b15=> ?_)
     refine r_pv rfl rfl (zd rfl)<|zv 0 rfl rfl rfl rfl rfl sz44 rfl (.take (.take (.take .nil))) .z<|zg<|zc<|ze<|za<|r_u rfl rfl (zh 0 ty44 rfl rfl (.take (.take (.take .nil))))<|r_pv rfl rfl (zb rfl)<|zea rfl rfl (.c rfl (.c rfl .n)) ce52 (zmc (ex:=(F.getD i (0,0,0)).1) (ey:=(F.getD i (0,0,0)).2.1) (ez:=(F.getD i (0,0,0)).2.2) (w:=((v:Nat):Int))) (.n)<|zg<|zc<|zAa rfl (fun hhas=> ?_) (fun hhas=> ?_)
     ·
      refine za<|r_pv rfl rfl (zb rfl)<|r_pv rfl rfl (zb rfl)<|zEa rfl rfl (zz (enc:=fun z:Int=>[.int .i64 z]) (ok:=InK .i64) (h1:=fun _=>rfl) (h2:=fun _=>rfl) (k:=1) Try.underlying50 inf3 rfl (by decide) (by decide) (by decide) (.c (x:=((i:Nat):Int)) rfl rfl (fun _ _=>by exact zl.2 (by omega)) .n)) (fun b16 _=> ?_)
      refine zxa 0 rfl .z<|zBa 2 rfl rfl rfl (zW 0 rfl Try.underlying50 inf3 (by decide) rfl rfl (by first|rfl|assumption|(simp;done)|omega) rfl (by first|rfl|assumption|(simp;done)|omega) (by omega) (by omega)) (fun _=>(.s (.s .z))) ?_
      rintro ⟨p17,c18⟩ -
      dsimp only [List.append_eq,List.nil_append,List.cons_append]
      refine r_pv rfl rfl (zd rfl)<|zg<|zA<|zc<|za<|r_pv rfl rfl (zC (z:=(((i+1):Nat):Int)) rfl rfl (w64 (by omega)))<|r_pv rfl rfl (zb rfl)<|zg<|zba ((i+1),p17,c18,(A++[((i:Nat):Int)])) (show (i+1)≤nf∧(A++[((i:Nat):Int)])=Ms.at_ (F.take (i+1)) (v:Int) from by exact ⟨by omega,by rw [Ms.at_take (by omega) (hgood.dg _ (Ms.getD_mem _ (by omega))),if_pos hhas,hA]⟩) (by show nf - (i+1)<nf - i;omega) ((.e rfl (by simp) (.of rfl)):SubM _ _) (ho:=((.e (i:=2) rfl (by first|rfl|(congr 1;omega)|simp_all) .n):PickO _ _ _)) ((.of [2,3,4,5] rfl):SelR _ _ _)
     ·
      refine zu<|zA<|zc<|za<|r_pv rfl rfl (zC (z:=(((i+1):Nat):Int)) rfl rfl (w64 (by omega)))<|r_pv rfl rfl (zb rfl)<|zg<|zba ((i+1),p,c,A) (show (i+1)≤nf∧A=Ms.at_ (F.take (i+1)) (v:Int) from by exact ⟨by omega,by rw [Ms.at_take (by omega) (hgood.dg _ (Ms.getD_mem _ (by omega))),if_neg (by rw [hhas];decide),hA]⟩) (by show nf - (i+1)<nf - i;omega) ((.of rfl):SubM _ _) (ho:=((.c (i:=1) rfl .n):PickO _ _ _)) ((.of [1,2,3,4] rfl):SelR _ _ _)
    ·
     refine zX<|zj<|zj<|zp<|zc<|zLa (X:=Unit) (fun x=>True) (fun x=>[(62,.bool (!(Ms.starB F (v:Int) (Ms.at_ F (v:Int))))),(32,.int .i64 ((v:Nat):Int)),(31,.int .i64 ((nv:Nat):Int)),(1,.pointer (some ⟨b1,0,none⟩))]) (fun x=>[]) (fun x=>[slF (rI2 .i64) p22 c23 (Ms.all F),atF b1 0 [.slice pv nv cv,.slice pf nf cf],slF (rI3 .i64) pv cv V,slF (rI3 .i64) pf cf F]) ?_ ?_
     ·
      have e19:A=(Ms.at_ F (v:Int)):=by rw [hA,List.take_of_length_le (by omega)]
      subst e19
      refine za<|r_pv rfl rfl (zb rfl)<|r_pv rfl rfl (zJ Try.underlying50 rfl)<|r_pv rfl rfl (zOa rfl rfl)<|zpa rfl rfl (zb rfl) (fun h20=> ?_) (fun h20=> ?_)
      ·
       refine r_pv rfl rfl (zb rfl)<|r_pv rfl rfl (zIb .n (.c rfl .n))<|zxa 0 rfl .z<|zfa rfl rfl (.c rfl (.c rfl .n)) ce53 (znd (mb:=b1) (pv:=pv) (nv:=nv) (cv:=cv) (pf:=pf) (nf:=nf) (cf:=cf) (F:=F) (p:=p) (n:=(Ms.at_ F (v:Int)).length) (cap:=c) (l:=(Ms.at_ F (v:Int))) (hnf:=by assumption) (hn:=by first|rfl|assumption|omega|(simp;done)|(simp;omega)|(simp_all;done)) (hn0:=by first|rfl|assumption|omega|(simp;done)|(simp;omega)|(simp_all;done)) (hl:=by exact fun a ha=>⟨((Ms.at_all hgood.dg).1 a ha).1,by have:=((Ms.at_all hgood.dg).1 a ha).2.1;omega⟩)) (.c (j:=0) rfl (.c (j:=2) rfl (.c (j:=4) rfl .n))) ?_
       rintro K21 hy
       dsimp only [List.append_eq,List.nil_append,List.cons_append]
       replace hy:Ms.Spread (fun a b=>Ms.nearF F a b=true) (Ms.at_ F (v:Int)) K21:=hy
       refine r_pv rfl rfl (zb rfl)<|r_pv rfl rfl (zJ Try.underlying50 rfl)<|r_pv rfl rfl (zE rfl rfl)<|r_pv rfl rfl (zH rfl rfl)<|zg ?_
       exact zja () (show True from by first|trivial|omega|simp_all) ((.e rfl (congrArg Value.bool (by exact Ms.spread_star hgood.dg hgood.nf hy)) (.of rfl)):SubM _ _) (ho:=(.n:PickO _ _ _)) ((.of [1,2,3,4] rfl):SelR _ _ _)
      ·
       refine zi rfl rfl<|zi rfl rfl<|zi rfl rfl<|zi rfl rfl<|zi rfl rfl<|zi rfl rfl<|r_pv rfl rfl (zH rfl rfl)<|zg ?_
       exact zja () (show True from by first|trivial|omega|simp_all) ((.e rfl (congrArg Value.bool (by rw [Ms.star_empty (by omega)];rfl)) (.of rfl)):SubM _ _) (ho:=(.n:PickO _ _ _)) ((.of [0,1,2,3] rfl):SelR _ _ _)
     ·
      rintro ⟨⟩ -
      try dsimp only
      refine zAa rfl (fun hst=> ?_) (fun hst=> ?_)
      ·
       refine ze<|za<|r_pv rfl rfl (zd rfl)<|zg<|zc<|zK<|zo<|zk<|zk<|zo<|zk ?_
       exact zB Try.results15 () trivial (zx rfl) (by rw [Ms.check_star hf0 hndF (v:=v) (by omega) (by simpa using hst)]) (ho:=(.n:PickO _ _ _)) (.n:SelR _ _ _)
      ·
       refine zu<|zA<|zc<|za<|r_pv rfl rfl (zC (z:=(((v+1):Nat):Int)) rfl rfl (w64 (by omega)))<|r_pv rfl rfl (zb rfl)<|zg<|zba (v+1) (show (v+1)≤nv∧∀w:Nat,w<(v+1)→Ms.starB F (w:Int) (Ms.at_ F (w:Int))=true from by exact ⟨by omega,Ms.all_lt_succ (P:=fun w=>Ms.starB F (w:Int) (Ms.at_ F (w:Int))=true) hstar (by simpa using hst)⟩) (by show nv - (v+1)<nv - v;omega) ((.of rfl):SubM _ _) (ho:=(.n:PickO _ _ _)) ((.of [0,1,2,3] rfl):SelR _ _ _)
   ·
    refine zX<|zj<|zj<|zp<|zc<|ze<|za<|r_pv rfl rfl (zd rfl)<|zg<|zc<|zK ?_
    exact zB Try.results15 () trivial (zx rfl) (by rw [Ms.check_ok hf0 hndF (fun w hw=>hstar w (by omega))]) (ho:=(.n:PickO _ _ _)) (.n:SelR _ _ _)
end Go.Proofs.Ytalfgjpbbongcaa.Sp
namespace Go.Proofs.Ytalfgjpbbongcaa.Sp
open Go
set_option linter.unusedVariables false
set_option maxRecDepth 100000
set_option maxHeartbeats 8000000
theorem zfc {pv:Option Addr} {nv:Nat} {cv:Nat} {V:List (Int×Int×Int)} {pf:Option Addr} {nf:Nat} {cf:Nat} {F:List (Int×Int×Int)} (hnv:V.length=nv) (hnf:F.length=nf) (hg:Ms.Good V F):Con Try.prog 56 [.agg #[.slice pv nv cv,.slice pf nf cf]] [] [slF (rI3 .i64) pv cv V,slF (rI3 .i64) pf cf F] (Y:=Nat×(List (Int×Int))) (fun y=>Ms.BMap F y.2) (fun y=> .map (some y.1)) (fun y=>[mapA y.1 (fun z:Int=> .int .i64 z) (fun z:Int=> .int .i64 z) (InK .i64) (y.2)]) (fun y=>[]):=by
 refine zy Try.func56 rfl rfl rfl (fun c=> ?_)
 show RunC _ _ _ _ _ [(0,.agg #[.slice pv nv cv,.slice pf nf cf])] [] [slF (rI3 .i64) pv cv V,slF (rI3 .i64) pf cf F]
 refine zda 0 rfl (fun hL0=> ?_)
 refine zda 1 rfl (fun hL1=> ?_)
 have hnv5:nv≤512:=by have:=hg.nv;omega
 have hnf5:nf≤1024:=by have:=hg.nf;omega
 refine ze<|za<|zV rfl rfl (zla rfl rfl) (fun b1=> ?_)
 refine r_pv rfl rfl (zd rfl)<|zg<|zc<|ze<|za<|zEa rfl rfl (zGa (κ:=Int×Int) (ν:=Bool) (fun z:Int×Int=> .agg #[.int .i64 z.1,.int .i64 z.2]) (fun z:Bool=> .bool z) (fun z=>InK .i64 z.1∧InK .i64 z.2)) (fun b2 _=> ?_)
 refine r_pv rfl rfl (zd rfl)<|zg<|zc<|ze<|ze<|za<|r_pv rfl rfl (zn Try.underlying25 rfl sz23 rfl rfl)<|r_u rfl rfl (zf 1 ty23 rfl rfl rfl)<|r_pv rfl rfl (zJ Try.underlying23 rfl)<|r_pv rfl rfl (zb rfl)<|zg<|zc<|zq<|zha (X:=Nat) (fun x:Nat=>x≤nf) (fun x=>[(14,.int .i64 ((x:Nat):Int)),(13,.int .i64 ((nf:Nat):Int)),(12,.slice pf nf cf),(3,.map (some b2)),(2,.map none)]) (fun x=>[mapA b2 (fun z:Int×Int=> .agg #[.int .i64 z.1,.int .i64 z.2]) (fun z:Bool=> .bool z) (fun z=>InK .i64 z.1∧InK .i64 z.2) (Ms.allM (F.take x)),boxA b1 25 [.slice pv nv cv,.slice pf nf cf]]) (fun x=>[slF (rI3 .i64) pv cv V,slF (rI3 .i64) pf cf F]) (fun x:Nat=>nf - x) 0 (show 0≤nf from by exact Nat.zero_le _) ((.e rfl (by first|rfl|(congr 1;omega)|simp_all) (.of rfl)):SubM _ _) (ho:=((.e (i:=0) rfl (by rfl) (.c (i:=0) rfl .n)):PickO _ _ _)) ((.of [0,1] rfl):SelR _ _ _) ?_
 rintro i hI
 replace hI:i≤nf:=hI
 try dsimp only
 refine ze<|za<|r_pv rfl rfl (zE rfl rfl)<|zg<|zc<|ze<|zD rfl (fun h3=> ?_) (fun h3=> ?_)
 ·
  have hat:=hg.at (show i<F.length by omega)
  refine zu<|zc<|ze<|zq<|ze<|za<|zI (x0:=(F.getD i (0,0,0))) 1 i rfl Try.underlying23 sz44 rfl rfl rfl (by first|rfl|assumption|(simp_all;done)|omega) rfl rfl (gD (d:=(0,0,0)) (by omega)) (fun b4 o5 hok6=> ?_)
  obtain ⟨hok6x,hok6y,hok6z⟩:=hok6
  replace hok6x:=zl.1 hok6x
  replace hok6y:=zl.1 hok6y
  replace hok6z:=zl.1 hok6z
  refine r_u rfl rfl (zG (j:=0) 0 ty44 rfl rfl rfl (.take (.take (.take .nil))))<|zV rfl rfl (zr zr44 rfl) (fun b7=> ?_)
  refine zv 0 rfl rfl rfl rfl rfl sz44 rfl (.take (.take (.take .nil))) .z<|zg<|zc<|ze<|za<|r_u rfl rfl (zh 0 ty44 rfl rfl (.take (.take (.take .nil))))<|zea rfl rfl (.c rfl .n) ce47 (zSb (ex:=(F.getD i (0,0,0)).1) (ey:=(F.getD i (0,0,0)).2.1) (ez:=(F.getD i (0,0,0)).2.2)) (.n)<|r_pv rfl rfl (zb rfl)<|zg<|zc<|zq<|zbb<|zaa<|ze<|za<|r_pv rfl rfl (zE rfl rfl)<|zg<|zc<|ze<|zZ rfl rfl<|zu<|zc<|ze<|zq<|ze<|za<|r_pv rfl rfl (zta (i:=0) Try.underlying74 ty73 rfl rfl (by decide) (.take (.take .nil)))<|zV rfl rfl (zr zr73 rfl) (fun b8=> ?_)
  refine zv 0 rfl rfl rfl rfl rfl sz73 rfl (.take (.take .nil)) .z<|zg<|zc<|za<|r_pv rfl rfl (zb rfl)<|r_u rfl rfl (zh 0 ty73 rfl rfl (.take (.take .nil)))<|zBa 2 rfl rfl rfl (zga (a0:=(((F.getD i (0,0,0)).1),((F.getD i (0,0,0)).2.1))) (v:=true) ky73 Try.underlying71 rfl rfl rfl (⟨zl.2 (by omega),zl.2 (by omega)⟩)) (fun _=>(.s (.s .z))) (fun _ _=> ?_)
  refine zg<|zA<|zc<|za<|r_pv rfl rfl (zC (z:=1) rfl rfl (w64 (by decide)))<|r_pv rfl rfl (zb rfl)<|zg<|zna<|zaa<|ze<|za<|r_pv rfl rfl (zE rfl rfl)<|zg<|zc<|ze<|zZ rfl rfl<|zu<|zc<|ze<|zq<|ze<|za<|r_pv rfl rfl (zta (i:=1) Try.underlying74 ty73 rfl rfl (by decide) (.skip (.skip (.take (.take .nil)))))<|zV rfl rfl (zr zr73 rfl) (fun b9=> ?_)
  refine zv 0 rfl rfl rfl rfl rfl sz73 rfl (.take (.take .nil)) .z<|zg<|zc<|za<|r_pv rfl rfl (zb rfl)<|r_u rfl rfl (zh 0 ty73 rfl rfl (.take (.take .nil)))<|zBa 3 rfl rfl rfl (zga (a0:=(((F.getD i (0,0,0)).2.1),((F.getD i (0,0,0)).2.2))) (v:=true) ky73 Try.underlying71 rfl rfl rfl (⟨zl.2 (by omega),zl.2 (by omega)⟩)) (fun _=>(.s (.s (.s .z)))) (fun _ _=> ?_)
  refine zg<|zA<|zc<|za<|r_pv rfl rfl (zC (z:=2) rfl rfl (w64 (by decide)))<|r_pv rfl rfl (zb rfl)<|zg<|zna<|zaa<|ze<|za<|r_pv rfl rfl (zE rfl rfl)<|zg<|zc<|ze<|zZ rfl rfl<|zu<|zc<|ze<|zq<|ze<|za<|r_pv rfl rfl (zta (i:=2) Try.underlying74 ty73 rfl rfl (by decide) (.skip (.skip (.skip (.skip (.take (.take .nil)))))))<|zV rfl rfl (zr zr73 rfl) (fun b10=> ?_)
  refine zv 0 rfl rfl rfl rfl rfl sz73 rfl (.take (.take .nil)) .z<|zg<|zc<|za<|r_pv rfl rfl (zb rfl)<|r_u rfl rfl (zh 0 ty73 rfl rfl (.take (.take .nil)))<|zBa 4 rfl rfl rfl (zga (a0:=(((F.getD i (0,0,0)).2.2),((F.getD i (0,0,0)).1))) (v:=true) ky73 Try.underlying71 rfl rfl rfl (⟨zl.2 (by omega),zl.2 (by omega)⟩)) (fun _=>(.s (.s (.s (.s .z))))) (fun _ _=> ?_)
  refine zg<|zA<|zc<|za<|r_pv rfl rfl (zC (z:=3) rfl rfl (w64 (by decide)))<|r_pv rfl rfl (zb rfl)<|zg<|zna<|zaa<|ze<|za<|r_pv rfl rfl (zE rfl rfl)<|zg<|zc<|ze<|zya rfl rfl<|zX<|zj<|zj<|zp<|zA<|zc<|za<|r_pv rfl rfl (zC (z:=(((i+1):Nat):Int)) rfl rfl (w64 (by omega)))<|r_pv rfl rfl (zb rfl)<|zg<|zba (i+1) (show (i+1)≤nf from by exact (by omega:i+1≤nf)) (by show nf - (i+1)<nf - i;omega) ((.of rfl):SubM _ _) (ho:=((.e (i:=4) rfl (by rw [Ms.allM_take (by omega)]) (.c (i:=4) rfl .n)):PickO _ _ _)) ((.of [1,2] rfl):SelR _ _ _)
 ·
  refine zX<|zj<|zj<|zp<|zc<|ze ?_
  have e11:Ms.allM (F.take i)=Ms.allM F:=by rw [List.take_of_length_le (by omega)]
  rw [e11]
  refine za<|zEa rfl rfl (zGa (κ:=Int) (ν:=Int) (fun z:Int=> .int .i64 z) (fun z:Int=> .int .i64 z) (InK .i64)) (fun b12 _=> ?_)
  refine r_pv rfl rfl (zd rfl)<|zg<|zc<|ze<|ze<|za<|r_pv rfl rfl (zb rfl)<|zBa 1 rfl rfl rfl (zYd Try.underlying71 rfl) (fun _=>(.s .z)) (fun it13 _=> ?_)
  refine zg<|zc<|zq<|zha (X:=(List ((Int×Int)×Bool))×(List (Int×Int))) (fun x:(List ((Int×Int)×Bool))×(List (Int×Int))=>Ms.BPart F x.1 x.2) (fun x=>[(29,.pointer (some ⟨it13,0,none⟩)),(8,.map (some b12)),(3,.map (some b2)),(2,.map none)]) (fun x=>[mapA b12 (fun z:Int=> .int .i64 z) (fun z:Int=> .int .i64 z) (InK .i64) (x.2),itA b2 it13 (fun z:Int×Int=> .agg #[.int .i64 z.1,.int .i64 z.2]) (fun z:Bool=> .bool z) (fun z=>InK .i64 z.1∧InK .i64 z.2) (Ms.allM F) (x.1),boxA b1 25 [.slice pv nv cv,.slice pf nf cf]]) (fun x=>[slF (rI3 .i64) pv cv V,slF (rI3 .i64) pf cf F]) (fun x:(List ((Int×Int)×Bool))×(List (Int×Int))=>(Ms.allM F).length - x.1.length) (([]:List ((Int×Int)×Bool)),([]:List (Int×Int))) (show Ms.BPart F ([]:List ((Int×Int)×Bool)) ([]:List (Int×Int)) from by exact Ms.BPart.nil F) ((.of rfl):SubM _ _) (ho:=((.e (i:=0) rfl (by first|rfl|(congr 1;omega)|simp_all) (.e (i:=0) rfl (by first|rfl|(congr 1;omega)|simp_all) (.c (i:=0) rfl .n))):PickO _ _ _)) ((.of [0,1] rfl):SelR _ _ _) ?_
  rintro ⟨vis,bm⟩ hB
  replace hB:Ms.BPart F vis bm:=hB
  try dsimp only
  refine ze<|za<|r_next 1 rfl rfl rfl rfl (fun _=>(.s .z)) (fun e hem hen=> ?_) (fun hperm=> ?_)
  ·
   have her:=Ms.all_rng hg (Ms.allM_mem hem)
   refine r_pv rfl rfl (zY rfl rfl)<|zg<|zc<|ze<|zZ rfl rfl<|zu<|zc<|zq<|ze<|za<|r_u rfl rfl (zZd (p:=e) 1 rfl rfl)<|r_pv rfl rfl (zY rfl rfl)<|zV rfl rfl (zr zr73 rfl) (fun b14=> ?_)
   refine zv 0 rfl rfl rfl rfl rfl sz73 rfl (.take (.take .nil)) .z<|zg<|zc<|ze<|za<|r_pv rfl rfl (zb rfl)<|r_pv rfl rfl (zm (i:=1) Try.underlying73 sz3 rfl rfl (by decide) rfl)<|r_u rfl rfl (zf 0 ty3 rfl rfl rfl)<|r_pv rfl rfl (zm (i:=0) Try.underlying73 sz3 rfl rfl (by decide) rfl)<|r_u rfl rfl (zf 0 ty3 rfl rfl rfl)<|r_pv rfl rfl (zT zr73 rfl Try.underlying73 sz3 (.c rfl (.c rfl .n)) (.c rfl rfl rfl (.take .nil) (.c rfl rfl rfl (.skip (.take .nil)) .n)))<|r_u rfl rfl (zjc (z:=false) (a0:=(e.1.2,e.1.1)) (v:= .bool ((mget (Ms.allM F) (e.1.2,e.1.1)).getD false)) 2 rfl ky73 Try.underlying71 zr4 rfl rfl (⟨zl.2 (by omega),zl.2 (by omega)⟩) rfl)<|r_pv rfl rfl (zhb rfl)<|zg<|zc<|zAa rfl (fun hl=> ?_) (fun hl=> ?_)
   ·
    refine za<|r_pv rfl rfl (zb rfl)<|r_pv rfl rfl (zm (i:=0) Try.underlying73 sz3 rfl rfl (by decide) rfl)<|r_u rfl rfl (zf 0 ty3 rfl rfl rfl)<|r_pv rfl rfl (zm (i:=1) Try.underlying73 sz3 rfl rfl (by decide) rfl)<|r_u rfl rfl (zf 0 ty3 rfl rfl rfl)<|zBa 1 rfl rfl rfl (zga (a0:=e.1.1) (v:=e.1.2) ky3 Try.underlying76 rfl rfl rfl (zl.2 (by omega))) (fun _=>(.s .z)) (fun _ _=> ?_)
    refine zg<|zA<|zba ((vis++[e]),mput bm e.1.1 e.1.2) (show Ms.BPart F (vis++[e]) (mput bm e.1.1 e.1.2) from by exact hB.hit hem hen hl) (by exact (hB.hit hem hen hl).mu) ((.of rfl):SubM _ _) (ho:=((.of [1,1,1] rfl):PickO _ _ _)) ((.of [0,1] rfl):SelR _ _ _)
   ·
    refine zu<|zA<|zba ((vis++[e]),bm) (show Ms.BPart F (vis++[e]) bm from by exact hB.miss hem hen hl) (by exact (hB.miss hem hen hl).mu) ((.of rfl):SubM _ _) (ho:=((.of [1,1,1] rfl):PickO _ _ _)) ((.of [0,1] rfl):SelR _ _ _)
  ·
   refine r_pv rfl rfl (zY rfl rfl)<|zg<|zc<|ze<|zya rfl rfl<|zX<|zj<|zj<|zp<|zc<|ze<|za<|r_pv rfl rfl (zb rfl)<|r_pv rfl rfl (zd rfl)<|zg<|zc<|zK ?_
   exact zB Try.results56 (b12,bm) (hB.fin hperm) (zx rfl) rfl (ho:=((.c (i:=0) rfl .n):PickO _ _ _)) (.n:SelR _ _ _)
end Go.Proofs.Ytalfgjpbbongcaa.Sp
namespace Go.Proofs.Ytalfgjpbbongcaa.Sp
open Go
set_option linter.unusedVariables false
set_option maxRecDepth 100000
set_option maxHeartbeats 8000000
theorem zHc {pv:Option Addr} {nv:Nat} {cv:Nat} {V:List (Int×Int×Int)} {pf:Option Addr} {nf:Nat} {cf:Nat} {F:List (Int×Int×Int)} (hnv:V.length=nv) (hnf:F.length=nf) (hg:Ms.Good V F):Con Try.prog 65 [.agg #[.slice pv nv cv,.slice pf nf cf]] [] [slF (rI3 .i64) pv cv V,slF (rI3 .i64) pf cf F] (Y:=(Option Addr)×Nat×(List (Int×Int))) (fun y=>Ms.BMap F y.2.2) (fun y=> .slice (y.1) ((Ms.loops (fun jj=>mget y.2.2 jj) nv).length) (y.2.1)) (fun y=>[]) (fun y=>[slF (rS (rI .i64)) (y.1) (y.2.1) (Ms.loops (fun jj=>mget y.2.2 jj) nv)]):=by
 refine zy Try.func65 rfl rfl rfl (fun c=> ?_)
 show RunC _ _ _ _ _ [(0,.agg #[.slice pv nv cv,.slice pf nf cf])] [] [slF (rI3 .i64) pv cv V,slF (rI3 .i64) pf cf F]
 refine zda 0 rfl (fun hL0=> ?_)
 refine zda 1 rfl (fun hL1=> ?_)
 have hnv5:nv≤512:=by have:=hg.nv;omega
 have hnf5:nf≤1024:=by have:=hg.nf;omega
 refine ze<|za<|zV rfl rfl (zla rfl rfl) (fun b1=> ?_)
 refine r_pv rfl rfl (zd rfl)<|zg<|zc<|ze<|za<|r_u rfl rfl (zh 0 ty25 rfl rfl (.take (.take .nil)))<|zfa rfl rfl (.c rfl .n) ce56 (zfc (pv:=pv) (nv:=nv) (cv:=cv) (V:=V) (pf:=pf) (nf:=nf) (cf:=cf) (F:=F) (hnv:=by assumption) (hnf:=by assumption) (hg:=by assumption)) (.c (j:=0) rfl (.c (j:=1) rfl .n)) ?_
 rintro ⟨b22,bm1⟩ hB
 dsimp only [List.append_eq,List.nil_append,List.cons_append]
 replace hB:Ms.BMap F bm1:=hB
 refine r_pv rfl rfl (zd rfl)<|zg<|zc<|ze<|za<|r_pv rfl rfl (zd rfl)<|zg<|zc<|ze<|za<|zEa rfl rfl (zGa (κ:=Int) (ν:=Bool) (fun z:Int=> .int .i64 z) (fun z:Bool=> .bool z) (InK .i64)) (fun b3 _=> ?_)
 refine r_pv rfl rfl (zd rfl)<|zg<|zc<|ze<|ze<|zic 50 (rS (rI .i64))<|za<|r_pv rfl rfl (zn Try.underlying25 rfl sz22 rfl rfl)<|r_u rfl rfl (zf 3 ty22 rfl rfl rfl)<|r_pv rfl rfl (zJ Try.underlying22 rfl)<|r_pv rfl rfl (zb rfl)<|zg<|zc<|zq<|zha (X:=Nat×(List (Int×Bool))×(List Int)×(Option Addr)×Nat×(List (List Int))) (fun x:Nat×(List (Int×Bool))×(List Int)×(Option Addr)×Nat×(List (List Int))=>x.1≤nv∧Ms.Marks x.2.1 x.2.2.1∧Ms.LInv (fun jj=>mget bm1 jj) nv x.1 x.2.2.1 x.2.2.2.2.2) (fun x=>[(4,.slice (x.2.2.2.1) (x.2.2.2.2.2.length) (x.2.2.2.2.1)),(17,.int .i64 ((x.1:Nat):Int)),(16,.int .i64 ((nv:Nat):Int)),(5,.map (some b3)),(3,.map (some b22)),(2,.slice none 0 0)]) (fun x=>[rowA 50 (rS (rI .i64)) (x.2.2.2.1) (x.2.2.2.2.1) (x.2.2.2.2.2),mapA b3 (fun z:Int=> .int .i64 z) (fun z:Bool=> .bool z) (InK .i64) (x.2.1),mapA b22 (fun z:Int=> .int .i64 z) (fun z:Int=> .int .i64 z) (InK .i64) bm1,boxA b1 25 [.slice pv nv cv,.slice pf nf cf]]) (fun x=>[slF (rI3 .i64) pv cv V,slF (rI3 .i64) pf cf F]) (fun x:Nat×(List (Int×Bool))×(List Int)×(Option Addr)×Nat×(List (List Int))=>nv - x.1) (0,([]:List (Int×Bool)),([]:List Int),none,0,([]:List (List Int))) (show 0≤nv∧Ms.Marks ([]:List (Int×Bool)) ([]:List Int)∧Ms.LInv (fun jj=>mget bm1 jj) nv 0 ([]:List Int) ([]:List (List Int)) from by exact ⟨Nat.zero_le _,Ms.Marks.nil,Ms.LInv.start _ _⟩) ((.e rfl (by first|rfl|(congr 1;omega)|simp_all) (.e rfl (by first|rfl|(congr 1;omega)|simp_all) (.of rfl))):SubM _ _) (ho:=((.e (i:=0) rfl (by first|rfl|(congr 1;omega)|simp_all) (.e (i:=0) rfl (by first|rfl|(congr 1;omega)|simp_all) (.of [0,0] rfl))):PickO _ _ _)) ((.of [0,1] rfl):SelR _ _ _) ?_
 rintro ⟨v,dm,K,p,c,out⟩ hI
 replace hI:v≤nv∧Ms.Marks dm K∧Ms.LInv (fun jj=>mget bm1 jj) nv v K out:=hI
 try dsimp only
 obtain ⟨hv,hM,hL⟩:=hI
 have hol:=hL.len
 refine ze<|za<|r_pv rfl rfl (zE rfl rfl)<|zg<|zc<|ze<|zD rfl (fun h4=> ?_) (fun h4=> ?_)
 ·
  refine zu<|zc<|ze<|zq<|ze<|za<|r_pv rfl rfl (zb rfl)<|r_pv rfl rfl (zd rfl)<|zg<|zc<|zxe<|ze<|ze<|za<|r_pv rfl rfl (zb rfl)<|r_pv rfl rfl (zb rfl)<|r_u rfl rfl (zYa (z:=0) (a0:=((v:Nat):Int)) (v:= .int .i64 ((mget bm1 ((v:Nat):Int)).getD 0)) 2 rfl ky3 Try.underlying76 zr3 rfl rfl (zl.2 (by omega)) rfl)<|r_pv rfl rfl (zb rfl)<|r_pv rfl rfl (zY rfl rfl)<|r_pv rfl rfl (zY rfl rfl)<|r_pv rfl rfl (zd rfl)<|r_pv rfl rfl (zd rfl)<|zg<|zc<|zLa (X:=Unit) (fun x=>True) (fun x=>[(32,.bool (decide (((!((mget bm1 ((v:Nat):Int)).isSome))=true)∨(((mget dm ((v:Nat):Int)).getD false)=true)))),(6,.int .i64 ((v:Nat):Int)),(4,.slice p (out.length) c),(17,.int .i64 ((v:Nat):Int)),(16,.int .i64 ((nv:Nat):Int)),(5,.map (some b3)),(3,.map (some b22)),(2,.slice none 0 0)]) (fun x=>[rowA 50 (rS (rI .i64)) p c out,mapA b3 (fun z:Int=> .int .i64 z) (fun z:Bool=> .bool z) (InK .i64) dm,mapA b22 (fun z:Int=> .int .i64 z) (fun z:Int=> .int .i64 z) (InK .i64) bm1,boxA b1 25 [.slice pv nv cv,.slice pf nf cf]]) (fun x=>[slF (rI3 .i64) pv cv V,slF (rI3 .i64) pf cf F]) ?_ ?_
  ·
   refine za<|r_pv rfl rfl (zb rfl)<|r_pv rfl rfl (zhb rfl)<|zuc rfl rfl (zb rfl) (fun h5=> ?_) (fun h5=> ?_)
   ·
    refine zi rfl rfl<|zi rfl rfl<|zi rfl rfl<|r_pv rfl rfl (zH rfl rfl)<|zg ?_
    exact zja () (show True from by first|trivial|omega|simp_all) ((.e rfl (congrArg Value.bool (by first|(simp_all;done)|(simp_all;omega)|(simp;omega)|omega)) (.of rfl)):SubM _ _) (ho:=((.of [0,0,0,0] rfl):PickO _ _ _)) ((.of [0,1] rfl):SelR _ _ _)
   ·
    refine r_pv rfl rfl (zb rfl)<|r_pv rfl rfl (zb rfl)<|r_u rfl rfl (zoa (z:=false) (a0:=((v:Nat):Int)) (v:= .bool ((mget dm ((v:Nat):Int)).getD false)) 1 rfl ky3 Try.underlying94 zr4 rfl rfl (zl.2 (by omega)) rfl)<|r_pv rfl rfl (zH rfl rfl)<|zg ?_
    exact zja () (show True from by first|trivial|omega|simp_all) ((.e rfl (congrArg Value.bool (by first|(simp_all;done)|(simp_all;omega)|(simp;omega)|omega)) (.of rfl)):SubM _ _) (ho:=((.of [0,0,0,0] rfl):PickO _ _ _)) ((.of [0,1] rfl):SelR _ _ _)
  ·
   rintro ⟨⟩ -
   try dsimp only
   refine zD rfl (fun hsk=> ?_) (fun hsk=> ?_)
   ·
    refine zX<|zj<|zzc<|zp<|zc<|za<|r_pv rfl rfl (zC (z:=(((v+1):Nat):Int)) rfl rfl (w64 (by omega)))<|r_pv rfl rfl (zb rfl)<|zg<|zba ((v+1),dm,K,p,c,out) (show (v+1)≤nv∧Ms.Marks dm K∧Ms.LInv (fun jj=>mget bm1 jj) nv (v+1) K out from by exact ⟨by omega,hM,hL.skip (hsk.imp id hM.yes)⟩) (by show nv - (v+1)<nv - v;omega) ((.of rfl):SubM _ _) (ho:=((.of [0,0,0,0] rfl):PickO _ _ _)) ((.of [0,1] rfl):SelR _ _ _)
   ·
    refine zu<|zc<|ze<|za<|r_pv rfl rfl (zd rfl)<|zg<|zc<|ze<|zqe<|zc<|ze<|ze<|zic 3 (rI .i64)<|za<|r_pv rfl rfl (zb rfl)<|r_pv rfl rfl (zd rfl)<|zg<|zc<|zq<|zha (X:=(List (Int×Bool))×(Option Addr)×Nat×(List Int)×Int) (fun x:(List (Int×Bool))×(Option Addr)×Nat×(List Int)×Int=>Ms.Marks x.1 (K++x.2.2.2.1)∧Ms.WInv (fun jj=>mget bm1 jj) nv K (v:Int) x.2.2.2.1 x.2.2.2.2) (fun x=>[(10,.int .i64 (x.2.2.2.2)),(9,.slice (x.2.1) (x.2.2.2.1.length) (x.2.2.1)),(4,.slice p (out.length) c),(17,.int .i64 ((v:Nat):Int)),(16,.int .i64 ((nv:Nat):Int)),(5,.map (some b3)),(3,.map (some b22)),(2,.slice none 0 0)]) (fun x=>[rowA 3 (rI .i64) (x.2.1) (x.2.2.1) (x.2.2.2.1),rowA 50 (rS (rI .i64)) p c out,mapA b3 (fun z:Int=> .int .i64 z) (fun z:Bool=> .bool z) (InK .i64) (x.1),mapA b22 (fun z:Int=> .int .i64 z) (fun z:Int=> .int .i64 z) (InK .i64) bm1,boxA b1 25 [.slice pv nv cv,.slice pf nf cf]]) (fun x=>[slF (rI3 .i64) pv cv V,slF (rI3 .i64) pf cf F]) (fun x:(List (Int×Bool))×(Option Addr)×Nat×(List Int)×Int=>nv - (K++x.2.2.2.1).length) (dm,none,0,([]:List Int),((v:Nat):Int)) (show Ms.Marks dm (K++([]:List Int))∧Ms.WInv (fun jj=>mget bm1 jj) nv K (v:Int) ([]:List Int) ((v:Nat):Int) from by exact ⟨by simpa using hM,Ms.WInv.start hL.rng hL.nodup (by omega)⟩) ((.c rfl (.e rfl (by first|rfl|(congr 1;omega)|simp_all) (.of rfl))):SubM _ _) (ho:=((.e (i:=0) rfl (by first|rfl|(congr 1;omega)|simp_all) (.of [0,0,0,0] rfl)):PickO _ _ _)) ((.of [0,1] rfl):SelR _ _ _) ?_
    rintro ⟨dm2,p2,c2,W,a⟩ hJ
    replace hJ:Ms.Marks dm2 (K++W)∧Ms.WInv (fun jj=>mget bm1 jj) nv K (v:Int) W a:=hJ
    try dsimp only
    obtain ⟨hM2,hW⟩:=hJ
    have hWl:=hW.len
    have hWl2:=hWl
    rw [List.length_append] at hWl
    have ha:=hW.at_
    refine ze<|zq<|ze<|ze<|za<|r_pv rfl rfl (zb rfl)<|r_pv rfl rfl (zb rfl)<|r_u rfl rfl (zoa (z:=false) (a0:=a) (v:= .bool ((mget dm2 a).getD false)) 2 rfl ky3 Try.underlying94 zr4 rfl rfl (zl.2 (by omega)) rfl)<|zg<|zc<|zAa rfl (fun hst=> ?_) (fun hst=> ?_)
    ·
     refine zX<|zj<|zpc rfl<|zj<|zj<|zp<|zc<|za<|r_pv rfl rfl (zb rfl)<|r_pv rfl rfl (zb rfl)<|zxa 0 rfl .z<|zEa rfl rfl (zBc 0 rfl Try.underlying37 inf50 rfl (by first|rfl|assumption|(simp;done)|omega)) (fun b6 _=> ?_)
     refine zxa 0 rfl .z<|zBa 2 rfl rfl rfl (zW 0 rfl Try.underlying37 inf50 (by decide) rfl rfl (by first|rfl|assumption|(simp;done)|omega) rfl (by first|rfl|assumption|(simp;done)|omega) (by omega) (by omega)) (fun _=>(.s (.s .z))) ?_
     rintro ⟨p7,c8⟩ -
     dsimp only [List.append_eq,List.nil_append,List.cons_append]
     refine r_pv rfl rfl (zd rfl)<|zg<|zye<|zA<|zc<|za<|r_pv rfl rfl (zC (z:=(((v+1):Nat):Int)) rfl rfl (w64 (by omega)))<|r_pv rfl rfl (zb rfl)<|zg<|zba ((v+1),dm2,K++W,p7,c8,(out++[W])) (show (v+1)≤nv∧Ms.Marks dm2 (K++W)∧Ms.LInv (fun jj=>mget bm1 jj) nv (v+1) (K++W) (out++[W]) from by exact ⟨by omega,hM2,hL.step (fun h=>hsk (h.imp id (fun hk=>by rw [hM.get];simpa using hk))) hW (hM2.yes hst)⟩) (by show nv - (v+1)<nv - v;omega) ((.e rfl (by simp) (.of rfl)):SubM _ _) (ho:=((.e (i:=2) rfl (by first|rfl|(congr 1;omega)|simp_all) (.of [2,2,2] rfl)):PickO _ _ _)) ((.of [2,3] rfl):SelR _ _ _)
    ·
     have hnx:=hB.rng hg (a:=a) (by omega)
     rw [hnv] at hnx
     refine zu<|zc<|ze<|za<|r_pv rfl rfl (zb rfl)<|r_pv rfl rfl (zb rfl)<|zBa 2 rfl rfl rfl (zga (a0:=a) (v:=true) ky3 Try.underlying94 rfl rfl rfl (zl.2 (by omega))) (fun _=>(.s (.s .z))) (fun _ _=> ?_)
     refine zg<|zc<|za<|r_pv rfl rfl (zb rfl)<|r_pv rfl rfl (zb rfl)<|zEa rfl rfl (zz (enc:=fun z:Int=>[.int .i64 z]) (ok:=InK .i64) (h1:=fun _=>rfl) (h2:=fun _=>rfl) (k:=1) Try.underlying50 inf3 rfl (by decide) (by decide) (by decide) (.c (x:=a) rfl rfl (fun _ _=>by exact zl.2 (by omega)) .n)) (fun b9 _=> ?_)
     refine zxa 0 rfl .z<|zBa 1 rfl rfl rfl (zW 0 rfl Try.underlying50 inf3 (by decide) rfl rfl (by first|rfl|assumption|(simp;done)|omega) rfl (by first|rfl|assumption|(simp;done)|omega) (by omega) (by omega)) (fun _=>(.s .z)) ?_
     rintro ⟨p10,c11⟩ -
     dsimp only [List.append_eq,List.nil_append,List.cons_append]
     refine r_pv rfl rfl (zd rfl)<|zg<|zA<|zc<|za<|r_pv rfl rfl (zb rfl)<|r_pv rfl rfl (zb rfl)<|r_u rfl rfl (zoa (z:=0) (a0:=a) (v:= .int .i64 ((mget bm1 a).getD 0)) 4 rfl ky3 Try.underlying76 zr3 rfl rfl (zl.2 (by omega)) rfl)<|r_pv rfl rfl (zd rfl)<|zg<|zba (mput dm2 a true,p10,c11,(W++[a]),((mget bm1 a).getD 0)) (show Ms.Marks (mput dm2 a true) (K++(W++[a]))∧Ms.WInv (fun jj=>mget bm1 jj) nv K (v:Int) (W++[a]) ((mget bm1 a).getD 0) from by exact ⟨by rw [← List.append_assoc];exact hM2.step (hM2.no hst),hW.step (hM2.no hst) hnx⟩) (by have:=(hW.step (hM2.no hst) hnx).len;simp only [List.length_append,List.length_cons,List.length_nil] at *;omega) ((.c rfl (.e rfl (by simp) (.of rfl))):SubM _ _) (ho:=((.e (i:=1) rfl (by first|rfl|(congr 1;omega)|simp_all) (.of [1,1,1,1] rfl)):PickO _ _ _)) ((.of [1,2] rfl):SelR _ _ _)
 ·
  refine zX<|zj<|zj<|zp<|zc<|ze<|za<|r_pv rfl rfl (zb rfl)<|r_pv rfl rfl (zd rfl)<|zg<|zc<|zK ?_
  have hvn:v=nv:=by omega
  subst hvn
  have hfin:=hL.fin
  refine zKa 0 rfl .z ?_
  exact zB Try.results65 (p,c,bm1) hB (zx rfl) (by rw [hfin]) (ho:=(.n:PickO _ _ _)) ((.e (j:=0) rfl (by rw [hfin]) .n):SelR _ _ _)
end Go.Proofs.Ytalfgjpbbongcaa.Sp
