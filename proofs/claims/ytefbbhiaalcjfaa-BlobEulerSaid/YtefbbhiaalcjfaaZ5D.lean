/- Lemmas on the walk and plain lemmas that the claim of this folder uses; each states its own conditions. Lines were printed by a program of ours. -/
import Derived.Test.YtefbbhiaalcjfaaZ5C
set_option linter.unusedVariables false
set_option linter.unusedSimpArgs false
set_option linter.unusedSectionVars false
namespace Go.Proofs.Ytefbbhiaalcjfaa.Sp
open Go
set_option linter.unusedVariables false
set_option maxRecDepth 100000
set_option maxHeartbeats 8000000
theorem zlb {p:Option Addr} {n:Nat} {cap:Nat} {l:List Int} (hn:l.length=n):Con Try.prog 101 [.slice p n cap] [] [slF (rI .u32) p cap l] (Y:=Unit) (fun y=>True) (fun y=> .slice p ((Big.trimL l).length) cap) (fun y=>[]) (fun y=>[slF (rI .u32) p cap (Big.trimL l)]):=by
 refine zr Try.func101 rfl rfl rfl (fun c=> ?_)
 show RunC _ _ _ _ _ [(0,.slice p n cap)] [] [slF (rI .u32) p cap l]
 refine zca 0 rfl (fun hL0=> ?_)
 refine zi<|zc<|r_pv rfl rfl (zd rfl)<|zj<|ze<|zi<|zz<|zma (X:=Nat) (fun x:Nat=>x≤l.length∧Big.trimL (l.take x)=Big.trimL l) (fun x=>[(0,.slice p x cap),(2,.slice none 0 0)]) (fun x=>[]) (fun x=>[slF (rI .u32) p cap (l.take x),slF (rI .u32) p cap l]) (fun x:Nat=>x) n (show n≤l.length∧Big.trimL (l.take n)=Big.trimL l from by exact ⟨by omega,by rw [List.take_of_length_le (by omega)]⟩) ((.c rfl (.c rfl .n)):SubM _ _) (ho:=(.n:PickO _ _ _)) ((.e (j:=0) rfl (by rw [List.take_of_length_le (by omega)]) (.c (j:=0) rfl .n)):SelR _ _ _) ?_
 rintro k hI
 replace hI:k≤l.length∧Big.trimL (l.take k)=Big.trimL l:=hI
 try dsimp only
 obtain ⟨hk,hT⟩:=hI
 have hlt:(l.take k).length=k:=by rw [List.length_take];omega
 refine zi<|zFa (X:=Unit) (fun x=>True) (fun x=>[(14,.bool (decide (0<k∧l.getD (k - 1) 0=0))),(0,.slice p k cap),(2,.slice none 0 0)]) (fun x=>[]) (fun x=>[slF (rI .u32) p cap (l.take k),slF (rI .u32) p cap l]) ?_ ?_
 ·
  refine zc<|r_pv rfl rfl (zb rfl)<|r_pv rfl rfl (zM Try.underlying41 rfl)<|r_pv rfl rfl (zwa rfl rfl)<|zP rfl rfl (zb rfl) (fun h1=> ?_) (fun h1=> ?_)
  ·
   refine r_pv rfl rfl (zb rfl)<|r_pv rfl rfl (zb rfl)<|r_pv rfl rfl (zM Try.underlying41 rfl)<|r_pv rfl rfl (zda (z:=(((k:Nat):Int) - 1)) rfl rfl (w64 (by omega)))<|zQ (x0:=((l.take k).getD ((((k:Nat):Int) - 1).toNat) 0)) 0 ((((k:Nat):Int) - 1).toNat) rfl Try.underlying41 sz101 rfl rfl rfl (by first|rfl|assumption|(simp_all;done)|omega) rfl (by omega) (gD (d:=0) (by omega)) (fun b2 o3 hok4=> ?_)
   replace hok4:=zw.1 hok4
   refine r_u rfl rfl (zl (j:=0) 0 ty101 rfl rfl rfl rfl)<|r_pv rfl rfl (zua rfl rfl)<|r_pv rfl rfl (zk rfl rfl)<|zj ?_
   exact zZ () (show True from by first|trivial|omega|simp_all) ((.e rfl (congrArg Value.bool (by rw [Big.getD_take l (by omega)];have h1:0<k:=(by omega);have h2:((k:Int) - 1).toNat=k - 1:=(by omega);simp [h1,h2])) (.c rfl (.c rfl .n))):SubM _ _) (ho:=(.n:PickO _ _ _)) ((.of [1,2] rfl):SelR _ _ _)
  ·
   refine za rfl rfl<|za rfl rfl<|za rfl rfl<|za rfl rfl<|za rfl rfl<|za rfl rfl<|za rfl rfl<|r_pv rfl rfl (zk rfl rfl)<|zj ?_
   exact zZ () (show True from by first|trivial|omega|simp_all) ((.e rfl (congrArg Value.bool (by have h1:¬0<k:=(by omega);simp [h1])) (.c rfl (.c rfl .n))):SubM _ _) (ho:=(.n:PickO _ _ _)) ((.of [0,1] rfl):SelR _ _ _)
 ·
  rintro ⟨⟩ -
  try dsimp only
  refine zD rfl (fun hc=> ?_) (fun hc=> ?_)
  ·
   refine zA<|ze<|zz<|zc<|r_pv rfl rfl (zb rfl)<|r_pv rfl rfl (zb rfl)<|r_pv rfl rfl (zM Try.underlying41 rfl)<|r_pv rfl rfl (zda (z:=(((k - 1):Nat):Int)) rfl rfl (w64 (by omega)))<|r_pv rfl rfl (zZa (hi:=(k - 1)) Try.underlying41 sz101 rfl (.s rfl) (.inr ⟨_,rfl⟩) (by omega))<|zpc (zUb 0 rfl (k - 1) (by omega)) (fun _ _=> ?_)
   refine r_pv rfl rfl (zd rfl)<|zj<|zJ<|zba (k - 1) (show (k - 1)≤l.length∧Big.trimL (l.take (k - 1))=Big.trimL l from by exact ⟨by omega,by rw [← hT,Big.trim_go l hc.1 hk hc.2]⟩) (by show k - 1<k;omega) ((.e rfl (by first|rfl|(congr 1;omega)|simp_all) (.c rfl .n)):SubM _ _) (ho:=(.n:PickO _ _ _)) ((.e (j:=0) rfl (by rw [List.take_take];congr 2;omega) (.c (j:=2) rfl .n)):SelR _ _ _)
  ·
   refine zfa<|zm<|zm<|zv<|ze<|zi<|zc<|r_pv rfl rfl (zb rfl)<|r_pv rfl rfl (zd rfl)<|zj<|ze<|zI ?_
   have hfin:Big.trimL l=l.take k:=by rw [← hT];exact Big.trim_stop l hk hc
   exact zC Try.results101 () trivial (zq rfl) (by rw [hfin,hlt]) (ho:=(.n:PickO _ _ _)) ((.e (j:=0) rfl (by rw [hfin]) .n):SelR _ _ _)
theorem zKd {p:Option Addr} {n:Nat} {cap:Nat} {l:List Int} {i:Nat} (hn:l.length=n) (hi:i≤4611686018427387904):Con Try.prog 114 [.slice p n cap,.int .i64 ((i:Nat):Int)] [] [slF (rI .u32) p cap l] (Y:=Unit) (fun y=>True) (fun y=> .int .u32 (l.getD i 0)) (fun y=>[]) (fun y=>[]):=by
 refine zr Try.func114 rfl rfl rfl (fun c=> ?_)
 show RunC _ _ _ _ _ [(0,.slice p n cap),(1,.int .i64 ((i:Nat):Int))] [] [slF (rI .u32) p cap l]
 refine zca 0 rfl (fun hL0=> ?_)
 refine zi<|zc<|r_pv rfl rfl (zd rfl)<|zj<|ze<|zi<|zi<|zc<|r_pv rfl rfl (zb rfl)<|r_pv rfl rfl (zb rfl)<|r_pv rfl rfl (zM Try.underlying41 rfl)<|r_pv rfl rfl (zW rfl rfl)<|zj<|ze<|zD rfl (fun h1=> ?_) (fun h1=> ?_)
 ·
  refine zi<|zc<|r_pv rfl rfl (zb rfl)<|r_pv rfl rfl (zb rfl)<|zQ (x0:=(l.getD i 0)) 0 i rfl Try.underlying41 sz101 rfl rfl rfl (by first|rfl|assumption|(simp_all;done)|omega) rfl rfl (gD (d:=0) (by omega)) (fun b2 o3 hok4=> ?_)
  replace hok4:=zw.1 hok4
  refine r_u rfl rfl (zl (j:=0) 0 ty101 rfl rfl rfl rfl)<|r_pv rfl rfl (zd rfl)<|zj<|ze<|zI<|zt ?_
  exact zC Try.results114 () trivial (zq rfl) rfl (ho:=(.n:PickO _ _ _)) (.n:SelR _ _ _)
 ·
  refine zA<|ze<|zi<|zc<|r_pv rfl rfl (zd rfl)<|zj<|ze<|zI ?_
  exact zC Try.results114 () trivial (zq rfl) (by rw [show l.getD i 0=0 by simp [List.getD,List.getElem?_eq_none (show l.length≤i by omega)]]) (ho:=(.n:PickO _ _ _)) (.n:SelR _ _ _)
theorem zYe {p1:Option Addr} {n1:Nat} {c1:Nat} {l1:List Int} {p2:Option Addr} {n2:Nat} {c2:Nat} {l2:List Int} (hn1:l1.length=n1) (hn2:l2.length=n2) (hb1:n1≤1099511627776) (hb2:n2≤1099511627776) (ho1:Big.okL l1) (ho2:Big.okL l2):Con Try.prog 107 [.slice p1 n1 c1,.slice p2 n2 c2] [] [slF (rI .u32) p1 c1 l1,slF (rI .u32) p2 c2 l2] (Y:=(Option Addr)×Nat) (fun y=>True) (fun y=> .slice (y.1) ((Big.digs (Big.valL l1+Big.valL l2).toNat).length) (y.2)) (fun y=>[]) (fun y=>[slF (rI .u32) (y.1) (y.2) (Big.digs (Big.valL l1+Big.valL l2).toNat)]):=by
 refine zr Try.func107 rfl rfl rfl (fun c=> ?_)
 show RunC _ _ _ _ _ [(0,.slice p1 n1 c1),(1,.slice p2 n2 c2)] [] [slF (rI .u32) p1 c1 l1,slF (rI .u32) p2 c2 l2]
 refine zca 0 rfl (fun hL0=> ?_)
 refine zca 1 rfl (fun hL1=> ?_)
 refine zi<|zc<|r_pv rfl rfl (zd rfl)<|zj<|ze<|zi<|zc<|r_pv rfl rfl (zb rfl)<|r_pv rfl rfl (zM Try.underlying41 rfl)<|r_pv rfl rfl (zb rfl)<|r_pv rfl rfl (zM Try.underlying41 rfl)<|r_pv rfl rfl (v:= .int .i64 (((max n1 n2):Nat):Int)) (by rw [show ((((max n1 n2):Nat):Int):Int)=max ((n1:Nat):Int) ((n2:Nat):Int) by omega];exact zzd rfl rfl)<|r_pv rfl rfl (zy (z:=((((max n1 n2)+1):Nat):Int)) rfl rfl (w64 (by omega)))<|zta rfl rfl (zWa (r:=rI .u32) (k:=((max n1 n2)+1)) (x0:=0) (γ0:=()) Try.underlying41 inf101 rfl rfl rfl rfl (by omega) (by omega) rfl (fun g _=>by exact zw.2 (by decide)) (by decide)) (fun b1 _=> ?_)
 refine r_pv rfl rfl (zd rfl)<|zj<|ze<|zi<|zc<|r_pv rfl rfl (zd rfl)<|zj<|ze<|zi<|zi<|zc<|r_pv rfl rfl (zb rfl)<|r_pv rfl rfl (zM Try.underlying41 rfl)<|r_pv rfl rfl (zb rfl)<|zj<|ze<|zz<|zma (X:=Nat×(List Int)×Int) (fun x:Nat×(List Int)×Int=>x.1≤max n1 n2+1∧x.2.1.length=x.1∧0≤x.2.2∧x.2.2≤1∧Big.okL x.2.1∧Big.valL x.2.1+Big.pw x.1*x.2.2=Big.valL (l1.take x.1)+Big.valL (l2.take x.1)) (fun x=>[(6,.int .u32 (x.2.2)),(18,.int .i64 ((x.1:Nat):Int)),(17,.int .i64 ((((max n1 n2)+1):Nat):Int)),(5,.slice (some ⟨b1,0,none⟩) ((max n1 n2)+1) ((max n1 n2)+1)),(4,.slice none 0 0),(0,.slice p1 n1 c1),(1,.slice p2 n2 c2)]) (fun x=>[rowA 101 (rI .u32) (some ⟨b1,0,none⟩) ((max n1 n2)+1) (x.2.1++List.replicate (max n1 n2+1 - x.1) 0)]) (fun x=>[slF (rI .u32) p1 c1 l1,slF (rI .u32) p2 c2 l2]) (fun x:Nat×(List Int)×Int=>max n1 n2+1 - x.1) (0,[],0) (show 0≤max n1 n2+1∧([]).length=0∧0≤0∧0≤1∧Big.okL ([])∧Big.valL ([])+Big.pw 0*0=Big.valL (l1.take 0)+Big.valL (l2.take 0) from by exact ⟨by omega,rfl,by decide,by decide,Big.okL_nil,by simp [Big.valL]⟩) ((.c rfl (.e rfl (by first|rfl|(congr 1;omega)|simp_all) (.of rfl))):SubM _ _) (ho:=((.e (i:=0) rfl (by simp) .n):PickO _ _ _)) ((.of [0,1] rfl):SelR _ _ _) ?_
 rintro ⟨i,os,cy⟩ hI
 replace hI:i≤max n1 n2+1∧os.length=i∧0≤cy∧cy≤1∧Big.okL os∧Big.valL os+Big.pw i*cy=Big.valL (l1.take i)+Big.valL (l2.take i):=hI
 try dsimp only
 obtain ⟨hi,hol,hc0,hc1,hok,hv⟩:=hI
 have hg1:=Big.okL_getD ho1 i
 have hg2:=Big.okL_getD ho2 i
 refine zi<|zc<|r_pv rfl rfl (zW rfl rfl)<|zj<|ze<|zi<|zD rfl (fun h2=> ?_) (fun h2=> ?_)
 ·
  refine zA<|ze<|zi<|zz<|zi<|zc<|r_pv rfl rfl (zb rfl)<|r_pv rfl rfl (zd rfl)<|zj<|ze<|zi<|zc<|r_pv rfl rfl (zb rfl)<|r_pv rfl rfl (zb rfl)<|zO rfl rfl (.c rfl (.c rfl .n)) ce114 (zKd (p:=p1) (n:=n1) (cap:=c1) (l:=l1) (i:=i) (hn:=by assumption) (hi:=by first|rfl|assumption|omega|(simp;done)|(simp;omega)|(simp_all;done))) (.c (j:=0) rfl .n)<|r_pv rfl rfl (zb rfl)<|r_pv rfl rfl (zb rfl)<|zO rfl rfl (.c rfl (.c rfl .n)) ce114 (zKd (p:=p2) (n:=n2) (cap:=c2) (l:=l2) (i:=i) (hn:=by assumption) (hi:=by first|rfl|assumption|omega|(simp;done)|(simp;omega)|(simp_all;done))) (.c (j:=1) rfl .n)<|r_pv rfl rfl (zy (z:=(l1.getD i 0+l2.getD i 0)) rfl rfl (wu32 (by omega)))<|r_pv rfl rfl (zb rfl)<|r_pv rfl rfl (zy (z:=((l1.getD i 0+l2.getD i 0)+cy)) rfl rfl (wu32 (by omega)))<|r_pv rfl rfl (zd rfl)<|zj<|ze<|zi<|zc<|r_pv rfl rfl (zd rfl)<|zj<|ze<|zi<|zi<|zc<|r_pv rfl rfl (zb rfl)<|r_pv rfl rfl (zya rfl rfl)<|zj<|ze<|zD rfl (fun hc=> ?_) (fun hc=> ?_)
  ·
   refine zc<|r_pv rfl rfl (zb rfl)<|r_pv rfl rfl (zda (z:=(((l1.getD i 0+l2.getD i 0)+cy) - 1000000000)) rfl rfl (wu32 (by omega)))<|r_pv rfl rfl (zd rfl)<|r_pv rfl rfl (zd rfl)<|zj<|ze<|zc<|r_pv rfl rfl (zb rfl)<|r_pv rfl rfl (zb rfl)<|r_pv rfl rfl (zb rfl)<|r_pv rfl rfl (zN (j:=i) Try.underlying41 sz101 rfl rfl rfl (by omega))<|zxa 0 rfl rfl rfl (zR (j:=i) (x0:=(((l1.getD i 0+l2.getD i 0)+cy) - 1000000000)) (γ0:=()) rfl rfl (by first|omega|(rw [List.length_map];omega)|(simp only [List.length_set];omega)|(simp;done)|(simp;omega)) rfl rfl sz101 (fun _ _=>by exact zw.2 (by omega))) (fun _=> .z) (fun _ _=> ?_)
   refine zj<|zJ<|ze<|zc<|r_pv rfl rfl (zy (z:=(((i+1):Nat):Int)) rfl rfl (w64 (by omega)))<|r_pv rfl rfl (zb rfl)<|zj<|zba ((i+1),os++[l1.getD i 0+l2.getD i 0+cy - 1000000000],1) (show (i+1)≤max n1 n2+1∧(os++[l1.getD i 0+l2.getD i 0+cy - 1000000000]).length=(i+1)∧0≤1∧1≤1∧Big.okL (os++[l1.getD i 0+l2.getD i 0+cy - 1000000000])∧Big.valL (os++[l1.getD i 0+l2.getD i 0+cy - 1000000000])+Big.pw (i+1)*1=Big.valL (l1.take (i+1))+Big.valL (l2.take (i+1)) from by exact ⟨by omega,by simp [hol],by decide,by decide,Big.okL_snoc hok (by omega) (by omega),Big.plus_step hol hv (by omega)⟩) (by show max n1 n2+1 - (i+1)<max n1 n2+1 - i;omega) ((.of rfl):SubM _ _) (ho:=((.e (i:=0) rfl (by rw [Big.set_pad hol (by omega)]) .n):PickO _ _ _)) ((.of [0,1] rfl):SelR _ _ _)
  ·
   refine zA<|ze<|zc<|r_pv rfl rfl (zb rfl)<|r_pv rfl rfl (zb rfl)<|r_pv rfl rfl (zb rfl)<|r_pv rfl rfl (zN (j:=i) Try.underlying41 sz101 rfl rfl rfl (by omega))<|zxa 0 rfl rfl rfl (zR (j:=i) (x0:=((l1.getD i 0+l2.getD i 0)+cy)) (γ0:=()) rfl rfl (by first|omega|(rw [List.length_map];omega)|(simp only [List.length_set];omega)|(simp;done)|(simp;omega)) rfl rfl sz101 (fun _ _=>by exact zw.2 (by omega))) (fun _=> .z) (fun _ _=> ?_)
   refine zj<|zJ<|ze<|zc<|r_pv rfl rfl (zy (z:=(((i+1):Nat):Int)) rfl rfl (w64 (by omega)))<|r_pv rfl rfl (zb rfl)<|zj<|zba ((i+1),os++[l1.getD i 0+l2.getD i 0+cy],0) (show (i+1)≤max n1 n2+1∧(os++[l1.getD i 0+l2.getD i 0+cy]).length=(i+1)∧0≤0∧0≤1∧Big.okL (os++[l1.getD i 0+l2.getD i 0+cy])∧Big.valL (os++[l1.getD i 0+l2.getD i 0+cy])+Big.pw (i+1)*0=Big.valL (l1.take (i+1))+Big.valL (l2.take (i+1)) from by exact ⟨by omega,by simp [hol],by decide,by decide,Big.okL_snoc hok (by omega) (by omega),Big.plus_step hol hv (by omega)⟩) (by show max n1 n2+1 - (i+1)<max n1 n2+1 - i;omega) ((.of rfl):SubM _ _) (ho:=((.e (i:=0) rfl (by rw [Big.set_pad hol (by omega)]) .n):PickO _ _ _)) ((.of [0,1] rfl):SelR _ _ _)
 ·
  have e3:os++List.replicate (max n1 n2+1 - i) 0=os:=by rw [show max n1 n2+1 - i=0 by omega];simp
  rw [e3]
  have hfin:=Big.plus_fin ho1 ho2 hok hc0 hol (by omega) hv
  have htr:Big.trimL os=Big.digs (Big.valL l1+Big.valL l2).toNat:=by rw [Big.digs_valL hok,hfin]
  refine zfa<|zm<|zm<|zv<|ze<|zi<|zc<|r_pv rfl rfl (zb rfl)<|zea 0 rfl .z<|zB rfl rfl (.c rfl .n) ce101 (zlb (p:=some ⟨b1,0,none⟩) (n:=((max n1 n2)+1)) (cap:=((max n1 n2)+1)) (l:=os) (hn:=by first|rfl|assumption|omega|(simp;done)|(simp;omega)|(simp_all;done))) (.c (j:=0) rfl .n) ?_
  rintro ⟨⟩ -
  dsimp only [List.append_eq,List.nil_append,List.cons_append]
  refine r_pv rfl rfl (zd rfl)<|zj<|ze<|zI ?_
  exact zC Try.results107 ((some ⟨b1,0,none⟩),((max n1 n2)+1)) trivial (zq rfl) (by rw [htr]) (ho:=(.n:PickO _ _ _)) ((.e (j:=0) rfl (by rw [htr]) .n):SelR _ _ _)
theorem zEe {a:Nat} {b:Nat} {p1:Option Addr} {c1:Nat} {p2:Option Addr} {c2:Nat} (hb1:(Big.digs (a)).length≤1099511627776) (hb2:(Big.digs (b)).length≤1099511627776):Con Try.prog 107 [.slice (p1) ((Big.digs (a)).length) (c1),.slice (p2) ((Big.digs (b)).length) (c2)] [] [slF (rI .u32) (p1) (c1) (Big.digs (a)),slF (rI .u32) (p2) (c2) (Big.digs (b))] (Y:=(Option Addr)×(Nat)) (fun y=>True) (fun y=> .slice (y.1) ((Big.digs (a+b)).length) (y.2)) (fun y=>[]) (fun y=>[slF (rI .u32) (y.1) (y.2) (Big.digs (a+b))]):=by
  have h:= @zYe p1 (Big.digs a).length c1 (Big.digs a) p2 (Big.digs b).length c2 (Big.digs b) rfl rfl hb1 hb2 (Big.digs_ok a) (Big.digs_ok b)
  rw [Big.valL_digs,Big.valL_digs,show ((a:Int)+(b:Int)).toNat=a+b by omega] at h
  exact h
theorem zGb {x:Int}:Con Try.prog 119 [.int .i64 x] [] [] (Y:=Unit) (fun y=>True) (fun y=> .bool false) (fun y=>[]) (fun y=>[]):=by
 refine zr Try.func119 rfl rfl rfl (fun c=> ?_)
 show RunC _ _ _ _ _ [(0,.int .i64 x)] [] []
 refine zi<|zc<|r_pv rfl rfl (zd rfl)<|zj<|ze<|zi<|zc<|r_pv rfl rfl (zb rfl)<|r_pv rfl rfl (zb rfl)<|r_pv rfl rfl (zIa rfl rfl)<|r_pv rfl rfl (zd rfl)<|zj<|ze<|zI ?_
 exact zC Try.results119 () trivial (zq rfl) (by simp) (ho:=(.n:PickO _ _ _)) (.n:SelR _ _ _)
theorem zHb {x:Int}:Con Try.prog 120 [.int .u32 x] [] [] (Y:=Unit) (fun y=>True) (fun y=> .bool false) (fun y=>[]) (fun y=>[]):=by
 refine zr Try.func120 rfl rfl rfl (fun c=> ?_)
 show RunC _ _ _ _ _ [(0,.int .u32 x)] [] []
 refine zi<|zc<|r_pv rfl rfl (zd rfl)<|zj<|ze<|zi<|zc<|r_pv rfl rfl (zb rfl)<|r_pv rfl rfl (zb rfl)<|r_pv rfl rfl (zIa rfl rfl)<|r_pv rfl rfl (zd rfl)<|zj<|ze<|zI ?_
 exact zC Try.results120 () trivial (zq rfl) (by simp) (ho:=(.n:PickO _ _ _)) (.n:SelR _ _ _)
theorem zsd {u:Int} {v:Int}:Con Try.prog 116 [.int .i64 u,.int .i64 v] [] [] (Y:=Unit) (fun y=>True) (fun y=> .int .i64 (Big.cmp u v)) (fun y=>[]) (fun y=>[]):=by
 refine zr Try.func116 rfl rfl rfl (fun c=> ?_)
 show RunC _ _ _ _ _ [(0,.int .i64 u),(1,.int .i64 v)] [] []
 refine zi<|zc<|r_pv rfl rfl (zd rfl)<|zj<|ze<|zi<|zc<|r_pv rfl rfl (zb rfl)<|zO rfl rfl (.c rfl .n) ce119 (zGb (x:=u)) (.n)<|r_pv rfl rfl (zd rfl)<|zj<|ze<|zi<|zc<|r_pv rfl rfl (zb rfl)<|zO rfl rfl (.c rfl .n) ce119 (zGb (x:=v)) (.n)<|r_pv rfl rfl (zd rfl)<|zj<|ze<|zi<|zi<|zc<|r_pv rfl rfl (zb rfl)<|zj<|ze<|zUa rfl rfl<|zA<|ze<|zi<|zi<|zc<|r_pv rfl rfl (zb rfl)<|zj<|ze<|zUa rfl rfl<|zA<|ze<|zi<|zi<|zc<|r_pv rfl rfl (zb rfl)<|r_pv rfl rfl (zb rfl)<|r_pv rfl rfl (zW rfl rfl)<|zj<|ze<|zD rfl (fun h1=> ?_) (fun h1=> ?_)
 ·
  refine zi<|zc<|r_pv rfl rfl (zd rfl)<|zj<|ze<|zI<|zt ?_
  exact zC Try.results116 () trivial (zq rfl) (by rw [Big.cmp_lt (by omega)]) (ho:=(.n:PickO _ _ _)) (.n:SelR _ _ _)
 ·
  refine zA<|ze<|zi<|zi<|zc<|r_pv rfl rfl (zb rfl)<|r_pv rfl rfl (zb rfl)<|r_pv rfl rfl (zwa rfl rfl)<|zj<|ze<|zD rfl (fun h2=> ?_) (fun h2=> ?_)
  ·
   refine zi<|zc<|r_pv rfl rfl (zd rfl)<|zj<|ze<|zI<|zt ?_
   exact zC Try.results116 () trivial (zq rfl) (by rw [Big.cmp_gt (by omega)]) (ho:=(.n:PickO _ _ _)) (.n:SelR _ _ _)
  ·
   refine zA<|ze<|zi<|zc<|r_pv rfl rfl (zd rfl)<|zj<|ze<|zI ?_
   exact zC Try.results116 () trivial (zq rfl) (by rw [show Big.cmp u v=0 by simp [Big.cmp];omega]) (ho:=(.n:PickO _ _ _)) (.n:SelR _ _ _)
theorem ztd {u:Int} {v:Int}:Con Try.prog 117 [.int .u32 u,.int .u32 v] [] [] (Y:=Unit) (fun y=>True) (fun y=> .int .i64 (Big.cmp u v)) (fun y=>[]) (fun y=>[]):=by
 refine zr Try.func117 rfl rfl rfl (fun c=> ?_)
 show RunC _ _ _ _ _ [(0,.int .u32 u),(1,.int .u32 v)] [] []
 refine zi<|zc<|r_pv rfl rfl (zd rfl)<|zj<|ze<|zi<|zc<|r_pv rfl rfl (zb rfl)<|zO rfl rfl (.c rfl .n) ce120 (zHb (x:=u)) (.n)<|r_pv rfl rfl (zd rfl)<|zj<|ze<|zi<|zc<|r_pv rfl rfl (zb rfl)<|zO rfl rfl (.c rfl .n) ce120 (zHb (x:=v)) (.n)<|r_pv rfl rfl (zd rfl)<|zj<|ze<|zi<|zi<|zc<|r_pv rfl rfl (zb rfl)<|zj<|ze<|zUa rfl rfl<|zA<|ze<|zi<|zi<|zc<|r_pv rfl rfl (zb rfl)<|zj<|ze<|zUa rfl rfl<|zA<|ze<|zi<|zi<|zc<|r_pv rfl rfl (zb rfl)<|r_pv rfl rfl (zb rfl)<|r_pv rfl rfl (zW rfl rfl)<|zj<|ze<|zD rfl (fun h1=> ?_) (fun h1=> ?_)
 ·
  refine zi<|zc<|r_pv rfl rfl (zd rfl)<|zj<|ze<|zI<|zt ?_
  exact zC Try.results117 () trivial (zq rfl) (by rw [Big.cmp_lt (by omega)]) (ho:=(.n:PickO _ _ _)) (.n:SelR _ _ _)
 ·
  refine zA<|ze<|zi<|zi<|zc<|r_pv rfl rfl (zb rfl)<|r_pv rfl rfl (zb rfl)<|r_pv rfl rfl (zwa rfl rfl)<|zj<|ze<|zD rfl (fun h2=> ?_) (fun h2=> ?_)
  ·
   refine zi<|zc<|r_pv rfl rfl (zd rfl)<|zj<|ze<|zI<|zt ?_
   exact zC Try.results117 () trivial (zq rfl) (by rw [Big.cmp_gt (by omega)]) (ho:=(.n:PickO _ _ _)) (.n:SelR _ _ _)
  ·
   refine zA<|ze<|zi<|zc<|r_pv rfl rfl (zd rfl)<|zj<|ze<|zI ?_
   exact zC Try.results117 () trivial (zq rfl) (by rw [show Big.cmp u v=0 by simp [Big.cmp];omega]) (ho:=(.n:PickO _ _ _)) (.n:SelR _ _ _)
theorem back_u32 {b:Nat} {p:Option Addr} {n cap:Nat} {l:List Int} (hn:l.length=n):Back Try.prog 115 [.pointer (some ⟨b,0,none⟩)] [atF b 0 [.slice p n cap],slF (rI .u32) p cap l] n (fun k=>[.int .i64 ((k:Nat):Int),.int .u32 (l.getD k 0)]):=by
  refine back_intro Try.func115 rfl rfl rfl (fun l0 c X Y φ ψ OO RR OS RS H x0 hx0=> ?_)
  show RunC _ _ _ _ _ [(0,.func (.yield l0) #[] #[]),(1,.pointer (some ⟨b,0,none⟩))] (OO x0) (atF b 0 [.slice p n cap] :: slF (rI .u32) p cap l :: RR x0)
  refine zca 1 rfl (fun hL=> ?_)
  refine zi<|zc<|r_u rfl rfl (zl (j:=0) 0 ty41 rfl rfl rfl rfl)<|r_pv rfl rfl (zM Try.underlying41 rfl)<|r_pv rfl rfl (zda (z:=(((n:Nat):Int) - 1)) rfl rfl (w64 (by omega)))<|r_pv rfl rfl (zd rfl)<|zj<|ze<|zz<|zce (X:=X×Nat) (fun z=>φ z.1 z.2∧z.2≤n) (fun z=>[(3,.int .i64 (((z.2:Nat):Int) - 1)),(1,.pointer (some ⟨b,0,none⟩)),(0,.func (.yield l0) #[] #[])]) (fun z=>OO z.1) (fun z=>atF b 0 [.slice p n cap] :: slF (rI .u32) p cap l :: RR z.1) (fun z=>z.2) (x0,n) ⟨hx0,Nat.le_refl _⟩ (.c rfl (.c rfl (.c rfl .n)):SubM _ _) (fun w m=>m) ?_
  rintro ⟨x,k⟩ ⟨hx,hk⟩
  dsimp only at hx hk
  try dsimp only
  refine zi<|zi<|zc<|r_pv rfl rfl (zb rfl)<|r_pv rfl rfl (zya rfl rfl)<|zj<|ze<|zD rfl (fun h=> ?_) (fun h=> ?_)
  · refine zA ?_
    refine ze ?_
    obtain ⟨j,rfl⟩:∃j,k=j+1:=⟨k - 1,by omega⟩
    rw [show (((j+1:Nat):Int) - 1)=(j:Int) by omega]
    refine zi<|zz<|zi<|zc<|r_pv rfl rfl (zb rfl)<|r_pv rfl rfl (zb rfl)<|r_u rfl rfl (zl (j:=0) 0 ty41 rfl rfl rfl rfl)<|r_pv rfl rfl (zb rfl)<|zQ (x0:=l.getD j 0) 1 j rfl Try.underlying41 sz101 rfl rfl rfl hn rfl rfl (gD (d:=0) (by omega)) (fun b2 o3 hok=> ?_)
    refine r_u rfl rfl (zl (j:=0) 0 ty101 rfl rfl rfl rfl)<|zlf (X:=X) (Y:=Y) (φ:=fun x'=>φ x' j) (ψ:=ψ) (OO:=OO) (RR:=fun x'=>[atF b 0 [.slice p n cap],slF (rI .u32) p cap l]++RR x') (OS:=OS) (RS:=RS) (vs:=[.int .i64 ((j:Nat):Int),.int .u32 (l.getD j 0)]) rfl rfl rfl (.c rfl (.c rfl .n)) (fun w m=>H x j w (by omega) hx (m.weaken fun h g s r a=>⟨h,g,s,r.2,Hp.le_refl _,Hp.le_refl _,a,fun _ _ e=> .inl e⟩)) (fun x' hx'=> ?_) (fun y hy=> ?_)
    · refine r_pv rfl rfl (zCb rfl) ?_
      refine zj<|ze<|zUa rfl rfl<|zA<|zJ<|ze<|zc<|r_pv rfl rfl (zb rfl)<|r_pv rfl rfl (zda (z:=((j:Int) - 1)) rfl rfl (w64 (by omega)))<|r_pv rfl rfl (zd rfl)<|zj ?_
      exact zkf (x',j) ⟨hx',by show j≤n;omega⟩ (by show j<j+1;omega) (.c rfl (.c rfl (.c rfl .n)):SubM _ _) (fun w m=>m)
    · refine r_pv rfl rfl (zCb rfl) ?_
      refine zj<|ze<|zub rfl rfl<|zI<|zaa<|zt<|zt<|zaa ?_
      exact zjd rfl y hy (fun w m=>m)
  · have hk0 : k = 0 := by omega
    subst hk0
    refine zfa<|zm<|zm<|zv<|p_endI ?_
    exact zid rfl x hx (fun w m=>m)
theorem zsb {p:Option Addr} {n:Nat} {cap:Nat}:Con Try.prog 110 [.slice p n cap] [] [] (Y:=Nat) (fun y=>True) (fun y=> .func (.func 115) #[] #[.pointer (some ⟨y,0,none⟩)]) (fun y=>[]) (fun y=>[atF y 0 [.slice p n cap]]):=by
 refine zr Try.func110 rfl rfl rfl (fun c=> ?_)
 show RunC _ _ _ _ _ [(0,.slice p n cap)] [] []
 refine zi<|zc<|zS rfl rfl (zX rfl rfl) (fun b1=> ?_)
 refine r_pv rfl rfl (zd rfl)<|zj<|ze<|zi<|zc<|r_pv rfl rfl (zQa .n (.c rfl .n))<|r_pv rfl rfl (zd rfl)<|zj<|ze<|zI<|zfe 0 rfl .z ?_
 exact zC Try.results110 b1 trivial (zq rfl) rfl (ho:=(.n:PickO _ _ _)) ((.c (j:=0) rfl .n):SelR _ _ _)
theorem zud {a:Nat} {b:Nat} {p1:Option Addr} {c1:Nat} {p2:Option Addr} {c2:Nat}:Con Try.prog 111 [.slice p1 ((Big.digs a).length) c1,.slice p2 ((Big.digs b).length) c2] [] [slF (rI .u32) p1 c1 (Big.digs a),slF (rI .u32) p2 c2 (Big.digs b)] (Y:=Unit) (fun y=>True) (fun y=> .int .i64 (Big.cmp (a:Int) (b:Int))) (fun y=>[]) (fun y=>[]):=by
 refine zIb Try.func111 rfl rfl rfl (fun c=> ?_)
 show RunC _ _ _ _ _ [(0,.slice p1 ((Big.digs a).length) c1),(1,.slice p2 ((Big.digs b).length) c2)] [] [slF (rI .u32) p1 c1 (Big.digs a),slF (rI .u32) p2 c2 (Big.digs b)]
 refine zca 0 rfl (fun hL0=> ?_)
 refine zca 1 rfl (fun hL1=> ?_)
 refine zi<|zc<|zS rfl rfl (zX rfl rfl) (fun b1=> ?_)
 refine zS rfl rfl (zG zr3 rfl) (fun b2=> ?_)
 refine zj<|ze<|zi<|zi<|zc<|r_pv rfl rfl (zb rfl)<|r_pv rfl rfl (zM Try.underlying41 rfl)<|r_u rfl rfl (zf 1 ty41 rfl rfl rfl)<|r_pv rfl rfl (zM Try.underlying41 rfl)<|r_pv rfl rfl (zIa rfl rfl)<|zj<|ze<|zD rfl (fun hlen=> ?_) (fun hlen=> ?_)
 ·
  refine zi<|zc<|r_pv rfl rfl (zb rfl)<|r_pv rfl rfl (zM Try.underlying41 rfl)<|r_u rfl rfl (zf 1 ty41 rfl rfl rfl)<|r_pv rfl rfl (zM Try.underlying41 rfl)<|zO rfl rfl (.c rfl (.c rfl .n)) ce116 (zsd (u:=(((Big.digs a).length:Nat):Int)) (v:=(((Big.digs b).length:Nat):Int))) (.n)<|zo 0 rfl rfl rfl rfl rfl sz3 rfl (.take .nil) .z<|zj<|ze<|zI<|zt<|zge ?_
  exact zC Try.results111 () trivial (zkb 0 ty3 rfl rfl rfl) (by rw [Big.cmp_len (by omega)]) (ho:=(.n:PickO _ _ _)) (.n:SelR _ _ _)
 ·
  replace hlen:(Big.digs a).length=(Big.digs b).length:=by omega
  refine zA<|ze<|zi<|zi<|zc<|r_pv rfl rfl (zb rfl)<|zB rfl rfl (.c rfl .n) ce110 (zsb (p:=p1) (n:=(Big.digs a).length) (cap:=c1)) (.n) ?_
  rintro b3 -
  dsimp only [List.append_eq,List.nil_append,List.cons_append]
  refine zj<|ze<|zz<|zmd (fa:=[atF b3 0 [.slice p1 ((Big.digs a).length) c1],slF (rI .u32) p1 c1 (Big.digs a)]) (N:=((Big.digs a).length)) (encs:=fun k=>[.int .i64 ((k:Nat):Int),.int .u32 ((Big.digs a).getD k 0)]) rfl ce115 (back_u32 (by first|rfl|assumption|(simp_all;done)|omega)) (fun _=>rfl) rfl (X:=Unit) (Y:=Unit) (fun x k=>k≤(Big.digs a).length∧(Big.digs a).drop k=(Big.digs b).drop k) (fun y=>True) (fun x=>[boxA b2 3 [.int .i64 0],boxA b1 41 [.slice p2 ((Big.digs b).length) c2]]) (fun x=>[slF (rI .u32) p2 c2 (Big.digs b)]) (fun y=>[boxA b2 3 [.int .i64 (Big.cmp (a:Int) (b:Int))],boxA b1 41 [.slice p2 ((Big.digs b).length) c2]]) (fun y=>[atF b3 0 [.slice p1 ((Big.digs a).length) c1],slF (rI .u32) p1 c1 (Big.digs a),slF (rI .u32) p2 c2 (Big.digs b)]) (fun k=>[(6,.int .u32 ((Big.digs a).getD k 0)),(5,.int .i64 ((k:Nat):Int)),(20,.int .u32 ((Big.digs a).getD k 0)),(19,.int .i64 ((k:Nat):Int)),(18,.func (.func 115) #[] #[.pointer (some ⟨b3,0,none⟩)]),(17,.slice p1 ((Big.digs a).length) c1),(11,.bool (decide ((((Big.digs a).length:Nat):Int)≠(((Big.digs b).length:Nat):Int)))),(10,.int .i64 (((Big.digs b).length:Nat):Int)),(9,.slice p2 ((Big.digs b).length) c2),(8,.int .i64 (((Big.digs a).length:Nat):Int)),(7,.slice p1 ((Big.digs a).length) c1),(4,.pointer (some ⟨b2,0,none⟩)),(3,.pointer (some ⟨b1,0,none⟩)),(0,.slice p1 ((Big.digs a).length) c1),(1,.slice p2 ((Big.digs b).length) c2)]) () (show ((Big.digs a).length)≤(Big.digs a).length∧(Big.digs a).drop ((Big.digs a).length)=(Big.digs b).drop ((Big.digs a).length) from by exact ⟨Nat.le_refl _,by rw [List.drop_length,hlen,List.drop_length]⟩) (ho:=((.of [0,0] rfl):PickO _ _ _)) ((.of [0,1,2] rfl):SelR _ _ _) ?_ ?_ ?_ ?_
  ·
   intro l k O' R' Q' hP
   refine zi<|zc<|r_pv rfl rfl (zd rfl)<|zj<|ze<|zc<|r_pv rfl rfl (zd rfl)<|zj ?_
   exact hP
  ·
   rintro l4 D5 o6 o7 ⟨⟩ k hkN hI
   replace hI:(k+1)≤(Big.digs a).length∧(Big.digs a).drop (k+1)=(Big.digs b).drop (k+1):=hI
   try dsimp only
   have hg1:=Big.okL_getD (Big.digs_ok a) k
   have hg2:=Big.okL_getD (Big.digs_ok b) k
   refine zz<|zi<|zc<|r_pv rfl rfl (zb rfl)<|r_u rfl rfl (zf 3 ty41 rfl rfl rfl)<|r_pv rfl rfl (zb rfl)<|zQ (x0:=((Big.digs b).getD k 0)) 2 k rfl Try.underlying41 sz101 rfl rfl rfl (by first|rfl|assumption|(simp_all;done)|omega) rfl rfl (gD (d:=0) (by omega)) (fun b8 o9 hok10=> ?_)
   replace hok10:=zw.1 hok10
   refine r_u rfl rfl (zl (j:=0) 0 ty101 rfl rfl rfl rfl)<|r_pv rfl rfl (zIa rfl rfl)<|zj<|ze<|zD rfl (fun hne=> ?_) (fun hne=> ?_)
   ·
    refine zi<|zc<|r_pv rfl rfl (zb rfl)<|r_u rfl rfl (zf 3 ty41 rfl rfl rfl)<|r_pv rfl rfl (zb rfl)<|zQ (x0:=((Big.digs b).getD k 0)) 3 k rfl Try.underlying41 sz101 rfl rfl rfl (by first|rfl|assumption|(simp_all;done)|omega) rfl rfl (gD (d:=0) (by omega)) (fun b11 o12 hok13=> ?_)
    replace hok13:=zw.1 hok13
    refine r_u rfl rfl (zl (j:=0) 0 ty101 rfl rfl rfl rfl)<|zO rfl rfl (.c rfl (.c rfl .n)) ce117 (ztd (u:=((Big.digs a).getD k 0)) (v:=((Big.digs b).getD k 0))) (.n)<|zo 2 rfl rfl rfl rfl rfl sz3 rfl (.take .nil) (.s (.s .z))<|zj<|ze<|zI<|zaa ?_
    exact zld () (show True from by first|trivial|omega) (ho:=((.c (i:=0) rfl (.c (i:=0) rfl (.e (i:=0) rfl (by rw [Big.cmp_at hlen (by omega) hI.2 hne]) (.c (i:=0) rfl .n)))):PickO _ _ _)) ((.of [2,3,4] rfl):SelR _ _ _)
   ·
    refine zA<|zJ ?_
    exact zkd () (show k≤(Big.digs a).length∧(Big.digs a).drop k=(Big.digs b).drop k from by exact ⟨by omega,Big.drop_more (by omega) (by omega) hI.2 (Decidable.not_not.1 hne)⟩) (ho:=((.of [0,0,0,0] rfl):PickO _ _ _)) ((.of [1,2,3] rfl):SelR _ _ _)
  ·
   rintro D14 ⟨⟩ hI
   replace hI:0≤(Big.digs a).length∧(Big.digs a).drop 0=(Big.digs b).drop 0:=hI
   try dsimp only
   have heq:(Big.digs a)=(Big.digs b):=by simpa using hI.2
   have hab:=Big.cmp_eq heq
   refine zJ<|ze<|zi<|zc<|zo 1 rfl rfl rfl rfl rfl sz3 rfl (.take .nil) (.s .z)<|zj<|ze<|zI<|zDd 0 rfl rfl ?_
   exact zC Try.results111 () trivial (zkb 0 ty3 rfl rfl rfl) (by rw [hab];simp [Big.cmp]) (ho:=(.n:PickO _ _ _)) (.n:SelR _ _ _)
  ·
   rintro D15 ⟨⟩ hS
   replace hS:True:=hS
   try dsimp only
   refine zaa<|zt<|zDd 0 rfl rfl ?_
   exact zC Try.results111 () trivial (zkb 0 ty3 rfl rfl rfl) rfl (ho:=(.n:PickO _ _ _)) (.n:SelR _ _ _)
theorem zUd {g:Int}:Con Try.prog 103 [.int .u32 g] [] [] (Y:=Unit) (fun y=>True) (fun y=> .bool (decide (1000000000≤g))) (fun y=>[]) (fun y=>[]):=by
 refine zr Try.func103 rfl rfl rfl (fun c=> ?_)
 show RunC _ _ _ _ _ [(0,.int .u32 g)] [] []
 refine zi<|zc<|r_pv rfl rfl (zd rfl)<|zj<|ze<|zi<|zc<|r_pv rfl rfl (zb rfl)<|r_pv rfl rfl (zya rfl rfl)<|r_pv rfl rfl (zd rfl)<|zj<|ze<|zI ?_
 exact zC Try.results103 () trivial (zq rfl) rfl (ho:=(.n:PickO _ _ _)) (.n:SelR _ _ _)
theorem znc {p:Option Addr} {n:Nat} {cap:Nat} {l:List Int} (hn:l.length=n):Con Try.prog 109 [.slice p n cap,.func (.func 103) #[] #[]] [] [slF (rI .u32) p cap l] (Y:=Int) (fun y=>(0≤y↔∃g∈l,1000000000≤g)) (fun y=> .int .i64 y) (fun y=>[]) (fun y=>[]):=by
 refine zr Try.func109 rfl rfl rfl (fun c=> ?_)
 show RunC _ _ _ _ _ [(0,.slice p n cap),(1,.func (.func 103) #[] #[])] [] [slF (rI .u32) p cap l]
 refine zca 0 rfl (fun hL0=> ?_)
 refine zi<|zc<|r_pv rfl rfl (zd rfl)<|zj<|ze<|zi<|zi<|zc<|r_pv rfl rfl (zb rfl)<|r_pv rfl rfl (zM Try.underlying41 rfl)<|r_pv rfl rfl (zb rfl)<|zj<|ze<|zz<|zma (X:=Nat) (fun x:Nat=>x≤n∧∀j,j<x→l.getD j 0<1000000000) (fun x=>[(8,.int .i64 ((x:Nat):Int)),(7,.int .i64 ((n:Nat):Int)),(0,.slice p n cap),(1,.func (.func 103) #[] #[])]) (fun x=>[]) (fun x=>[slF (rI .u32) p cap l]) (fun x:Nat=>n - x) 0 (show 0≤n∧∀j,j<0→l.getD j 0<1000000000 from by exact ⟨by omega,fun j h=>by omega⟩) ((.e rfl (by first|rfl|(congr 1;omega)|simp_all) (.of rfl)):SubM _ _) (ho:=(.n:PickO _ _ _)) ((.c (j:=0) rfl .n):SelR _ _ _) ?_
 rintro i hI
 replace hI:i≤n∧∀j,j<i→l.getD j 0<1000000000:=hI
 try dsimp only
 obtain ⟨hi,hall⟩:=hI
 refine zi<|zc<|r_pv rfl rfl (zW rfl rfl)<|zj<|ze<|zi<|zD rfl (fun h1=> ?_) (fun h1=> ?_)
 ·
  refine zA<|ze<|zi<|zz<|zi<|zc<|r_pv rfl rfl (zb rfl)<|r_pv rfl rfl (zd rfl)<|zj<|ze<|zi<|zc<|r_pv rfl rfl (zb rfl)<|r_pv rfl rfl (zb rfl)<|r_pv rfl rfl (zb rfl)<|zQ (x0:=(l.getD i 0)) 0 i rfl Try.underlying41 sz101 rfl rfl rfl (by first|rfl|assumption|(simp_all;done)|omega) rfl rfl (gD (d:=0) (by omega)) (fun b2 o3 hok4=> ?_)
  replace hok4:=zw.1 hok4
  refine r_u rfl rfl (zl (j:=0) 0 ty101 rfl rfl rfl rfl)<|zeb (first:=[]) (cap:=[]) rfl rfl rfl (.c rfl .n) ce103 (zUd (g:=(l.getD i 0))) (.n) ?_
  rintro ⟨⟩ -
  dsimp only [List.append_eq,List.nil_append,List.cons_append]
  refine zj<|ze<|zD rfl (fun hb=> ?_) (fun hb=> ?_)
  ·
   refine zi<|zc<|r_pv rfl rfl (zb rfl)<|r_pv rfl rfl (zd rfl)<|zj<|ze<|zI<|zaa<|zt<|zt<|zaa<|zt ?_
   exact zC Try.results109 ((i:Nat):Int) (⟨fun _=>⟨l.getD i 0,Big.getD_mem (by omega),hb⟩,fun _=>by omega⟩) (zq rfl) rfl (ho:=(.n:PickO _ _ _)) (.n:SelR _ _ _)
  ·
   refine zA<|zJ<|ze<|zc<|r_pv rfl rfl (zy (z:=(((i+1):Nat):Int)) rfl rfl (w64 (by omega)))<|r_pv rfl rfl (zb rfl)<|zj<|zba (i+1) (show (i+1)≤n∧∀j,j<(i+1)→l.getD j 0<1000000000 from by refine ⟨by omega,fun j hj=> ?_⟩;by_cases e:j=i;subst e;omega;exact hall j (by omega)) (by show n - (i+1)<n - i;omega) ((.of rfl):SubM _ _) (ho:=(.n:PickO _ _ _)) ((.c (j:=1) rfl .n):SelR _ _ _)
 ·
  refine zfa<|zm<|zm<|zv<|ze<|zi<|zc<|r_pv rfl rfl (zd rfl)<|zj<|ze<|zI ?_
  exact zC Try.results109 (-1) (⟨fun h=>by omega,fun ⟨g,hg,hb⟩=>by obtain ⟨j,hj,e⟩:=Big.mem_getD hg;have:=hall j (by omega);omega⟩) (zq rfl) rfl (ho:=(.n:PickO _ _ _)) (.n:SelR _ _ _)
theorem zMb {p:Option Addr} {n:Nat} {cap:Nat} {l:List Int} (hn:l.length=n):Con Try.prog 102 [.slice p n cap,.func (.func 103) #[] #[]] [] [slF (rI .u32) p cap l] (Y:=Unit) (fun y=>True) (fun y=> .bool (decide (∃g∈l,1000000000≤g))) (fun y=>[]) (fun y=>[]):=by
 refine zr Try.func102 rfl rfl rfl (fun c=> ?_)
 show RunC _ _ _ _ _ [(0,.slice p n cap),(1,.func (.func 103) #[] #[])] [] [slF (rI .u32) p cap l]
 refine zca 0 rfl (fun hL0=> ?_)
 refine zi<|zc<|r_pv rfl rfl (zd rfl)<|zj<|ze<|zi<|zc<|r_pv rfl rfl (zb rfl)<|r_pv rfl rfl (zb rfl)<|zB rfl rfl (.c rfl (.c rfl .n)) ce109 (znc (p:=p) (n:=n) (cap:=cap) (l:=l) (hn:=by assumption)) (.c (j:=0) rfl .n) ?_
 rintro r1 hr
 dsimp only [List.append_eq,List.nil_append,List.cons_append]
 replace hr:(0≤r1↔∃g∈l,1000000000≤g):=hr
 refine r_pv rfl rfl (zya rfl rfl)<|r_pv rfl rfl (zd rfl)<|zj<|ze<|zI ?_
 exact zC Try.results102 () trivial (zq rfl) (congrArg Value.bool (decide_eq_decide.2 hr.symm)) (ho:=(.n:PickO _ _ _)) (.n:SelR _ _ _)
theorem zdd {s:Bool} {p:Option Addr} {n:Nat} {cap:Nat} {l:List Int} (hn:l.length=n):Con Try.prog 96 [.agg #[.bool s,.slice p n cap]] [] [slF (rI .u32) p cap l] (Y:=Unit) (fun y=>True) (fun y=> .bool (decide (Big.canon s l))) (fun y=>[]) (fun y=>[]):=by
 refine zr Try.func96 rfl rfl rfl (fun c=> ?_)
 show RunC _ _ _ _ _ [(0,.agg #[.bool s,.slice p n cap])] [] [slF (rI .u32) p cap l]
 refine zca 0 rfl (fun hL0=> ?_)
 refine zi<|zc<|zS rfl rfl (zX rfl rfl) (fun b1=> ?_)
 refine r_pv rfl rfl (zd rfl)<|zj<|ze<|zi<|zc<|r_pv rfl rfl (zg Try.underlying43 rfl sz41 rfl rfl)<|r_u rfl rfl (zf 0 ty41 rfl rfl rfl)<|r_pv rfl rfl (zM Try.underlying41 rfl)<|r_pv rfl rfl (zd rfl)<|zj<|ze<|zi<|zi<|zc<|r_pv rfl rfl (zb rfl)<|r_pv rfl rfl (zua rfl rfl)<|zj<|ze<|zD rfl (fun h0=> ?_) (fun h0=> ?_)
 ·
  refine zi<|zc<|r_pv rfl rfl (zg Try.underlying43 rfl sz4 rfl rfl)<|r_u rfl rfl (zf 0 ty4 rfl rfl rfl)<|r_pv rfl rfl (zCb rfl)<|r_pv rfl rfl (zd rfl)<|zj<|ze<|zI<|zt ?_
  exact zC Try.results96 () trivial (zq rfl) (congrArg Value.bool (by have:l.length=0:=(by omega);cases s <;> simp [Big.canon,this])) (ho:=(.n:PickO _ _ _)) (.n:SelR _ _ _)
 ·
  refine zA<|ze<|zFa (X:=Unit) (fun x=>True) (fun x=>[(2,.bool (decide (((l.getD ((((n:Nat):Int) - 1).toNat) 0)≠0)∧(¬(∃g∈l,1000000000≤g)))))]) (fun x=>[boxA b1 43 [.bool s,.slice p n cap]]) (fun x=>[slF (rI .u32) p cap l]) ?_ ?_
  ·
   refine zc<|r_pv rfl rfl (zg Try.underlying43 rfl sz41 rfl rfl)<|r_u rfl rfl (zf 0 ty41 rfl rfl rfl)<|r_pv rfl rfl (zb rfl)<|r_pv rfl rfl (zda (z:=(((n:Nat):Int) - 1)) rfl rfl (w64 (by omega)))<|zQ (x0:=(l.getD ((((n:Nat):Int) - 1).toNat) 0)) 0 ((((n:Nat):Int) - 1).toNat) rfl Try.underlying41 sz101 rfl rfl rfl (by first|rfl|assumption|(simp_all;done)|omega) rfl (by omega) (gD (d:=0) (by omega)) (fun b2 o3 hok4=> ?_)
   replace hok4:=zw.1 hok4
   refine r_u rfl rfl (zl (j:=0) 0 ty101 rfl rfl rfl rfl)<|r_pv rfl rfl (zIa rfl rfl)<|zP rfl rfl (zb rfl) (fun h5=> ?_) (fun h5=> ?_)
   ·
    refine r_pv rfl rfl (zg Try.underlying43 rfl sz41 rfl rfl)<|r_u rfl rfl (zf 0 ty41 rfl rfl rfl)<|zO rfl rfl (.c rfl (.c rfl .n)) ce102 (zMb (p:=p) (n:=n) (cap:=cap) (l:=l) (hn:=by assumption)) (.c (j:=1) rfl .n)<|r_pv rfl rfl (zjb rfl)<|r_pv rfl rfl (zk rfl rfl)<|r_pv rfl rfl (zd rfl)<|zj ?_
    exact zZ () (show True from by first|trivial|omega|simp_all) ((.e rfl (congrArg Value.bool (by simp_all)) .n):SubM _ _) (ho:=((.c (i:=0) rfl .n):PickO _ _ _)) ((.c (j:=1) rfl .n):SelR _ _ _)
   ·
    refine za rfl rfl<|za rfl rfl<|za rfl rfl<|za rfl rfl<|r_pv rfl rfl (zk rfl rfl)<|r_pv rfl rfl (zd rfl)<|zj ?_
    exact zZ () (show True from by first|trivial|omega|simp_all) ((.e rfl (congrArg Value.bool (by simp_all)) .n):SubM _ _) (ho:=((.c (i:=0) rfl .n):PickO _ _ _)) ((.c (j:=1) rfl .n):SelR _ _ _)
  ·
   rintro ⟨⟩ -
   try dsimp only
   refine zI ?_
   exact zC Try.results96 () trivial (zq rfl) (congrArg Value.bool (decide_eq_decide.2 (by rw [Big.canon_more (by omega),hn];have e:((n:Int) - 1).toNat=n - 1:=(by omega);simp [e]))) (ho:=(.n:PickO _ _ _)) (.n:SelR _ _ _)
theorem zVd {z:Int} {p:Option Addr} {cap:Nat}:Con Try.prog 96 [.agg #[.bool (decide ((z)<0)),.slice (p) ((Big.digs ((z).natAbs)).length) (cap)]] [] [slF (rI .u32) (p) (cap) (Big.digs ((z).natAbs))] (Y:=Unit) (fun y=>True) (fun y=> .bool true) (fun y=>[]) (fun y=>[]):=by
  have h:= @zdd (decide ((z)<0)) p (Big.digs (z).natAbs).length cap (Big.digs (z).natAbs) rfl
  rw [decide_eq_true (Big.canon_digs z)] at h
  exact h
theorem zWd {w1:Wd} {x1:Int}:Con Try.prog 96 [.agg #[w1.b,w1.l]] [] [zF w1 (x1)] (Y:=Unit) (fun y=>True) (fun y=> .bool true) (fun y=>[]) (fun y=>[]):=by
  exact zSc (fun p c=>zVd)
theorem zgb {s:Bool} {p:Option Addr} {n:Nat} {cap:Nat} {l:List Int} (hn:l.length=n):Con Try.prog 97 [.agg #[.bool s,.slice p n cap]] [] [slF (rI .u32) p cap l] (Y:=(Option Addr)×Nat) (fun y=>True) (fun y=> .slice (y.1) ((Big.digs ((Big.raw s l).natAbs)).length) (y.2)) (fun y=>[]) (fun y=>[slF (rI .u32) (y.1) (y.2) (Big.digs ((Big.raw s l).natAbs))]):=by
 refine zr Try.func97 rfl rfl rfl (fun c=> ?_)
 show RunC _ _ _ _ _ [(0,.agg #[.bool s,.slice p n cap])] [] [slF (rI .u32) p cap l]
 refine zca 0 rfl (fun hL0=> ?_)
 refine zbb 0 rfl (fun hE0=> ?_)
 have hnn:Big.nn l:=fun g hg=>(zw.1 (hE0 g hg)).1
 refine zi<|zc<|zS rfl rfl (zX rfl rfl) (fun b1=> ?_)
 refine r_pv rfl rfl (zd rfl)<|zj<|ze<|zi<|zi<|zc<|r_u rfl rfl (zh 0 ty43 rfl rfl (.take (.take .nil)))<|zO rfl rfl (.c rfl .n) ce96 (zdd (s:=s) (p:=p) (n:=n) (cap:=cap) (l:=l) (hn:=by assumption)) (.c (j:=0) rfl .n)<|r_pv rfl rfl (zjb rfl)<|zj<|ze<|zD rfl (fun hc=> ?_) (fun hc=> ?_)
 ·
  refine zi<|zc<|r_pv rfl rfl (zd rfl)<|zj<|ze<|zI<|zt ?_
  have hd:Big.digs (Big.raw s l).natAbs=[]:=by rw [Big.raw_digs hnn,if_neg hc]
  refine zbc (rI .u32) ?_
  exact zC Try.results97 (none,0) trivial (zq rfl) (by rw [hd];rfl) (ho:=(.n:PickO _ _ _)) ((.e (j:=0) rfl (by rw [hd]) .n):SelR _ _ _)
 ·
  refine zA<|ze<|zi<|zc<|r_pv rfl rfl (zg Try.underlying43 rfl sz41 rfl rfl)<|r_u rfl rfl (zf 0 ty41 rfl rfl rfl)<|r_pv rfl rfl (zd rfl)<|zj<|ze<|zI ?_
  have hd:Big.digs (Big.raw s l).natAbs=l:=by rw [Big.raw_digs hnn,if_pos (Decidable.not_not.1 hc)]
  exact zC Try.results97 (p,cap) trivial (zq rfl) (by rw [hd,hn]) (ho:=(.n:PickO _ _ _)) ((.e (j:=0) rfl (by rw [hd]) .n):SelR _ _ _)
theorem zhc {z:Int} {p:Option Addr} {cap:Nat}:Con Try.prog 97 [.agg #[.bool (decide ((z)<0)),.slice (p) ((Big.digs ((z).natAbs)).length) (cap)]] [] [slF (rI .u32) (p) (cap) (Big.digs ((z).natAbs))] (Y:=(Option Addr)×(Nat)) (fun y=>True) (fun y=> .slice (y.1) ((Big.digs ((z).natAbs)).length) (y.2)) (fun y=>[]) (fun y=>[slF (rI .u32) (y.1) (y.2) (Big.digs ((z).natAbs))]):=by
  have h:= @zgb (decide ((z)<0)) p (Big.digs (z).natAbs).length cap (Big.digs (z).natAbs) rfl
  rw [Big.raw_big] at h
  exact h
theorem zZe {s:Bool} {p:Option Addr} {n:Nat} {cap:Nat} {l:List Int} (hn:l.length=n) (ho:Big.okL l):Con Try.prog 90 [.bool s,.slice p n cap] [] [slF (rI .u32) p cap l] (Y:=(Option Addr)×Nat) (fun y=>True) (fun y=> .agg #[.bool (decide ((Big.sg s (Big.valL l))<0)),.slice (y.1) ((Big.digs ((Big.sg s (Big.valL l)).natAbs)).length) (y.2)]) (fun y=>[]) (fun y=>[slF (rI .u32) (y.1) (y.2) (Big.digs ((Big.sg s (Big.valL l)).natAbs))]):=by
 refine zr Try.func90 rfl rfl rfl (fun c=> ?_)
 show RunC _ _ _ _ _ [(0,.bool s),(1,.slice p n cap)] [] [slF (rI .u32) p cap l]
 refine zca 0 rfl (fun hL0=> ?_)
 have htr:Big.trimL l=Big.digs (Big.sg s (Big.valL l)).natAbs:=by rw [Big.sg_abs (Big.valL_nonneg ho),Big.digs_valL ho]
 refine zi<|zc<|zS rfl rfl (zG zr43 rfl) (fun b1=> ?_)
 refine zj<|ze<|zi<|zc<|r_pv rfl rfl (zb rfl)<|zB rfl rfl (.c rfl .n) ce101 (zlb (p:=p) (n:=n) (cap:=cap) (l:=l) (hn:=by assumption)) (.c (j:=0) rfl .n) ?_
 rintro ⟨⟩ -
 dsimp only [List.append_eq,List.nil_append,List.cons_append]
 refine r_pv rfl rfl (zd rfl)<|zj<|ze<|zi<|zi<|zc<|r_pv rfl rfl (zb rfl)<|r_pv rfl rfl (zM Try.underlying41 rfl)<|r_pv rfl rfl (zua rfl rfl)<|zj<|ze<|zD rfl (fun h0=> ?_) (fun h0=> ?_)
 ·
  refine zi<|zc<|r_pv rfl rfl (zK zr43 rfl Try.underlying43 (.c sz4 (.c sz41 .n)) .n .n)<|zo 0 rfl rfl rfl rfl rfl sz43 rfl (.take (.take .nil)) .z<|zj<|ze<|zI<|zt ?_
  have hz:Big.valL l=0:=Big.trim_zero ho (by omega)
  refine zbc (rI .u32) ?_
  exact zC Try.results90 (none,0) trivial (zu 0 ty43 rfl rfl (.take (.take .nil))) (by rw [hz,Big.sg_zero];rfl) (ho:=(.n:PickO _ _ _)) ((.e (j:=0) rfl (by rw [hz,Big.sg_zero];rfl) .n):SelR _ _ _)
 ·
  refine zA<|ze<|zi<|zc<|r_pv rfl rfl (zb rfl)<|r_pv rfl rfl (zb rfl)<|r_pv rfl rfl (zK zr43 rfl Try.underlying43 (.c sz4 (.c sz41 .n)) (.c rfl (.c rfl .n)) (.c rfl rfl rfl (.take .nil) (.c rfl rfl rfl (.skip (.take .nil)) .n)))<|zo 0 rfl rfl rfl rfl rfl sz43 rfl (.take (.take .nil)) .z<|zj<|ze<|zI ?_
  have hp:0<Big.valL l:=Big.valL_pos ho (fun e=>h0 (by rw [e];rfl))
  exact zC Try.results90 (p,cap) trivial (zu 0 ty43 rfl rfl (.take (.take .nil))) (by rw [Big.sg_pos hp,htr]) (ho:=(.n:PickO _ _ _)) ((.e (j:=0) rfl (by rw [htr]) .n):SelR _ _ _)
theorem zDa {s:Bool} {a:Nat} {p:Option Addr} {cap:Nat}:Con Try.prog 90 [.bool (s),.slice (p) ((Big.digs (a)).length) (cap)] [] [slF (rI .u32) (p) (cap) (Big.digs (a))] (Y:=(Option Addr)×(Nat)) (fun y=>True) (fun y=> .agg #[.bool (decide ((Big.sg s (a:Int))<0)),.slice (y.1) ((Big.digs ((Big.sg s (a:Int)).natAbs)).length) (y.2)]) (fun y=>[]) (fun y=>[slF (rI .u32) (y.1) (y.2) (Big.digs ((Big.sg s (a:Int)).natAbs))]):=by
  have h:= @zZe s p (Big.digs a).length cap (Big.digs a) rfl (Big.digs_ok a)
  rw [Big.valL_digs] at h
  exact h
theorem zhb {n0:Nat} (hn0:n0<18446744073709551616):Con Try.prog 91 [.int .u64 ((n0:Nat):Int)] [] [] (Y:=(Option Addr)×Nat) (fun y=>True) (fun y=> .slice (y.1) ((Big.digs n0).length) (y.2)) (fun y=>[]) (fun y=>[slF (rI .u32) (y.1) (y.2) (Big.digs n0)]):=by
 refine zr Try.func91 rfl rfl rfl (fun c=> ?_)
 show RunC _ _ _ _ _ [(0,.int .u64 ((n0:Nat):Int))] [] []
 refine zi<|zc<|r_pv rfl rfl (zd rfl)<|zj<|ze<|zi<|zc<|r_pv rfl rfl (zd rfl)<|zj<|ze<|zi<|zz<|zTe 101 (rI .u32)<|zma (X:=Nat×(Option Addr)×Nat×(List Int)) (fun x:Nat×(Option Addr)×Nat×(List Int)=>x.1≤n0∧x.2.2.2++Big.digs x.1=Big.digs n0) (fun x=>[(3,.slice (x.2.1) (x.2.2.2.length) (x.2.2.1)),(0,.int .u64 ((x.1:Nat):Int)),(2,.slice none 0 0)]) (fun x=>[rowA 101 (rI .u32) (x.2.1) (x.2.2.1) (x.2.2.2)]) (fun x=>[]) (fun x:Nat×(Option Addr)×Nat×(List Int)=>x.1) (n0,none,0,[]) (show n0≤n0∧([])++Big.digs n0=Big.digs n0 from by exact ⟨Nat.le_refl _,rfl⟩) ((.e rfl (by first|rfl|(congr 1;omega)|simp_all) (.c rfl (.c rfl .n))):SubM _ _) (ho:=((.c (i:=0) rfl .n):PickO _ _ _)) (.n:SelR _ _ _) ?_
 rintro ⟨n,p,c,os⟩ hI
 replace hI:n≤n0∧os++Big.digs n=Big.digs n0:=hI
 try dsimp only
 obtain ⟨hnn,hos⟩:=hI
 have hlen:os.length+(Big.digs n).length≤3:=by have:=congrArg List.length hos;rw [List.length_append] at this;have:=Big.zqe hn0;omega
 refine zi<|zi<|zc<|r_pv rfl rfl (zb rfl)<|r_pv rfl rfl (zwa rfl rfl)<|zj<|ze<|zD rfl (fun hc=> ?_) (fun hc=> ?_)
 ·
  refine zA<|ze<|zi<|zz<|zc<|r_pv rfl rfl (zb rfl)<|r_pv rfl rfl (zb rfl)<|r_pv rfl rfl (zHa (z:=(((n%1000000000):Nat):Int)) rfl rfl (by omega) (remN (by omega) (by omega)))<|r_pv rfl rfl (zx (z:=(((n%1000000000):Nat):Int)) rfl (by rw [Try.underlying100];rfl) Try.underlying101 (wu32 (by omega)))<|zta rfl rfl (zE (enc:=fun z:Int=>[.int .u32 z]) (ok:=InK .u32) (h1:=fun _=>rfl) (h2:=fun _=>rfl) (k:=1) Try.underlying41 inf101 rfl (by decide) (by decide) (by decide) (.c (x:=(((n%1000000000):Nat):Int)) rfl rfl (fun _ _=>by exact zw.2 (by omega)) .n)) (fun b1 _=> ?_)
  refine zea 0 rfl .z<|zxa 1 rfl rfl rfl (zra 0 rfl Try.underlying41 inf101 (by decide) rfl rfl (by first|rfl|assumption|(simp_all;done)|omega) rfl (by first|rfl|assumption|(simp_all;done)|omega) (by omega) (by omega)) (fun _=>(.s .z)) ?_
  rintro ⟨p2,c3⟩ -
  dsimp only [List.append_eq,List.nil_append,List.cons_append]
  refine r_pv rfl rfl (zd rfl)<|zj<|zJ<|ze<|zc<|r_pv rfl rfl (zb rfl)<|r_pv rfl rfl (zGa (z:=(((n / 1000000000):Nat):Int)) rfl rfl (by omega) (by rw [quoN (z:=(((n / 1000000000):Nat):Int)) (by omega) (by omega)];exact wu64 (by omega)))<|r_pv rfl rfl (zd rfl)<|zj<|zba ((n / 1000000000),p2,c3,os++[((n%1000000000:Nat):Int)]) (show (n / 1000000000)≤n0∧(os++[((n%1000000000:Nat):Int)])++Big.digs (n / 1000000000)=Big.digs n0 from by exact ⟨by omega,Big.split_step (by omega) hos⟩) (by show n / 1000000000<n;omega) ((.e rfl (by simp) (.c rfl (.c rfl .n))):SubM _ _) (ho:=((.e (i:=1) rfl (by first|rfl|(congr 1;omega)|simp_all) .n):PickO _ _ _)) (.n:SelR _ _ _)
 ·
  refine zfa<|zm<|zm<|zv<|ze<|zi<|zc<|r_pv rfl rfl (zb rfl)<|r_pv rfl rfl (zd rfl)<|zj<|ze<|zI ?_
  have hz:n=0:=by omega
  subst hz
  have hd:os=Big.digs n0:=by simpa [Big.digs_zero] using hos
  refine zPa 0 rfl .z ?_
  exact zC Try.results91 (p,c) trivial (zq rfl) (by rw [hd]) (ho:=(.n:PickO _ _ _)) ((.e (j:=0) rfl (by rw [hd]) .n):SelR _ _ _)
theorem con_Of {z:Int} (hz: -9223372036854775808≤z∧z≤9223372036854775807):Con Try.prog 77 [.int .i64 z] [] [] (Y:=(Option Addr)×Nat) (fun y=>True) (fun y=> .agg #[.bool (decide (z<0)),.slice (y.1) ((Big.digs ((z).natAbs)).length) (y.2)]) (fun y=>[]) (fun y=>[slF (rI .u32) (y.1) (y.2) (Big.digs ((z).natAbs))]):=by
 refine zr Try.func77 rfl rfl rfl (fun c=> ?_)
 show RunC _ _ _ _ _ [(0,.int .i64 z)] [] []
 refine zi<|zc<|zS rfl rfl (zG zr43 rfl) (fun b1=> ?_)
 refine zj<|ze<|zi<|zc<|r_pv rfl rfl (zb rfl)<|r_pv rfl rfl (zx (z:=(z%18446744073709551616)) rfl (by rw [Try.underlying3];rfl) Try.underlying100 (wu64m (by omega)))<|r_pv rfl rfl (zd rfl)<|zj<|ze<|zi<|zi<|zc<|r_pv rfl rfl (zb rfl)<|r_pv rfl rfl (zW rfl rfl)<|zj<|ze<|zD rfl (fun hs=> ?_) (fun hs=> ?_)
 ·
  refine zc<|r_pv rfl rfl (zb rfl)<|r_pv rfl rfl (zgf (z:=((z.natAbs:Nat):Int)) rfl (wu64m (by omega)))<|r_pv rfl rfl (zd rfl)<|zj<|ze<|zi<|zc<|r_pv rfl rfl (zb rfl)<|r_pv rfl rfl (zW rfl rfl)<|r_pv rfl rfl (zb rfl)<|zB rfl rfl (.c rfl .n) ce91 (zhb (n0:=z.natAbs) (hn0:=by omega)) (.n) ?_
  rintro ⟨p22,c23⟩ -
  dsimp only [List.append_eq,List.nil_append,List.cons_append]
  refine zB rfl rfl (.c rfl (.c rfl .n)) ce90 (zDa (s:=decide (z<0)) (a:=z.natAbs) (p:=p22) (cap:=c23)) (.c (j:=0) rfl .n) ?_
  rintro ⟨p24,c25⟩ -
  dsimp only [List.append_eq,List.nil_append,List.cons_append]
  refine zo 0 rfl rfl rfl rfl rfl sz43 rfl (.take (.take .nil)) .z<|zj<|ze<|zI ?_
  have hsg:Big.sg (decide (z<0)) (z.natAbs:Int)=z:=Big.sg_big z
  exact zC Try.results77 (p24,c25) trivial (zu 0 ty43 rfl rfl (.take (.take .nil))) (by rw [hsg]) (ho:=(.n:PickO _ _ _)) ((.e (j:=0) rfl (by rw [hsg]) .n):SelR _ _ _)
 ·
  have e6:((z%18446744073709551616):Int)=((z.natAbs:Nat):Int):=by omega
  rw [e6]
  refine zA<|ze<|zi<|zc<|r_pv rfl rfl (zb rfl)<|r_pv rfl rfl (zW rfl rfl)<|r_pv rfl rfl (zb rfl)<|zB rfl rfl (.c rfl .n) ce91 (zhb (n0:=z.natAbs) (hn0:=by omega)) (.n) ?_
  rintro ⟨p27,c28⟩ -
  dsimp only [List.append_eq,List.nil_append,List.cons_append]
  refine zB rfl rfl (.c rfl (.c rfl .n)) ce90 (zDa (s:=decide (z<0)) (a:=z.natAbs) (p:=p27) (cap:=c28)) (.c (j:=0) rfl .n) ?_
  rintro ⟨p29,c210⟩ -
  dsimp only [List.append_eq,List.nil_append,List.cons_append]
  refine zo 0 rfl rfl rfl rfl rfl sz43 rfl (.take (.take .nil)) .z<|zj<|ze<|zI ?_
  have hsg:Big.sg (decide (z<0)) (z.natAbs:Int)=z:=Big.sg_big z
  exact zC Try.results77 (p29,c210) trivial (zu 0 ty43 rfl rfl (.take (.take .nil))) (by rw [hsg]) (ho:=(.n:PickO _ _ _)) ((.e (j:=0) rfl (by rw [hsg]) .n):SelR _ _ _)
theorem zFe {z:Int} (hz: -9223372036854775808≤z∧z≤9223372036854775807):Con Try.prog 77 [.int .i64 (z)] [] [] (Y:=(Wd)) (fun y=>True) (fun y=> .agg #[y.b,y.l]) (fun y=>[]) (fun y=>[zF y (z)]):=by
  exact zPb (con_Of hz)
theorem zGe {a:Nat} {b:Nat} {p1:Option Addr} {c1:Nat} {p2:Option Addr} {c2:Nat} (hb1:(Big.digs a).length≤1099511627776) (hb2:(Big.digs b).length≤1099511627776) (hab:b≤a):Con Try.prog 108 [.slice p1 ((Big.digs a).length) c1,.slice p2 ((Big.digs b).length) c2] [] [slF (rI .u32) p1 c1 (Big.digs a),slF (rI .u32) p2 c2 (Big.digs b)] (Y:=(Option Addr)×Nat) (fun y=>True) (fun y=> .slice (y.1) ((Big.digs (a - b)).length) (y.2)) (fun y=>[]) (fun y=>[slF (rI .u32) (y.1) (y.2) (Big.digs (a - b))]):=by
 refine zr Try.func108 rfl rfl rfl (fun c=> ?_)
 show RunC _ _ _ _ _ [(0,.slice p1 ((Big.digs a).length) c1),(1,.slice p2 ((Big.digs b).length) c2)] [] [slF (rI .u32) p1 c1 (Big.digs a),slF (rI .u32) p2 c2 (Big.digs b)]
 refine zca 0 rfl (fun hL0=> ?_)
 refine zca 1 rfl (fun hL1=> ?_)
 refine zi<|zc<|r_pv rfl rfl (zd rfl)<|zj<|ze<|zi<|zc<|r_pv rfl rfl (zb rfl)<|r_pv rfl rfl (zM Try.underlying41 rfl)<|zta rfl rfl (zWa (r:=rI .u32) (k:=(Big.digs a).length) (x0:=0) (γ0:=()) Try.underlying41 inf101 rfl rfl rfl rfl (by omega) (by omega) rfl (fun g _=>by exact zw.2 (by decide)) (by decide)) (fun b1 _=> ?_)
 refine r_pv rfl rfl (zd rfl)<|zj<|ze<|zi<|zc<|r_pv rfl rfl (zd rfl)<|zj<|ze<|zi<|zi<|zc<|r_pv rfl rfl (zb rfl)<|r_pv rfl rfl (zM Try.underlying41 rfl)<|r_pv rfl rfl (zb rfl)<|zj<|ze<|zz<|zma (X:=Nat×(List Int)×Int) (fun x:Nat×(List Int)×Int=>x.1≤(Big.digs a).length∧x.2.1.length=x.1∧0≤x.2.2∧x.2.2≤1∧Big.okL x.2.1∧Big.valL x.2.1+Big.valL ((Big.digs b).take x.1)=Big.valL ((Big.digs a).take x.1)+Big.pw x.1*x.2.2) (fun x=>[(6,.int .u32 (x.2.2)),(14,.int .i64 ((x.1:Nat):Int)),(13,.int .i64 (((Big.digs a).length:Nat):Int)),(5,.slice (some ⟨b1,0,none⟩) ((Big.digs a).length) ((Big.digs a).length)),(4,.slice none 0 0),(0,.slice p1 ((Big.digs a).length) c1),(1,.slice p2 ((Big.digs b).length) c2)]) (fun x=>[rowA 101 (rI .u32) (some ⟨b1,0,none⟩) ((Big.digs a).length) (x.2.1++List.replicate ((Big.digs a).length - x.1) 0)]) (fun x=>[slF (rI .u32) p1 c1 (Big.digs a),slF (rI .u32) p2 c2 (Big.digs b)]) (fun x:Nat×(List Int)×Int=>(Big.digs a).length - x.1) (0,[],0) (show 0≤(Big.digs a).length∧([]).length=0∧0≤0∧0≤1∧Big.okL ([])∧Big.valL ([])+Big.valL ((Big.digs b).take 0)=Big.valL ((Big.digs a).take 0)+Big.pw 0*0 from by exact ⟨by omega,rfl,by decide,by decide,Big.okL_nil,by simp [Big.valL]⟩) ((.c rfl (.e rfl (by first|rfl|(congr 1;omega)|simp_all) (.of rfl))):SubM _ _) (ho:=((.e (i:=0) rfl (by simp) .n):PickO _ _ _)) ((.of [0,1] rfl):SelR _ _ _) ?_
 rintro ⟨i,os,bo⟩ hI
 replace hI:i≤(Big.digs a).length∧os.length=i∧0≤bo∧bo≤1∧Big.okL os∧Big.valL os+Big.valL ((Big.digs b).take i)=Big.valL ((Big.digs a).take i)+Big.pw i*bo:=hI
 try dsimp only
 obtain ⟨hi,hol,hc0,hc1,hok,hv⟩:=hI
 have hg1:=Big.okL_getD (Big.digs_ok a) i
 have hg2:=Big.okL_getD (Big.digs_ok b) i
 refine zi<|zc<|r_pv rfl rfl (zW rfl rfl)<|zj<|ze<|zi<|zD rfl (fun h2=> ?_) (fun h2=> ?_)
 ·
  refine zA<|ze<|zi<|zz<|zi<|zc<|r_pv rfl rfl (zb rfl)<|r_pv rfl rfl (zd rfl)<|zj<|ze<|zi<|zc<|r_pv rfl rfl (zb rfl)<|r_pv rfl rfl (zb rfl)<|zO rfl rfl (.c rfl (.c rfl .n)) ce114 (zKd (p:=p2) (n:=(Big.digs b).length) (cap:=c2) (l:=Big.digs b) (i:=i) (hn:=by first|rfl|assumption|omega|(simp;done)|(simp;omega)|(simp_all;done)) (hi:=by first|rfl|assumption|omega|(simp;done)|(simp;omega)|(simp_all;done))) (.c (j:=1) rfl .n)<|r_pv rfl rfl (zb rfl)<|r_pv rfl rfl (zy (z:=((Big.digs b).getD i 0+bo)) rfl rfl (wu32 (by omega)))<|r_pv rfl rfl (zd rfl)<|zj<|ze<|zi<|zc<|r_pv rfl rfl (zd rfl)<|zj<|ze<|zi<|zc<|r_pv rfl rfl (zb rfl)<|r_pv rfl rfl (zb rfl)<|zQ (x0:=((Big.digs a).getD i 0)) 0 i rfl Try.underlying41 sz101 rfl rfl rfl (by first|rfl|assumption|(simp;omega)) rfl rfl (gD (d:=0) (by omega)) (fun b3 o4 hok5=> ?_)
  replace hok5:=zw.1 hok5
  refine r_u rfl rfl (zl (j:=0) 0 ty101 rfl rfl rfl rfl)<|r_pv rfl rfl (zb rfl)<|r_pv rfl rfl (zW rfl rfl)<|zj<|ze<|zD rfl (fun hc=> ?_) (fun hc=> ?_)
  ·
   refine zc<|r_pv rfl rfl (zb rfl)<|r_pv rfl rfl (zb rfl)<|r_pv rfl rfl (zb rfl)<|r_pv rfl rfl (zb rfl)<|zQ (x0:=((Big.digs a).getD i 0)) 1 i rfl Try.underlying41 sz101 rfl rfl rfl (by first|rfl|assumption|(simp;omega)) rfl rfl (gD (d:=0) (by omega)) (fun b6 o7 hok8=> ?_)
   replace hok8:=zw.1 hok8
   refine r_u rfl rfl (zl (j:=0) 0 ty101 rfl rfl rfl rfl)<|r_pv rfl rfl (zy (z:=(((Big.digs a).getD i 0)+1000000000)) rfl rfl (wu32 (by omega)))<|r_pv rfl rfl (zb rfl)<|r_pv rfl rfl (zda (z:=((((Big.digs a).getD i 0)+1000000000) - ((Big.digs b).getD i 0+bo))) rfl rfl (wu32 (by omega)))<|r_pv rfl rfl (zN (j:=i) Try.underlying41 sz101 rfl rfl rfl (by omega))<|zxa 0 rfl rfl rfl (zR (j:=i) (x0:=((((Big.digs a).getD i 0)+1000000000) - ((Big.digs b).getD i 0+bo))) (γ0:=()) rfl rfl (by first|omega|(rw [List.length_map];omega)|(simp only [List.length_set];omega)|(simp;done)|(simp;omega)) rfl rfl sz101 (fun _ _=>by exact zw.2 (by omega))) (fun _=> .z) (fun _ _=> ?_)
   refine r_pv rfl rfl (zd rfl)<|zj<|zJ<|ze<|zc<|r_pv rfl rfl (zy (z:=(((i+1):Nat):Int)) rfl rfl (w64 (by omega)))<|r_pv rfl rfl (zb rfl)<|zj<|zba ((i+1),os++[(Big.digs a).getD i 0+1000000000 - ((Big.digs b).getD i 0+bo)],1) (show (i+1)≤(Big.digs a).length∧(os++[(Big.digs a).getD i 0+1000000000 - ((Big.digs b).getD i 0+bo)]).length=(i+1)∧0≤1∧1≤1∧Big.okL (os++[(Big.digs a).getD i 0+1000000000 - ((Big.digs b).getD i 0+bo)])∧Big.valL (os++[(Big.digs a).getD i 0+1000000000 - ((Big.digs b).getD i 0+bo)])+Big.valL ((Big.digs b).take (i+1))=Big.valL ((Big.digs a).take (i+1))+Big.pw (i+1)*1 from by exact ⟨by omega,by simp [hol],by decide,by decide,Big.okL_snoc hok (by omega) (by omega),Big.minus_step hol hv (by omega)⟩) (by show (Big.digs a).length - (i+1)<(Big.digs a).length - i;omega) ((.of rfl):SubM _ _) (ho:=((.e (i:=0) rfl (by rw [Big.set_pad hol (by omega)]) .n):PickO _ _ _)) ((.of [2,3] rfl):SelR _ _ _)
  ·
   refine zc<|r_pv rfl rfl (zb rfl)<|r_pv rfl rfl (zb rfl)<|r_pv rfl rfl (zb rfl)<|r_pv rfl rfl (zb rfl)<|zQ (x0:=((Big.digs a).getD i 0)) 1 i rfl Try.underlying41 sz101 rfl rfl rfl (by first|rfl|assumption|(simp;omega)) rfl rfl (gD (d:=0) (by omega)) (fun b9 o10 hok11=> ?_)
   replace hok11:=zw.1 hok11
   refine r_u rfl rfl (zl (j:=0) 0 ty101 rfl rfl rfl rfl)<|r_pv rfl rfl (zb rfl)<|r_pv rfl rfl (zda (z:=(((Big.digs a).getD i 0) - ((Big.digs b).getD i 0+bo))) rfl rfl (wu32 (by omega)))<|r_pv rfl rfl (zN (j:=i) Try.underlying41 sz101 rfl rfl rfl (by omega))<|zxa 0 rfl rfl rfl (zR (j:=i) (x0:=(((Big.digs a).getD i 0) - ((Big.digs b).getD i 0+bo))) (γ0:=()) rfl rfl (by first|omega|(rw [List.length_map];omega)|(simp only [List.length_set];omega)|(simp;done)|(simp;omega)) rfl rfl sz101 (fun _ _=>by exact zw.2 (by omega))) (fun _=> .z) (fun _ _=> ?_)
   refine zj<|zJ<|ze<|zc<|r_pv rfl rfl (zy (z:=(((i+1):Nat):Int)) rfl rfl (w64 (by omega)))<|r_pv rfl rfl (zb rfl)<|zj<|zba ((i+1),os++[(Big.digs a).getD i 0 - ((Big.digs b).getD i 0+bo)],0) (show (i+1)≤(Big.digs a).length∧(os++[(Big.digs a).getD i 0 - ((Big.digs b).getD i 0+bo)]).length=(i+1)∧0≤0∧0≤1∧Big.okL (os++[(Big.digs a).getD i 0 - ((Big.digs b).getD i 0+bo)])∧Big.valL (os++[(Big.digs a).getD i 0 - ((Big.digs b).getD i 0+bo)])+Big.valL ((Big.digs b).take (i+1))=Big.valL ((Big.digs a).take (i+1))+Big.pw (i+1)*0 from by exact ⟨by omega,by simp [hol],by decide,by decide,Big.okL_snoc hok (by omega) (by omega),Big.minus_step hol hv (by omega)⟩) (by show (Big.digs a).length - (i+1)<(Big.digs a).length - i;omega) ((.of rfl):SubM _ _) (ho:=((.e (i:=0) rfl (by rw [Big.set_pad hol (by omega)]) .n):PickO _ _ _)) ((.of [2,3] rfl):SelR _ _ _)
 ·
  have e12:os++List.replicate ((Big.digs a).length - i) 0=os:=by rw [show (Big.digs a).length - i=0 by omega];simp
  rw [e12]
  have htr:Big.trimL os=Big.digs (a - b):=Big.minus_fin hab hok hc0 hol (by omega) hv
  refine zfa<|zm<|zm<|zv<|ze<|zi<|zc<|r_pv rfl rfl (zb rfl)<|zea 0 rfl .z<|zB rfl rfl (.c rfl .n) ce101 (zlb (p:=some ⟨b1,0,none⟩) (n:=(Big.digs a).length) (cap:=(Big.digs a).length) (l:=os) (hn:=by first|rfl|assumption|omega|(simp;done)|(simp;omega)|(simp_all;done))) (.c (j:=0) rfl .n) ?_
  rintro ⟨⟩ -
  dsimp only [List.append_eq,List.nil_append,List.cons_append]
  refine r_pv rfl rfl (zd rfl)<|zj<|ze<|zI ?_
  exact zC Try.results108 ((some ⟨b1,0,none⟩),((Big.digs a).length)) trivial (zq rfl) (by rw [htr]) (ho:=(.n:PickO _ _ _)) ((.e (j:=0) rfl (by rw [htr]) .n):SelR _ _ _)
theorem zHe {a:Nat} {b:Nat} {p1:Option Addr} {c1:Nat} {p2:Option Addr} {c2:Nat} (hb1:(Big.digs a).length≤1099511627776) (hb2:(Big.digs b).length≤1099511627776):Con Try.prog 118 [.slice p1 ((Big.digs a).length) c1,.slice p2 ((Big.digs b).length) c2] [] [slF (rI .u32) p1 c1 (Big.digs a),slF (rI .u32) p2 c2 (Big.digs b)] (Y:=(Option Addr)×Nat) (fun y=>True) (fun y=> .slice (y.1) ((Big.digs (a*b)).length) (y.2)) (fun y=>[]) (fun y=>[slF (rI .u32) (y.1) (y.2) (Big.digs (a*b))]):=by
 refine zr Try.func118 rfl rfl rfl (fun c=> ?_)
 show RunC _ _ _ _ _ [(0,.slice p1 ((Big.digs a).length) c1),(1,.slice p2 ((Big.digs b).length) c2)] [] [slF (rI .u32) p1 c1 (Big.digs a),slF (rI .u32) p2 c2 (Big.digs b)]
 refine zca 0 rfl (fun hL0=> ?_)
 refine zca 1 rfl (fun hL1=> ?_)
 have hoa:=Big.digs_ok a
 have hob:=Big.digs_ok b
 refine zi<|zc<|r_pv rfl rfl (zd rfl)<|zj<|ze<|zi<|zc<|r_pv rfl rfl (zb rfl)<|r_pv rfl rfl (zM Try.underlying41 rfl)<|r_pv rfl rfl (zb rfl)<|r_pv rfl rfl (zM Try.underlying41 rfl)<|r_pv rfl rfl (zy (z:=(((((Big.digs a).length)+((Big.digs b).length)):Nat):Int)) rfl rfl (w64 (by omega)))<|zta rfl rfl (zWa (r:=rI .u32) (k:=(((Big.digs a).length)+((Big.digs b).length))) (x0:=0) (γ0:=()) Try.underlying41 inf101 rfl rfl rfl rfl (by omega) (by omega) rfl (fun g _=>by exact zw.2 (by decide)) (by decide)) (fun b1 _=> ?_)
 refine r_pv rfl rfl (zd rfl)<|zj<|ze<|zi<|zi<|zc<|r_pv rfl rfl (zb rfl)<|r_pv rfl rfl (zM Try.underlying41 rfl)<|r_pv rfl rfl (zb rfl)<|zj<|ze<|zz<|zma (X:=Nat×(List Int)) (fun x:Nat×(List Int)=>x.1≤(Big.digs a).length∧x.2.length=(Big.digs a).length+(Big.digs b).length∧Big.okL x.2∧(∀k,x.1+(Big.digs b).length≤k→x.2.getD k 0=0)∧Big.valL x.2=Big.valL ((Big.digs a).take x.1)*Big.valL (Big.digs b)) (fun x=>[(20,.int .i64 ((x.1:Nat):Int)),(19,.int .i64 (((Big.digs a).length:Nat):Int)),(18,.slice p1 ((Big.digs a).length) c1),(5,.slice (some ⟨b1,0,none⟩) (((Big.digs a).length)+((Big.digs b).length)) (((Big.digs a).length)+((Big.digs b).length))),(4,.slice none 0 0),(1,.slice p2 ((Big.digs b).length) c2)]) (fun x=>[rowA 101 (rI .u32) (some ⟨b1,0,none⟩) (((Big.digs a).length)+((Big.digs b).length)) (x.2)]) (fun x=>[slF (rI .u32) p1 c1 (Big.digs a),slF (rI .u32) p2 c2 (Big.digs b)]) (fun x:Nat×(List Int)=>(Big.digs a).length - x.1) (0,List.replicate ((Big.digs a).length+(Big.digs b).length) 0) (show 0≤(Big.digs a).length∧(List.replicate ((Big.digs a).length+(Big.digs b).length) 0).length=(Big.digs a).length+(Big.digs b).length∧Big.okL (List.replicate ((Big.digs a).length+(Big.digs b).length) 0)∧(∀k,0+(Big.digs b).length≤k→(List.replicate ((Big.digs a).length+(Big.digs b).length) 0).getD k 0=0)∧Big.valL (List.replicate ((Big.digs a).length+(Big.digs b).length) 0)=Big.valL ((Big.digs a).take 0)*Big.valL (Big.digs b) from by exact ⟨by omega,by simp,Big.okL_zeros _,fun k _=>Big.getD_zeros _ k,by simp [Big.valL_zeros,Big.valL]⟩) ((.e rfl (by first|rfl|(congr 1;omega)|simp_all) (.of rfl)):SubM _ _) (ho:=((.e (i:=0) rfl (by first|rfl|(congr 1;omega)|simp_all) .n):PickO _ _ _)) ((.of [0,1] rfl):SelR _ _ _) ?_
 rintro ⟨i,os⟩ hI
 replace hI:i≤(Big.digs a).length∧os.length=(Big.digs a).length+(Big.digs b).length∧Big.okL os∧(∀k,i+(Big.digs b).length≤k→os.getD k 0=0)∧Big.valL os=Big.valL ((Big.digs a).take i)*Big.valL (Big.digs b):=hI
 try dsimp only
 obtain ⟨hi,hol,hok,hz,hv⟩:=hI
 have hg1:=Big.okL_getD hoa i
 refine zi<|zc<|r_pv rfl rfl (zW rfl rfl)<|zj<|ze<|zi<|zD rfl (fun h2=> ?_) (fun h2=> ?_)
 ·
  refine zA<|ze<|zi<|zz<|zi<|zc<|r_pv rfl rfl (zb rfl)<|zQ (x0:=((Big.digs a).getD i 0)) 0 i rfl Try.underlying41 sz101 rfl rfl rfl (by first|rfl|assumption|(simp;omega)|omega) rfl rfl (gD (d:=0) (by omega)) (fun b3 o4 hok5=> ?_)
  replace hok5:=zw.1 hok5
  refine r_u rfl rfl (zl (j:=0) 0 ty101 rfl rfl rfl rfl)<|r_pv rfl rfl (zd rfl)<|r_pv rfl rfl (zd rfl)<|zj<|ze<|zi<|zc<|r_pv rfl rfl (zd rfl)<|zj<|ze<|zi<|zi<|zc<|r_pv rfl rfl (zb rfl)<|r_pv rfl rfl (zM Try.underlying41 rfl)<|r_pv rfl rfl (zb rfl)<|zj<|ze<|zz<|zma (X:=Nat×(List Int)×Int) (fun x:Nat×(List Int)×Int=>x.1≤(Big.digs b).length∧x.2.1.length=(Big.digs a).length+(Big.digs b).length∧Big.okL x.2.1∧0≤x.2.2∧x.2.2<1000000000∧(∀k,i+(Big.digs b).length≤k→x.2.1.getD k 0=0)∧Big.valL x.2.1+Big.pw (i+x.1)*x.2.2=Big.valL ((Big.digs a).take i)*Big.valL (Big.digs b)+Big.pw i*(Big.digs a).getD i 0*Big.valL ((Big.digs b).take x.1)) (fun x=>[(8,.int .u64 (x.2.2)),(27,.int .i64 ((x.1:Nat):Int)),(26,.int .i64 (((Big.digs b).length:Nat):Int)),(25,.slice p2 ((Big.digs b).length) c2),(7,.int .u32 ((Big.digs a).getD i 0)),(6,.int .i64 ((i:Nat):Int)),(20,.int .i64 ((i:Nat):Int)),(19,.int .i64 (((Big.digs a).length:Nat):Int)),(18,.slice p1 ((Big.digs a).length) c1),(5,.slice (some ⟨b1,0,none⟩) (((Big.digs a).length)+((Big.digs b).length)) (((Big.digs a).length)+((Big.digs b).length))),(4,.slice none 0 0),(1,.slice p2 ((Big.digs b).length) c2)]) (fun x=>[rowA 101 (rI .u32) (some ⟨b1,0,none⟩) (((Big.digs a).length)+((Big.digs b).length)) (x.2.1)]) (fun x=>[atF b3 o4 [.int .u32 ((Big.digs a).getD i 0)],slF (rI .u32) p1 c1 (Big.digs a),slF (rI .u32) p2 c2 (Big.digs b)]) (fun x:Nat×(List Int)×Int=>(Big.digs b).length - x.1) (0,os,0) (show 0≤(Big.digs b).length∧os.length=(Big.digs a).length+(Big.digs b).length∧Big.okL os∧0≤0∧0<1000000000∧(∀k,i+(Big.digs b).length≤k→os.getD k 0=0)∧Big.valL os+Big.pw (i+0)*0=Big.valL ((Big.digs a).take i)*Big.valL (Big.digs b)+Big.pw i*(Big.digs a).getD i 0*Big.valL ((Big.digs b).take 0) from by exact ⟨by omega,hol,hok,by decide,by decide,hz,by rw [hv];simp [Big.valL]⟩) ((.c rfl (.e rfl (by first|rfl|(congr 1;omega)|simp_all) (.of rfl))):SubM _ _) (ho:=((.c (i:=0) rfl .n):PickO _ _ _)) ((.of [0,1,2] rfl):SelR _ _ _) ?_
  rintro ⟨j,os2,cy⟩ hJ
  replace hJ:j≤(Big.digs b).length∧os2.length=(Big.digs a).length+(Big.digs b).length∧Big.okL os2∧0≤cy∧cy<1000000000∧(∀k,i+(Big.digs b).length≤k→os2.getD k 0=0)∧Big.valL os2+Big.pw (i+j)*cy=Big.valL ((Big.digs a).take i)*Big.valL (Big.digs b)+Big.pw i*(Big.digs a).getD i 0*Big.valL ((Big.digs b).take j):=hJ
  try dsimp only
  obtain ⟨hj,hol2,hok2,hcy0,hcy1,hz2,hv2⟩:=hJ
  have hg2:=Big.okL_getD hob j
  have hg3:=Big.okL_getD hok2 (i+j)
  have hpq:=Big.mul_lim hg1 hg2
  refine zi<|zc<|r_pv rfl rfl (zW rfl rfl)<|zj<|ze<|zi<|zD rfl (fun h6=> ?_) (fun h6=> ?_)
  ·
   refine zA<|ze<|zi<|zz<|zi<|zc<|r_pv rfl rfl (zb rfl)<|zQ (x0:=((Big.digs b).getD j 0)) 2 j rfl Try.underlying41 sz101 rfl rfl rfl (by first|rfl|assumption|(simp;omega)|omega) rfl rfl (gD (d:=0) (by omega)) (fun b7 o8 hok9=> ?_)
   replace hok9:=zw.1 hok9
   refine r_u rfl rfl (zl (j:=0) 0 ty101 rfl rfl rfl rfl)<|r_pv rfl rfl (zd rfl)<|r_pv rfl rfl (zd rfl)<|zj<|ze<|zi<|zc<|r_pv rfl rfl (zb rfl)<|r_pv rfl rfl (zb rfl)<|r_pv rfl rfl (zb rfl)<|r_pv rfl rfl (zy (z:=(((i+j):Nat):Int)) rfl rfl (w64 (by omega)))<|r_pv rfl rfl (zN (j:=(i+j)) Try.underlying41 sz101 rfl rfl rfl (by omega))<|r_vl rfl rfl (zU 0 (i+j) rfl ty101 rfl rfl (gD (d:=0) (by omega)) rfl) (fun _ hok10=> ?_)
   replace hok10:=zw.1 hok10
   refine r_pv rfl rfl (zx (z:=(os2.getD (i+j) 0)) rfl (by rw [Try.underlying101];rfl) Try.underlying100 (wu64 (by omega)))<|r_pv rfl rfl (zb rfl)<|r_pv rfl rfl (zx (z:=((Big.digs a).getD i 0)) rfl (by rw [Try.underlying101];rfl) Try.underlying100 (wu64 (by omega)))<|r_pv rfl rfl (zb rfl)<|r_pv rfl rfl (zx (z:=((Big.digs b).getD j 0)) rfl (by rw [Try.underlying101];rfl) Try.underlying100 (wu64 (by omega)))<|r_pv rfl rfl (zla (z:=(((Big.digs a).getD i 0)*((Big.digs b).getD j 0))) rfl rfl (wu64 (by omega)))<|r_pv rfl rfl (zy (z:=((os2.getD (i+j) 0)+(((Big.digs a).getD i 0)*((Big.digs b).getD j 0)))) rfl rfl (wu64 (by omega)))<|r_pv rfl rfl (zb rfl)<|r_pv rfl rfl (zy (z:=(((os2.getD (i+j) 0)+(((Big.digs a).getD i 0)*((Big.digs b).getD j 0)))+cy)) rfl rfl (wu64 (by omega)))<|r_pv rfl rfl (zd rfl)<|zj<|ze<|zc<|r_pv rfl rfl (zb rfl)<|r_pv rfl rfl (zb rfl)<|r_pv rfl rfl (zb rfl)<|r_pv rfl rfl (zy (z:=(((i+j):Nat):Int)) rfl rfl (w64 (by omega)))<|r_pv rfl rfl (zb rfl)<|r_pv rfl rfl (zHa (z:=((((os2.getD (i+j) 0)+(((Big.digs a).getD i 0)*((Big.digs b).getD j 0)))+cy)%1000000000)) rfl rfl (by omega) (remN (by omega) (by omega)))<|r_pv rfl rfl (zx (z:=((((os2.getD (i+j) 0)+(((Big.digs a).getD i 0)*((Big.digs b).getD j 0)))+cy)%1000000000)) rfl (by rw [Try.underlying100];rfl) Try.underlying101 (wu32 (by omega)))<|r_pv rfl rfl (zb rfl)<|r_pv rfl rfl (zGa (z:=((((os2.getD (i+j) 0)+(((Big.digs a).getD i 0)*((Big.digs b).getD j 0)))+cy) / 1000000000)) rfl rfl (by omega) (by rw [quoN (z:=((((os2.getD (i+j) 0)+(((Big.digs a).getD i 0)*((Big.digs b).getD j 0)))+cy) / 1000000000)) (by omega) (by omega)];exact wu64 (by omega)))<|r_pv rfl rfl (zN (j:=(i+j)) Try.underlying41 sz101 rfl rfl rfl (by omega))<|zxa 0 rfl rfl rfl (zR (j:=(i+j)) (x0:=((((os2.getD (i+j) 0)+(((Big.digs a).getD i 0)*((Big.digs b).getD j 0)))+cy)%1000000000)) (γ0:=()) rfl rfl (by first|omega|(rw [List.length_map];omega)|(simp only [List.length_set];omega)|(simp;done)|(simp;omega)) rfl rfl sz101 (fun _ _=>by exact zw.2 (by omega))) (fun _=> .z) (fun _ _=> ?_)
   refine r_pv rfl rfl (zd rfl)<|zj<|zJ<|ze<|zc<|r_pv rfl rfl (zy (z:=(((j+1):Nat):Int)) rfl rfl (w64 (by omega)))<|r_pv rfl rfl (zb rfl)<|zj<|zba ((j+1),os2.set (i+j) ((os2.getD (i+j) 0+(Big.digs a).getD i 0*(Big.digs b).getD j 0+cy)%1000000000),(os2.getD (i+j) 0+(Big.digs a).getD i 0*(Big.digs b).getD j 0+cy) / 1000000000) (show (j+1)≤(Big.digs b).length∧(os2.set (i+j) ((os2.getD (i+j) 0+(Big.digs a).getD i 0*(Big.digs b).getD j 0+cy)%1000000000)).length=(Big.digs a).length+(Big.digs b).length∧Big.okL (os2.set (i+j) ((os2.getD (i+j) 0+(Big.digs a).getD i 0*(Big.digs b).getD j 0+cy)%1000000000))∧0≤((os2.getD (i+j) 0+(Big.digs a).getD i 0*(Big.digs b).getD j 0+cy) / 1000000000)∧((os2.getD (i+j) 0+(Big.digs a).getD i 0*(Big.digs b).getD j 0+cy) / 1000000000)<1000000000∧(∀k,i+(Big.digs b).length≤k→(os2.set (i+j) ((os2.getD (i+j) 0+(Big.digs a).getD i 0*(Big.digs b).getD j 0+cy)%1000000000)).getD k 0=0)∧Big.valL (os2.set (i+j) ((os2.getD (i+j) 0+(Big.digs a).getD i 0*(Big.digs b).getD j 0+cy)%1000000000))+Big.pw (i+(j+1))*((os2.getD (i+j) 0+(Big.digs a).getD i 0*(Big.digs b).getD j 0+cy) / 1000000000)=Big.valL ((Big.digs a).take i)*Big.valL (Big.digs b)+Big.pw i*(Big.digs a).getD i 0*Big.valL ((Big.digs b).take (j+1)) from by exact ⟨by omega,by simpa using hol2,Big.okL_set hok2 (by omega) (by omega),by omega,by omega,fun k hk=>by rw [Big.getD_set_ne (by omega)];exact hz2 k (by omega),Big.mul_step hv2 (by omega) (by omega)⟩) (by show (Big.digs b).length - (j+1)<(Big.digs b).length - j;omega) ((.e rfl (by first|rfl|(congr 1;omega)|simp_all) (.of rfl)):SubM _ _) (ho:=((.e (i:=0) rfl (by first|rfl|(congr 1;omega)|simp_all) .n):PickO _ _ _)) ((.of [1,2,3] rfl):SelR _ _ _)
  ·
   have hjb:j=(Big.digs b).length:=by omega
   subst hjb
   have hv3:=hv2
   refine zfa<|zm<|zm<|zv<|ze<|zc<|r_pv rfl rfl (zb rfl)<|r_pv rfl rfl (zb rfl)<|r_pv rfl rfl (zb rfl)<|r_pv rfl rfl (zM Try.underlying41 rfl)<|r_pv rfl rfl (zy (z:=(((i+((Big.digs b).length)):Nat):Int)) rfl rfl (w64 (by omega)))<|r_pv rfl rfl (zb rfl)<|r_pv rfl rfl (zx (z:=cy) rfl (by rw [Try.underlying100];rfl) Try.underlying101 (wu32 (by omega)))<|r_pv rfl rfl (zN (j:=(i+((Big.digs b).length))) Try.underlying41 sz101 rfl rfl rfl (by omega))<|zxa 0 rfl rfl rfl (zR (j:=(i+((Big.digs b).length))) (x0:=cy) (γ0:=()) rfl rfl (by first|omega|(rw [List.length_map];omega)|(simp only [List.length_set];omega)|(simp;done)|(simp;omega)) rfl rfl sz101 (fun _ _=>by exact zw.2 (by omega))) (fun _=> .z) (fun _ _=> ?_)
   refine zj<|zJ<|ze<|zc<|r_pv rfl rfl (zy (z:=(((i+1):Nat):Int)) rfl rfl (w64 (by omega)))<|r_pv rfl rfl (zb rfl)<|zj<|zba ((i+1),os2.set (i+(Big.digs b).length) cy) (show (i+1)≤(Big.digs a).length∧(os2.set (i+(Big.digs b).length) cy).length=(Big.digs a).length+(Big.digs b).length∧Big.okL (os2.set (i+(Big.digs b).length) cy)∧(∀k,(i+1)+(Big.digs b).length≤k→(os2.set (i+(Big.digs b).length) cy).getD k 0=0)∧Big.valL (os2.set (i+(Big.digs b).length) cy)=Big.valL ((Big.digs a).take (i+1))*Big.valL (Big.digs b) from by exact ⟨by omega,by simpa using hol2,Big.okL_set hok2 (by omega) (by omega),fun k hk=>by rw [Big.getD_set_ne (by omega)];exact hz2 k (by omega),Big.mul_round hv3 (by omega) (hz2 _ (Nat.le_refl _))⟩) (by show (Big.digs a).length - (i+1)<(Big.digs a).length - i;omega) ((.of rfl):SubM _ _) (ho:=((.e (i:=0) rfl (by first|rfl|(congr 1;omega)|simp_all) .n):PickO _ _ _)) ((.of [1,2] rfl):SelR _ _ _)
 ·
  have hia:i=(Big.digs a).length:=by omega
  have hfin:Big.trimL os=Big.digs (a*b):=Big.trimL_of hok (by rw [hv,hia,List.take_length,Big.valL_digs,Big.valL_digs,Int.natCast_mul])
  refine zfa<|zm<|zm<|zv<|ze<|zi<|zc<|r_pv rfl rfl (zb rfl)<|zea 0 rfl .z<|zB rfl rfl (.c rfl .n) ce101 (zlb (p:=some ⟨b1,0,none⟩) (n:=(((Big.digs a).length)+((Big.digs b).length))) (cap:=(((Big.digs a).length)+((Big.digs b).length))) (l:=os) (hn:=by first|rfl|assumption|omega|(simp;done)|(simp;omega)|(simp_all;done))) (.c (j:=0) rfl .n) ?_
  rintro ⟨⟩ -
  dsimp only [List.append_eq,List.nil_append,List.cons_append]
  refine r_pv rfl rfl (zd rfl)<|zj<|ze<|zI ?_
  exact zC Try.results118 ((some ⟨b1,0,none⟩),(((Big.digs a).length)+((Big.digs b).length))) trivial (zq rfl) (by rw [hfin]) (ho:=(.n:PickO _ _ _)) ((.e (j:=0) rfl (by rw [hfin]) .n):SelR _ _ _)
theorem zaf {s:Bool} {p:Option Addr} {n:Nat} {cap:Nat} {l:List Int} (hn:l.length=n):Con Try.prog 88 [.agg #[.bool s,.slice p n cap]] [] [slF (rI .u32) p cap l] (Y:=Unit) (fun y=>True) (fun y=> .int .i64 ((Big.raw s l).sign)) (fun y=>[]) (fun y=>[]):=by
 refine zr Try.func88 rfl rfl rfl (fun c=> ?_)
 show RunC _ _ _ _ _ [(0,.agg #[.bool s,.slice p n cap])] [] [slF (rI .u32) p cap l]
 refine zca 0 rfl (fun hL0=> ?_)
 refine zbb 0 rfl (fun hE0=> ?_)
 have hnn:Big.nn l:=fun g hg=>(zw.1 (hE0 g hg)).1
 refine zi<|zc<|zS rfl rfl (zX rfl rfl) (fun b1=> ?_)
 refine r_pv rfl rfl (zd rfl)<|zj<|ze<|zi<|zz<|zi<|zc<|r_u rfl rfl (zh 0 ty43 rfl rfl (.take (.take .nil)))<|zB rfl rfl (.c rfl .n) ce97 (zgb (s:=s) (p:=p) (n:=n) (cap:=cap) (l:=l) (hn:=by assumption)) (.c (j:=0) rfl .n) ?_
 rintro ⟨p22,c23⟩ -
 dsimp only [List.append_eq,List.nil_append,List.cons_append]
 refine r_pv rfl rfl (zM Try.underlying41 rfl)<|r_pv rfl rfl (zua rfl rfl)<|r_pv rfl rfl (zd rfl)<|zj<|ze<|zD rfl (fun h0=> ?_) (fun h0=> ?_)
 ·
  refine zi<|zc<|r_pv rfl rfl (zd rfl)<|zj<|ze<|zI<|zaa<|zt ?_
  exact zC Try.results88 () trivial (zq rfl) (by rw [show Big.raw s l=0 by have:=Big.len_digs_nil.1 (show (Big.digs (Big.raw s l).natAbs).length=0 by omega);omega];rfl) (ho:=(.n:PickO _ _ _)) (.n:SelR _ _ _)
 ·
  refine zi<|zc<|r_pv rfl rfl (zg Try.underlying43 rfl sz4 rfl rfl)<|r_u rfl rfl (zf 0 ty4 rfl rfl rfl)<|r_pv rfl rfl (zd rfl)<|zj<|ze<|zib rfl (fun hs=> ?_) (fun hs=> ?_)
  ·
   refine zi<|zc<|r_pv rfl rfl (zd rfl)<|zj<|ze<|zI<|zaa<|zt ?_
   exact zC Try.results88 () trivial (zq rfl) (by rw [Big.sign_neg hnn hs (by intro e;rw [e] at h0;exact h0 rfl)]) (ho:=(.n:PickO _ _ _)) (.n:SelR _ _ _)
  ·
   refine zA<|zJ<|ze<|zi<|zc<|r_pv rfl rfl (zd rfl)<|zj<|ze<|zI ?_
   exact zC Try.results88 () trivial (zq rfl) (by rw [Big.sign_pos hnn hs (by intro e;rw [e] at h0;exact h0 rfl)]) (ho:=(.n:PickO _ _ _)) (.n:SelR _ _ _)
theorem zIe {z:Int} {p:Option Addr} {cap:Nat}:Con Try.prog 88 [.agg #[.bool (decide ((z)<0)),.slice (p) ((Big.digs ((z).natAbs)).length) (cap)]] [] [slF (rI .u32) (p) (cap) (Big.digs ((z).natAbs))] (Y:=Unit) (fun y=>True) (fun y=> .int .i64 ((z).sign)) (fun y=>[]) (fun y=>[]):=by
  have h:= @zaf (decide ((z)<0)) p (Big.digs (z).natAbs).length cap (Big.digs (z).natAbs) rfl
  rw [Big.raw_big] at h
  exact h
theorem zed {w1:Wd} {x1:Int}:Con Try.prog 88 [.agg #[w1.b,w1.l]] [] [zF w1 (x1)] (Y:=Unit) (fun y=>True) (fun y=> .int .i64 ((x1).sign)) (fun y=>[]) (fun y=>[]):=by
  exact zSc (fun p c=>zIe)
end Go.Proofs.Ytefbbhiaalcjfaa.Sp
namespace Go.Proofs.Ytefbbhiaalcjfaa.Sp
open Go
set_option linter.unusedVariables false
set_option maxRecDepth 100000
set_option maxHeartbeats 8000000
theorem ztf {p:Option Addr} {n:Nat} {cap:Nat} {l:List Int} (hn:l.length=n) (hb:n≤2199023255552):Con Try.prog 104 [.slice p n cap] [] [slF (rI .u32) p cap l] (Y:=(Option Addr)×Nat) (fun y=>True) (fun y=> .slice (y.1) (l.length) (y.2)) (fun y=>[]) (fun y=>[slF (rI .u32) (y.1) (y.2) l]):=by
 refine zr Try.func104 rfl rfl rfl (fun c=> ?_)
 show RunC _ _ _ _ _ [(0,.slice p n cap)] [] [slF (rI .u32) p cap l]
 refine zca 0 rfl (fun hL0=> ?_)
 refine c_nil 0 rfl (fun hnil=> ?_)
 refine zi<|zc<|r_pv rfl rfl (zd rfl)<|zj<|ze<|zi<|zi<|zc<|r_pv rfl rfl (zb rfl)<|r_pv rfl rfl (zPc Try.underlying41 rfl rfl)<|zj<|ze<|zib rfl (fun h0=> ?_) (fun h0=> ?_)
 ·
  refine zi<|zc<|r_pv rfl rfl (zd rfl)<|zj<|ze<|zI<|zt ?_
  obtain rfl:l=[]:=hnil (by simpa using h0)
  refine zbc (rI .u32) ?_
  exact zC Try.results104 (none,0) trivial (zq rfl) rfl (ho:=(.n:PickO _ _ _)) ((.c (j:=0) rfl .n):SelR _ _ _)
 ·
  refine zA<|ze<|zi<|zc<|zta rfl rfl (zqa (rI .u32) Try.underlying41 inf101) (fun b1 _=> ?_)
  refine r_pv rfl rfl (zb rfl)<|zxa 0 rfl rfl rfl (zra 0 rfl Try.underlying41 inf101 (by decide) rfl rfl (by first|rfl|assumption|(simp_all;done)|omega) rfl (by first|rfl|assumption|(simp_all;done)|omega) (by first|omega|(simp;omega)) (by first|omega|(simp;omega))) (fun _=> .z) ?_
  rintro ⟨p2,c3⟩ -
  dsimp only [List.append_eq,List.nil_append,List.cons_append]
  refine r_pv rfl rfl (zd rfl)<|zj<|ze<|zI<|zPa 0 rfl .z ?_
  exact zC Try.results104 (p2,c3) trivial (zq rfl) (by simp [hn]) (ho:=(.n:PickO _ _ _)) ((.c (j:=0) rfl .n):SelR _ _ _)
theorem zGc {a:Nat} {p:Option Addr} {cap:Nat} (hb:(Big.digs (a)).length≤2199023255552):Con Try.prog 104 [.slice (p) ((Big.digs (a)).length) (cap)] [] [slF (rI .u32) (p) (cap) (Big.digs (a))] (Y:=(Option Addr)×(Nat)) (fun y=>True) (fun y=> .slice (y.1) ((Big.digs (a)).length) (y.2)) (fun y=>[]) (fun y=>[slF (rI .u32) (y.1) (y.2) (Big.digs (a))]):=by
  exact ztf rfl hb
theorem zVb {a:Nat} {p:Option Addr} {cap:Nat}:Con Try.prog 105 [.slice p ((Big.digs a).length) cap] [] [slF (rI .u32) p cap (Big.digs a)] (Y:=Unit) (fun y=>True) (fun y=> .tuple #[.int .u64 (((if (Big.digs a).length≤2 then a else 0):Nat):Int),.bool (decide ((Big.digs a).length≤2))]) (fun y=>[]) (fun y=>[]):=by
 refine zIb Try.func105 rfl rfl rfl (fun c=> ?_)
 show RunC _ _ _ _ _ [(0,.slice p ((Big.digs a).length) cap)] [] [slF (rI .u32) p cap (Big.digs a)]
 refine zca 0 rfl (fun hL0=> ?_)
 refine zi<|zc<|r_pv rfl rfl (zd rfl)<|r_pv rfl rfl (zd rfl)<|zj<|ze<|zi<|zi<|zc<|r_pv rfl rfl (zb rfl)<|r_pv rfl rfl (zM Try.underlying41 rfl)<|r_pv rfl rfl (zwa rfl rfl)<|zj<|ze<|zD rfl (fun hgt=> ?_) (fun hgt=> ?_)
 ·
  refine zi<|zc<|r_pv rfl rfl (zd rfl)<|r_pv rfl rfl (zd rfl)<|zj<|ze<|zI<|zt<|zge ?_
  exact zva Try.results105 () trivial (zq rfl) (zq rfl) (by rw [if_neg (by omega),decide_eq_false (show ¬(Big.digs a).length≤2 by omega)];rfl) (ho:=(.n:PickO _ _ _)) (.n:SelR _ _ _)
 ·
  have hle:(Big.digs a).length≤2:=by omega
  have h18:=Big.two_lt hle
  refine zA<|ze<|zi<|zc<|zS rfl rfl (zG zr100 rfl) (fun b1=> ?_)
  refine zo 0 rfl rfl rfl rfl rfl sz100 rfl (.take .nil) .z<|zj<|ze<|zi<|zi<|zc<|r_pv rfl rfl (zb rfl)<|zB rfl rfl (.c rfl .n) ce110 (zsb (p:=p) (n:=(Big.digs a).length) (cap:=cap)) (.n) ?_
  rintro b2 -
  dsimp only [List.append_eq,List.nil_append,List.cons_append]
  refine zj<|ze<|zz<|zmd (fa:=[atF b2 0 [.slice p ((Big.digs a).length) cap],slF (rI .u32) p cap (Big.digs a)]) (N:=((Big.digs a).length)) (encs:=fun k=>[.int .i64 ((k:Nat):Int),.int .u32 ((Big.digs a).getD k 0)]) rfl ce115 (back_u32 (by first|rfl|assumption|(simp_all;done)|omega)) (fun _=>rfl) rfl (X:=Int) (Y:=Unit) (fun x k=>k≤(Big.digs a).length∧x=Big.valL ((Big.digs a).drop k)∧0≤x∧x*Big.pw k≤(a:Int)) (fun y=>False) (fun x=>[boxA b1 100 [.int .u64 x]]) (fun x=>[]) (fun y=>[]) (fun y=>[]) (fun k=>[(6,.int .u32 ((Big.digs a).getD k 0)),(13,.int .u32 ((Big.digs a).getD k 0)),(12,.int .i64 ((k:Nat):Int)),(11,.func (.func 115) #[] #[.pointer (some ⟨b2,0,none⟩)]),(10,.slice p ((Big.digs a).length) cap),(4,.pointer (some ⟨b1,0,none⟩)),(9,.bool (decide (2<(((Big.digs a).length:Nat):Int)))),(8,.int .i64 (((Big.digs a).length:Nat):Int)),(7,.slice p ((Big.digs a).length) cap),(3,.bool false),(2,.int .u64 0),(0,.slice p ((Big.digs a).length) cap)]) (0:Int) (show ((Big.digs a).length)≤(Big.digs a).length∧(0:Int)=Big.valL ((Big.digs a).drop ((Big.digs a).length))∧0≤(0:Int)∧(0:Int)*Big.pw ((Big.digs a).length)≤(a:Int) from by exact ⟨Nat.le_refl _,by simp [Big.valL],Int.le_refl _,by simp⟩) (ho:=((.e (i:=0) rfl (by first|rfl|(congr 1;omega)|simp_all) .n):PickO _ _ _)) ((.of [0,1] rfl):SelR _ _ _) ?_ ?_ ?_ ?_
  ·
   intro l k O' R' Q' hP
   refine zc<|r_pv rfl rfl (zd rfl)<|zj ?_
   exact hP
  ·
   rintro l3 D4 o5 o6 z k hkN hI
   replace hI:(k+1)≤(Big.digs a).length∧z=Big.valL ((Big.digs a).drop (k+1))∧0≤z∧z*Big.pw (k+1)≤(a:Int):=hI
   try dsimp only
   obtain ⟨hk,hz,hz0,hzp⟩:=hI
   have hg:=Big.okL_getD (Big.digs_ok a) k
   have hlim:=Big.word_lim hle (show k+1≤(Big.digs a).length by omega) hz0 hzp
   refine zz<|zc<|r_u rfl rfl (zf 2 ty100 rfl rfl rfl)<|r_pv rfl rfl (zla (z:=(z*1000000000)) rfl rfl (wu64 (by omega)))<|r_pv rfl rfl (zb rfl)<|r_pv rfl rfl (zx (z:=((Big.digs a).getD k 0)) rfl (by rw [Try.underlying101];rfl) Try.underlying100 (wu64 (by omega)))<|r_pv rfl rfl (zy (z:=((z*1000000000)+((Big.digs a).getD k 0))) rfl rfl (wu64 (by omega)))<|zo 2 rfl rfl rfl rfl rfl sz100 rfl (.take .nil) (.s (.s .z))<|zj<|zJ ?_
   exact zkd (z*1000000000+(Big.digs a).getD k 0) (show k≤(Big.digs a).length∧(z*1000000000+(Big.digs a).getD k 0)=Big.valL ((Big.digs a).drop k)∧0≤(z*1000000000+(Big.digs a).getD k 0)∧(z*1000000000+(Big.digs a).getD k 0)*Big.pw k≤(a:Int) from by exact ⟨by omega,by rw [hz];exact Big.word_step k,by omega,Big.word_keep (show k+1≤(Big.digs a).length by omega) hz⟩) (ho:=((.c (i:=0) rfl (.c (i:=0) rfl (.e (i:=0) rfl (by first|rfl|(congr 1;omega)|simp_all) .n))):PickO _ _ _)) ((.of [0,1] rfl):SelR _ _ _)
  ·
   rintro D7 z hI
   replace hI:0≤(Big.digs a).length∧z=Big.valL ((Big.digs a).drop 0)∧0≤z∧z*Big.pw 0≤(a:Int):=hI
   try dsimp only
   have hz9:z=(a:Int):=by rw [hI.2.1,List.drop_zero,Big.valL_digs]
   refine zJ<|ze<|zi<|zc<|r_u rfl rfl (zf 1 ty100 rfl rfl rfl)<|r_pv rfl rfl (zd rfl)<|r_pv rfl rfl (zd rfl)<|zj<|ze<|zI<|zDd 0 rfl rfl ?_
   exact zva Try.results105 () trivial (zq rfl) (zq rfl) (by rw [if_pos hle,decide_eq_true hle,hz9]) (ho:=(.n:PickO _ _ _)) (.n:SelR _ _ _)
  ·
   intro _ _ h;exact h.elim
theorem zfd {a:Nat} {mm:Nat} {p:Option Addr} {cap:Nat} (hb:(Big.digs a).length≤1099511627776) (hm0:0<mm) (hm1:mm<4294967296):Con Try.prog 112 [.slice p ((Big.digs a).length) cap,.int .u32 ((mm:Nat):Int)] [] [slF (rI .u32) p cap (Big.digs a)] (Y:=(Option Addr)×Nat) (fun y=>True) (fun y=> .tuple #[.slice (y.1) ((Big.digs (a / mm)).length) (y.2),.int .u32 (((a%mm):Nat):Int)]) (fun y=>[]) (fun y=>[slF (rI .u32) (y.1) (y.2) (Big.digs (a / mm))]):=by
 refine zIb Try.func112 rfl rfl rfl (fun c=> ?_)
 show RunC _ _ _ _ _ [(0,.slice p ((Big.digs a).length) cap),(1,.int .u32 ((mm:Nat):Int))] [] [slF (rI .u32) p cap (Big.digs a)]
 refine zca 0 rfl (fun hL0=> ?_)
 refine zi<|zc<|zS rfl rfl (zX rfl rfl) (fun b1=> ?_)
 refine zS rfl rfl (zG zr41 rfl) (fun b2=> ?_)
 refine r_pv rfl rfl (zd rfl)<|zj<|ze<|zi<|zc<|r_pv rfl rfl (zb rfl)<|r_pv rfl rfl (zM Try.underlying41 rfl)<|zta rfl rfl (zWa (r:=rI .u32) (k:=(Big.digs a).length) (x0:=0) (γ0:=()) Try.underlying41 inf101 rfl rfl rfl rfl (by omega) (by omega) rfl (fun g _=>by exact zw.2 (by decide)) (by decide)) (fun b3 _=> ?_)
 refine zo 1 rfl rfl rfl rfl rfl sz41 rfl (.take .nil) (.s .z)<|zj<|ze<|zi<|zc<|zS rfl rfl (zG zr100 rfl) (fun b4=> ?_)
 refine zo 0 rfl rfl rfl rfl rfl sz100 rfl (.take .nil) .z<|zj<|ze<|zi<|zi<|zc<|r_pv rfl rfl (zb rfl)<|zB rfl rfl (.c rfl .n) ce110 (zsb (p:=p) (n:=(Big.digs a).length) (cap:=cap)) (.n) ?_
 rintro b5 -
 dsimp only [List.append_eq,List.nil_append,List.cons_append]
 refine zj<|ze<|zz<|zmd (fa:=[atF b5 0 [.slice p ((Big.digs a).length) cap],slF (rI .u32) p cap (Big.digs a)]) (N:=((Big.digs a).length)) (encs:=fun k=>[.int .i64 ((k:Nat):Int),.int .u32 ((Big.digs a).getD k 0)]) rfl ce115 (back_u32 (by first|rfl|assumption|(simp;done)|omega)) (fun _=>rfl) rfl (X:=(List Int)×(List Int)×Int) (Y:=Unit) (fun x k=>x.1=List.replicate k 0++x.2.1∧Big.ShI (Big.digs a) (mm:Int) k x.2.1 x.2.2) (fun y=>False) (fun x=>[boxA b4 100 [.int .u64 (x.2.2)],rowA 101 (rI .u32) (some ⟨b3,0,none⟩) ((Big.digs a).length) (x.1),boxA b2 41 [.slice (some ⟨b3,0,none⟩) ((Big.digs a).length) ((Big.digs a).length)],boxA b1 101 [.int .u32 ((mm:Nat):Int)]]) (fun x=>[]) (fun y=>[]) (fun y=>[]) (fun k=>[(8,.int .u32 ((Big.digs a).getD k 0)),(7,.int .i64 ((k:Nat):Int)),(16,.int .u32 ((Big.digs a).getD k 0)),(15,.int .i64 ((k:Nat):Int)),(14,.func (.func 115) #[] #[.pointer (some ⟨b5,0,none⟩)]),(13,.slice p ((Big.digs a).length) cap),(6,.pointer (some ⟨b4,0,none⟩)),(12,.slice (some ⟨b3,0,none⟩) ((Big.digs a).length) ((Big.digs a).length)),(11,.int .i64 (((Big.digs a).length:Nat):Int)),(10,.slice p ((Big.digs a).length) cap),(5,.int .u32 0),(4,.pointer (some ⟨b2,0,none⟩)),(3,.pointer (some ⟨b1,0,none⟩)),(0,.slice p ((Big.digs a).length) cap),(1,.int .u32 ((mm:Nat):Int))]) ((List.replicate (Big.digs a).length 0),([]:List Int),(0:Int)) (show (List.replicate (Big.digs a).length 0)=List.replicate ((Big.digs a).length) 0++([]:List Int)∧Big.ShI (Big.digs a) (mm:Int) ((Big.digs a).length) ([]:List Int) (0:Int) from by exact ⟨by simp,Big.ShI.start (by omega)⟩) (ho:=((.e (i:=0) rfl (by first|rfl|(congr 1;omega)|simp_all) (.e (i:=0) rfl (by first|rfl|(congr 1;omega)|simp_all) (.of [0,0] rfl))):PickO _ _ _)) ((.of [0,1] rfl):SelR _ _ _) ?_ ?_ ?_ ?_
 ·
  intro l k O' R' Q' hP
  refine zi<|zc<|r_pv rfl rfl (zd rfl)<|zj<|ze<|zc<|r_pv rfl rfl (zd rfl)<|zj ?_
  exact hP
 ·
  rintro l6 D7 o8 o9 ⟨os,qs,z⟩ k hkN hI
  replace hI:os=List.replicate (k+1) 0++qs∧Big.ShI (Big.digs a) (mm:Int) (k+1) qs z:=hI
  try dsimp only
  obtain ⟨hos,hS⟩:=hI
  have hz0:=hS.r0
  have hz1:=hS.r1
  have hkle:=hS.le
  have hosl:os.length=(Big.digs a).length:=by rw [hos,List.length_append,List.length_replicate,hS.len];omega
  have hg:=Big.okL_getD (Big.digs_ok a) k
  have hdg:=Big.sh_digit hz0 hz1 hg
  have hrm:=Int.emod_lt_of_pos (z*1000000000+(Big.digs a).getD k 0) (show 0<(mm:Int) by omega)
  have hrm0:=Int.emod_nonneg (z*1000000000+(Big.digs a).getD k 0) (show (mm:Int)≠0 by omega)
  refine zz<|zi<|zc<|r_u rfl rfl (zf 2 ty100 rfl rfl rfl)<|r_pv rfl rfl (zla (z:=(z*1000000000)) rfl rfl (wu64 (by omega)))<|r_pv rfl rfl (zb rfl)<|r_pv rfl rfl (zx (z:=((Big.digs a).getD k 0)) rfl (by rw [Try.underlying101];rfl) Try.underlying100 (wu64 (by omega)))<|r_pv rfl rfl (zy (z:=((z*1000000000)+((Big.digs a).getD k 0))) rfl rfl (wu64 (by omega)))<|r_pv rfl rfl (zd rfl)<|zj<|ze<|zza (.c (i:=3) rfl (.c (i:=2) rfl (.c (i:=0) rfl (.c (i:=0) rfl (.c (i:=0) rfl (.c (i:=0) rfl .n))))))<|zme (OW:=[rowA 101 (rI .u32) (some ⟨b3,0,none⟩) ((Big.digs a).length) os,boxA b4 100 [.int .u64 z]]) (O:=[objA l6 o8,objA D7 o9,boxA b2 41 [.slice (some ⟨b3,0,none⟩) ((Big.digs a).length) ((Big.digs a).length)],boxA b1 101 [.int .u32 ((mm:Nat):Int)]]) 12 mixed (by kernel_rfl) (by kernel_rfl)<|d_uw 0 rfl rfl (by kernel_rfl) (by kernel_rfl) (by kernel_rfl) rfl rfl (zf 4 ty41 rfl rfl rfl)<|d_pv 1 rfl rfl (by kernel_rfl) (by kernel_rfl) rfl rfl (zb rfl)<|d_pv 2 rfl rfl (by kernel_rfl) (by kernel_rfl) rfl rfl (zb rfl)<|d_uw 3 rfl rfl (by kernel_rfl) (by kernel_rfl) (by kernel_rfl) rfl rfl (zf 5 ty101 rfl rfl rfl)<|d_pv 4 rfl rfl (by kernel_rfl) (by kernel_rfl) rfl rfl (zx (z:=((mm:Nat):Int)) rfl (by rw [Try.underlying101];rfl) Try.underlying100 (wu64 (by omega)))<|d_pv 5 rfl rfl (by kernel_rfl) (by kernel_rfl) rfl rfl (zGa (z:=(((z*1000000000)+((Big.digs a).getD k 0)) / ((mm:Nat):Int))) rfl rfl (by omega) (by rw [quoN (z:=(((z*1000000000)+((Big.digs a).getD k 0)) / ((mm:Nat):Int))) (by omega) (by omega)];exact wu64 (by omega)))<|d_pv 6 rfl rfl (by kernel_rfl) (by kernel_rfl) rfl rfl (zx (z:=(((z*1000000000)+((Big.digs a).getD k 0)) / ((mm:Nat):Int))) rfl (by rw [Try.underlying100];rfl) Try.underlying101 (wu32 (by omega)))<|d_pv 7 rfl rfl (by kernel_rfl) (by kernel_rfl) rfl rfl (zb rfl)<|d_u 8 rfl rfl (by kernel_rfl) (by kernel_rfl) rfl rfl (zf 3 ty101 rfl rfl rfl)<|d_pv 9 rfl rfl (by kernel_rfl) (by kernel_rfl) rfl rfl (zx (z:=((mm:Nat):Int)) rfl (by rw [Try.underlying101];rfl) Try.underlying100 (wu64 (by omega)))<|d_pv 10 rfl rfl (by kernel_rfl) (by kernel_rfl) rfl rfl (zHa (z:=(((z*1000000000)+((Big.digs a).getD k 0))%((mm:Nat):Int))) rfl rfl (by omega) (remN (by omega) (by omega)))<|d_pv 11 rfl rfl (by kernel_rfl) (by kernel_rfl) rfl rfl (zN (j:=k) Try.underlying41 sz101 rfl rfl rfl (by omega))<|zV 12 (by kernel_rfl) (zRe (A':=fun _=>rowA 101 (rI .u32) (some ⟨b3,0,none⟩) ((Big.digs a).length) (os.set k (((z*1000000000)+((Big.digs a).getD k 0)) / ((mm:Nat):Int)))) (by kernel_rfl) rfl rfl rfl (zR (j:=k) (x0:=(((z*1000000000)+((Big.digs a).getD k 0)) / ((mm:Nat):Int))) (γ0:=()) rfl rfl (by first|omega|(rw [List.length_map];omega)|(simp only [List.length_set];omega)|(simp;done)|(simp;omega)) rfl rfl sz101 (fun _ _=>by exact zw.2 (by omega))) (fun _ _=> ?_))
  refine zMa (zna (i:=1) rfl)<|zV 13 (by kernel_rfl) (zL (by kernel_rfl) rfl rfl rfl rfl rfl sz100 rfl (.take .nil) ?_)
  refine zne (by kernel_rfl)<|zJ ?_
  exact zkd ((os.set k (((z*1000000000)+((Big.digs a).getD k 0)) / ((mm:Nat):Int))),((z*1000000000+(Big.digs a).getD k 0) / (mm:Int) :: qs),((z*1000000000+(Big.digs a).getD k 0)%(mm:Int))) (show (os.set k (((z*1000000000)+((Big.digs a).getD k 0)) / ((mm:Nat):Int)))=List.replicate k 0++((z*1000000000+(Big.digs a).getD k 0) / (mm:Int) :: qs)∧Big.ShI (Big.digs a) (mm:Int) k ((z*1000000000+(Big.digs a).getD k 0) / (mm:Int) :: qs) ((z*1000000000+(Big.digs a).getD k 0)%(mm:Int)) from by exact ⟨by rw [hos];exact Big.pad_set _,hS.step (Big.digs_ok a)⟩) (ho:=((.c (i:=2) rfl (.c (i:=2) rfl (.e (i:=0) rfl (by first|rfl|(congr 1;omega)|simp_all) (.of [0,0,0] rfl)))):PickO _ _ _)) ((.of [0,1] rfl):SelR _ _ _)
 ·
  rintro D10 ⟨os,qs,z⟩ hI
  replace hI:os=List.replicate 0 0++qs∧Big.ShI (Big.digs a) (mm:Int) 0 qs z:=hI
  try dsimp only
  obtain ⟨hos,hS⟩:=hI
  obtain ⟨hf1,hf2⟩:=hS.fin
  have hoq:os=qs:=by simpa using hos
  have htr:Big.trimL os=Big.digs (a / mm):=by rw [hoq];exact hf1
  have hosl:os.length=(Big.digs a).length:=by rw [hoq,hS.len];omega
  have hzr:=hS.r1
  have hzr0:=hS.r0
  refine zJ<|ze<|zi<|zza (.c (i:=3) rfl (.c (i:=0) rfl (.c (i:=0) rfl (.c (i:=0) rfl (.c (i:=0) rfl .n)))))<|zme (OW:=[boxA b2 41 [.slice (some ⟨b3,0,none⟩) ((Big.digs a).length) ((Big.digs a).length)]]) (O:=[objA D10 (.deferred (some [])),boxA b4 100 [.int .u64 z],rowA 101 (rI .u32) (some ⟨b3,0,none⟩) ((Big.digs a).length) os,boxA b1 101 [.int .u32 ((mm:Nat):Int)]]) 4 mixed (by kernel_rfl) (by kernel_rfl)<|d_uw 0 rfl rfl (by kernel_rfl) (by kernel_rfl) (by kernel_rfl) rfl rfl (zf 0 ty41 rfl rfl rfl)<|d_u 2 rfl rfl (by kernel_rfl) (by kernel_rfl) rfl rfl (zf 1 ty100 rfl rfl rfl)<|d_pv 3 rfl rfl (by kernel_rfl) (by kernel_rfl) rfl rfl (zx (z:=z) rfl (by rw [Try.underlying100];rfl) Try.underlying101 (wu32 (by omega)))<|zSe 2 rfl (.s (.s .z))<|zV 1 (by kernel_rfl) (zT rfl rfl rfl rfl (.c rfl .n) ce101 (zlb (p:=some ⟨b3,0,none⟩) (n:=(Big.digs a).length) (cap:=(Big.digs a).length) (l:=os) (hn:=by first|rfl|assumption|omega|(simp;done)|(simp;omega)|(simp_all;done))) (.c (j:=0) rfl .n) ?_)
  rintro ⟨⟩ -
  dsimp only [List.append_eq,List.nil_append,List.cons_append]
  refine zV 4 (by kernel_rfl) (zL (by kernel_rfl) rfl rfl rfl rfl rfl sz41 rfl (.take .nil) ?_)
  refine d_pv 5 rfl rfl (by kernel_rfl) (by kernel_rfl) rfl rfl (zd rfl)<|zne (by kernel_rfl)<|ze<|zI<|zDd 1 rfl rfl ?_
  exact zva Try.results112 ((some ⟨b3,0,none⟩),((Big.digs a).length)) trivial (zkb 0 ty41 rfl rfl rfl) (zq rfl) (by rw [htr,hf2]) (ho:=(.n:PickO _ _ _)) ((.e (j:=0) rfl (by rw [htr]) .n):SelR _ _ _)
 ·
  intro _ _ h;exact h.elim
theorem zJe {p:Option Addr} {n:Nat} {cap:Nat} {l:List Int} (hn:l.length=n):Con Try.prog 101 [.slice p n cap] [rowA 101 (rI .u32) p cap l] [] (Y:=Unit) (fun y=>True) (fun y=> .slice p ((Big.trimL l).length) cap) (fun y=>[rowA 101 (rI .u32) p cap (Big.trimL l)]) (fun y=>[]):=by
 refine zr Try.func101 rfl rfl rfl (fun c=> ?_)
 show RunC _ _ _ _ _ [(0,.slice p n cap)] [rowA 101 (rI .u32) p cap l] []
 refine zEc 0 rfl (fun hcl=> ?_)
 refine zi<|zc<|r_pv rfl rfl (zd rfl)<|zj<|ze<|zi<|zz<|zma (X:=Nat) (fun x:Nat=>x≤l.length∧Big.trimL (l.take x)=Big.trimL l) (fun x=>[(0,.slice p x cap),(2,.slice none 0 0)]) (fun x=>[rowA 101 (rI .u32) p cap l]) (fun x=>[]) (fun x:Nat=>x) n (show n≤l.length∧Big.trimL (l.take n)=Big.trimL l from by exact ⟨by omega,by rw [List.take_of_length_le (by omega)]⟩) ((.c rfl (.c rfl .n)):SubM _ _) (ho:=((.c (i:=0) rfl .n):PickO _ _ _)) (.n:SelR _ _ _) ?_
 rintro k hI
 replace hI:k≤l.length∧Big.trimL (l.take k)=Big.trimL l:=hI
 try dsimp only
 obtain ⟨hk,hT⟩:=hI
 refine zi<|zFa (X:=Unit) (fun x=>True) (fun x=>[(14,.bool (decide (0<k∧l.getD (k - 1) 0=0))),(0,.slice p k cap),(2,.slice none 0 0)]) (fun x=>[rowA 101 (rI .u32) p cap l]) (fun x=>[]) ?_ ?_
 ·
  refine zc<|r_pv rfl rfl (zb rfl)<|r_pv rfl rfl (zM Try.underlying41 rfl)<|r_pv rfl rfl (zwa rfl rfl)<|zP rfl rfl (zb rfl) (fun h1=> ?_) (fun h1=> ?_)
  ·
   refine r_pv rfl rfl (zb rfl)<|r_pv rfl rfl (zb rfl)<|r_pv rfl rfl (zM Try.underlying41 rfl)<|r_pv rfl rfl (zda (z:=(((k - 1):Nat):Int)) rfl rfl (w64 (by omega)))<|r_u rfl rfl (zDc 0 (k - 1) rfl Try.underlying41 sz101 rfl (by first|rfl|assumption|omega) rfl rfl (by omega))<|r_vl rfl rfl (zU 0 (k - 1) rfl ty101 rfl rfl (gD (d:=0) (by omega)) rfl) (fun _ hok2=> ?_)
   replace hok2:=zw.1 hok2
   refine r_pv rfl rfl (zua rfl rfl)<|r_pv rfl rfl (zk rfl rfl)<|zj ?_
   exact zZ () (show True from by first|trivial|omega|simp_all) ((.e rfl (congrArg Value.bool (by have h1:0<k:=(by omega);have h2:((k:Int) - 1).toNat=k - 1:=(by omega);simp [h1,h2])) (.c rfl (.c rfl .n))):SubM _ _) (ho:=((.c (i:=0) rfl .n):PickO _ _ _)) (.n:SelR _ _ _)
  ·
   refine za rfl rfl<|za rfl rfl<|za rfl rfl<|za rfl rfl<|za rfl rfl<|za rfl rfl<|za rfl rfl<|r_pv rfl rfl (zk rfl rfl)<|zj ?_
   exact zZ () (show True from by first|trivial|omega|simp_all) ((.e rfl (congrArg Value.bool (by have h1:¬0<k:=(by omega);simp [h1])) (.c rfl (.c rfl .n))):SubM _ _) (ho:=((.c (i:=0) rfl .n):PickO _ _ _)) (.n:SelR _ _ _)
 ·
  rintro ⟨⟩ -
  try dsimp only
  refine zD rfl (fun hc=> ?_) (fun hc=> ?_)
  ·
   refine zA<|ze<|zz<|zc<|r_pv rfl rfl (zb rfl)<|r_pv rfl rfl (zb rfl)<|r_pv rfl rfl (zM Try.underlying41 rfl)<|r_pv rfl rfl (zda (z:=(((k - 1):Nat):Int)) rfl rfl (w64 (by omega)))<|r_pv rfl rfl (zZa (hi:=(k - 1)) Try.underlying41 sz101 rfl (.s rfl) (.inr ⟨_,rfl⟩) (by omega))<|r_pv rfl rfl (zd rfl)<|zj<|zJ<|zba (k - 1) (show (k - 1)≤l.length∧Big.trimL (l.take (k - 1))=Big.trimL l from by exact ⟨by omega,by rw [← hT,Big.trim_go l hc.1 hk hc.2]⟩) (by show k - 1<k;omega) ((.e rfl (by first|rfl|(congr 1;omega)|simp_all) (.c rfl .n)):SubM _ _) (ho:=((.c (i:=0) rfl .n):PickO _ _ _)) (.n:SelR _ _ _)
  ·
   refine zfa<|zm<|zm<|zv<|ze<|zi<|zc<|r_pv rfl rfl (zb rfl)<|r_pv rfl rfl (zd rfl)<|zj<|ze<|zI ?_
   have hfin:l.take k=Big.trimL l:=by rw [← hT];exact (Big.trim_stop l hk hc).symm
   have hlk:(l.take k).length=k:=by rw [List.length_take];omega
   refine p_mem (fun w mm=>mm.rowTake 0 rfl k) ?_
   dsimp only [List.set]
   have e3:l.take k=Big.trimL l:=by exact hfin
   rw [e3]
   exact zC Try.results101 () trivial (zq rfl) (by rw [← hfin,hlk]) (ho:=((.c (i:=0) rfl .n):PickO _ _ _)) (.n:SelR _ _ _)
theorem zXd {a:Nat} {b:Nat} {p1:Option Addr} {c1:Nat} {p2:Option Addr} {c2:Nat} (hb1:(Big.digs a).length≤1099511627776) (hb2:(Big.digs b).length≤1099511627776):Con Try.prog 118 [.slice p1 ((Big.digs a).length) c1,.slice p2 ((Big.digs b).length) c2] [] [slF (rI .u32) p1 c1 (Big.digs a),slF (rI .u32) p2 c2 (Big.digs b)] (Y:=(Option Addr)×Nat) (fun y=>True) (fun y=> .slice (y.1) ((Big.digs (a*b)).length) (y.2)) (fun y=>[rowA 101 (rI .u32) (y.1) (y.2) (Big.digs (a*b))]) (fun y=>[]):=by
 refine zr Try.func118 rfl rfl rfl (fun c=> ?_)
 show RunC _ _ _ _ _ [(0,.slice p1 ((Big.digs a).length) c1),(1,.slice p2 ((Big.digs b).length) c2)] [] [slF (rI .u32) p1 c1 (Big.digs a),slF (rI .u32) p2 c2 (Big.digs b)]
 refine zca 0 rfl (fun hL0=> ?_)
 refine zca 1 rfl (fun hL1=> ?_)
 have hoa:=Big.digs_ok a
 have hob:=Big.digs_ok b
 refine zi<|zc<|r_pv rfl rfl (zd rfl)<|zj<|ze<|zi<|zc<|r_pv rfl rfl (zb rfl)<|r_pv rfl rfl (zM Try.underlying41 rfl)<|r_pv rfl rfl (zb rfl)<|r_pv rfl rfl (zM Try.underlying41 rfl)<|r_pv rfl rfl (zy (z:=(((((Big.digs a).length)+((Big.digs b).length)):Nat):Int)) rfl rfl (w64 (by omega)))<|zta rfl rfl (zWa (r:=rI .u32) (k:=(((Big.digs a).length)+((Big.digs b).length))) (x0:=0) (γ0:=()) Try.underlying41 inf101 rfl rfl rfl rfl (by omega) (by omega) rfl (fun g _=>by exact zw.2 (by decide)) (by decide)) (fun b1 _=> ?_)
 refine r_pv rfl rfl (zd rfl)<|zj<|ze<|zi<|zi<|zc<|r_pv rfl rfl (zb rfl)<|r_pv rfl rfl (zM Try.underlying41 rfl)<|r_pv rfl rfl (zb rfl)<|zj<|ze<|zz<|zma (X:=Nat×(List Int)) (fun x:Nat×(List Int)=>x.1≤(Big.digs a).length∧x.2.length=(Big.digs a).length+(Big.digs b).length∧Big.okL x.2∧(∀k,x.1+(Big.digs b).length≤k→x.2.getD k 0=0)∧Big.valL x.2=Big.valL ((Big.digs a).take x.1)*Big.valL (Big.digs b)) (fun x=>[(20,.int .i64 ((x.1:Nat):Int)),(19,.int .i64 (((Big.digs a).length:Nat):Int)),(18,.slice p1 ((Big.digs a).length) c1),(5,.slice (some ⟨b1,0,none⟩) (((Big.digs a).length)+((Big.digs b).length)) (((Big.digs a).length)+((Big.digs b).length))),(4,.slice none 0 0),(1,.slice p2 ((Big.digs b).length) c2)]) (fun x=>[rowA 101 (rI .u32) (some ⟨b1,0,none⟩) (((Big.digs a).length)+((Big.digs b).length)) (x.2)]) (fun x=>[slF (rI .u32) p1 c1 (Big.digs a),slF (rI .u32) p2 c2 (Big.digs b)]) (fun x:Nat×(List Int)=>(Big.digs a).length - x.1) (0,List.replicate ((Big.digs a).length+(Big.digs b).length) 0) (show 0≤(Big.digs a).length∧(List.replicate ((Big.digs a).length+(Big.digs b).length) 0).length=(Big.digs a).length+(Big.digs b).length∧Big.okL (List.replicate ((Big.digs a).length+(Big.digs b).length) 0)∧(∀k,0+(Big.digs b).length≤k→(List.replicate ((Big.digs a).length+(Big.digs b).length) 0).getD k 0=0)∧Big.valL (List.replicate ((Big.digs a).length+(Big.digs b).length) 0)=Big.valL ((Big.digs a).take 0)*Big.valL (Big.digs b) from by exact ⟨by omega,by simp,Big.okL_zeros _,fun k _=>Big.getD_zeros _ k,by simp [Big.valL_zeros,Big.valL]⟩) ((.e rfl (by first|rfl|(congr 1;omega)|simp_all) (.of rfl)):SubM _ _) (ho:=((.e (i:=0) rfl (by first|rfl|(congr 1;omega)|simp_all) .n):PickO _ _ _)) ((.of [0,1] rfl):SelR _ _ _) ?_
 rintro ⟨i,os⟩ hI
 replace hI:i≤(Big.digs a).length∧os.length=(Big.digs a).length+(Big.digs b).length∧Big.okL os∧(∀k,i+(Big.digs b).length≤k→os.getD k 0=0)∧Big.valL os=Big.valL ((Big.digs a).take i)*Big.valL (Big.digs b):=hI
 try dsimp only
 obtain ⟨hi,hol,hok,hz,hv⟩:=hI
 have hg1:=Big.okL_getD hoa i
 refine zi<|zc<|r_pv rfl rfl (zW rfl rfl)<|zj<|ze<|zi<|zD rfl (fun h2=> ?_) (fun h2=> ?_)
 ·
  refine zA<|ze<|zi<|zz<|zi<|zc<|r_pv rfl rfl (zb rfl)<|zQ (x0:=((Big.digs a).getD i 0)) 0 i rfl Try.underlying41 sz101 rfl rfl rfl (by first|rfl|assumption|(simp;omega)|omega) rfl rfl (gD (d:=0) (by omega)) (fun b3 o4 hok5=> ?_)
  replace hok5:=zw.1 hok5
  refine r_u rfl rfl (zl (j:=0) 0 ty101 rfl rfl rfl rfl)<|r_pv rfl rfl (zd rfl)<|r_pv rfl rfl (zd rfl)<|zj<|ze<|zi<|zc<|r_pv rfl rfl (zd rfl)<|zj<|ze<|zi<|zi<|zc<|r_pv rfl rfl (zb rfl)<|r_pv rfl rfl (zM Try.underlying41 rfl)<|r_pv rfl rfl (zb rfl)<|zj<|ze<|zz<|zma (X:=Nat×(List Int)×Int) (fun x:Nat×(List Int)×Int=>x.1≤(Big.digs b).length∧x.2.1.length=(Big.digs a).length+(Big.digs b).length∧Big.okL x.2.1∧0≤x.2.2∧x.2.2<1000000000∧(∀k,i+(Big.digs b).length≤k→x.2.1.getD k 0=0)∧Big.valL x.2.1+Big.pw (i+x.1)*x.2.2=Big.valL ((Big.digs a).take i)*Big.valL (Big.digs b)+Big.pw i*(Big.digs a).getD i 0*Big.valL ((Big.digs b).take x.1)) (fun x=>[(8,.int .u64 (x.2.2)),(27,.int .i64 ((x.1:Nat):Int)),(26,.int .i64 (((Big.digs b).length:Nat):Int)),(25,.slice p2 ((Big.digs b).length) c2),(7,.int .u32 ((Big.digs a).getD i 0)),(6,.int .i64 ((i:Nat):Int)),(20,.int .i64 ((i:Nat):Int)),(19,.int .i64 (((Big.digs a).length:Nat):Int)),(18,.slice p1 ((Big.digs a).length) c1),(5,.slice (some ⟨b1,0,none⟩) (((Big.digs a).length)+((Big.digs b).length)) (((Big.digs a).length)+((Big.digs b).length))),(4,.slice none 0 0),(1,.slice p2 ((Big.digs b).length) c2)]) (fun x=>[rowA 101 (rI .u32) (some ⟨b1,0,none⟩) (((Big.digs a).length)+((Big.digs b).length)) (x.2.1)]) (fun x=>[atF b3 o4 [.int .u32 ((Big.digs a).getD i 0)],slF (rI .u32) p1 c1 (Big.digs a),slF (rI .u32) p2 c2 (Big.digs b)]) (fun x:Nat×(List Int)×Int=>(Big.digs b).length - x.1) (0,os,0) (show 0≤(Big.digs b).length∧os.length=(Big.digs a).length+(Big.digs b).length∧Big.okL os∧0≤0∧0<1000000000∧(∀k,i+(Big.digs b).length≤k→os.getD k 0=0)∧Big.valL os+Big.pw (i+0)*0=Big.valL ((Big.digs a).take i)*Big.valL (Big.digs b)+Big.pw i*(Big.digs a).getD i 0*Big.valL ((Big.digs b).take 0) from by exact ⟨by omega,hol,hok,by decide,by decide,hz,by rw [hv];simp [Big.valL]⟩) ((.c rfl (.e rfl (by first|rfl|(congr 1;omega)|simp_all) (.of rfl))):SubM _ _) (ho:=((.c (i:=0) rfl .n):PickO _ _ _)) ((.of [0,1,2] rfl):SelR _ _ _) ?_
  rintro ⟨j,os2,cy⟩ hJ
  replace hJ:j≤(Big.digs b).length∧os2.length=(Big.digs a).length+(Big.digs b).length∧Big.okL os2∧0≤cy∧cy<1000000000∧(∀k,i+(Big.digs b).length≤k→os2.getD k 0=0)∧Big.valL os2+Big.pw (i+j)*cy=Big.valL ((Big.digs a).take i)*Big.valL (Big.digs b)+Big.pw i*(Big.digs a).getD i 0*Big.valL ((Big.digs b).take j):=hJ
  try dsimp only
  obtain ⟨hj,hol2,hok2,hcy0,hcy1,hz2,hv2⟩:=hJ
  have hg2:=Big.okL_getD hob j
  have hg3:=Big.okL_getD hok2 (i+j)
  have hpq:=Big.mul_lim hg1 hg2
  refine zi<|zc<|r_pv rfl rfl (zW rfl rfl)<|zj<|ze<|zi<|zD rfl (fun h6=> ?_) (fun h6=> ?_)
  ·
   refine zA<|ze<|zi<|zz<|zi<|zc<|r_pv rfl rfl (zb rfl)<|zQ (x0:=((Big.digs b).getD j 0)) 2 j rfl Try.underlying41 sz101 rfl rfl rfl (by first|rfl|assumption|(simp;omega)|omega) rfl rfl (gD (d:=0) (by omega)) (fun b7 o8 hok9=> ?_)
   replace hok9:=zw.1 hok9
   refine r_u rfl rfl (zl (j:=0) 0 ty101 rfl rfl rfl rfl)<|r_pv rfl rfl (zd rfl)<|r_pv rfl rfl (zd rfl)<|zj<|ze<|zi<|zc<|r_pv rfl rfl (zb rfl)<|r_pv rfl rfl (zb rfl)<|r_pv rfl rfl (zb rfl)<|r_pv rfl rfl (zy (z:=(((i+j):Nat):Int)) rfl rfl (w64 (by omega)))<|r_pv rfl rfl (zN (j:=(i+j)) Try.underlying41 sz101 rfl rfl rfl (by omega))<|r_vl rfl rfl (zU 0 (i+j) rfl ty101 rfl rfl (gD (d:=0) (by omega)) rfl) (fun _ hok10=> ?_)
   replace hok10:=zw.1 hok10
   refine r_pv rfl rfl (zx (z:=(os2.getD (i+j) 0)) rfl (by rw [Try.underlying101];rfl) Try.underlying100 (wu64 (by omega)))<|r_pv rfl rfl (zb rfl)<|r_pv rfl rfl (zx (z:=((Big.digs a).getD i 0)) rfl (by rw [Try.underlying101];rfl) Try.underlying100 (wu64 (by omega)))<|r_pv rfl rfl (zb rfl)<|r_pv rfl rfl (zx (z:=((Big.digs b).getD j 0)) rfl (by rw [Try.underlying101];rfl) Try.underlying100 (wu64 (by omega)))<|r_pv rfl rfl (zla (z:=(((Big.digs a).getD i 0)*((Big.digs b).getD j 0))) rfl rfl (wu64 (by omega)))<|r_pv rfl rfl (zy (z:=((os2.getD (i+j) 0)+(((Big.digs a).getD i 0)*((Big.digs b).getD j 0)))) rfl rfl (wu64 (by omega)))<|r_pv rfl rfl (zb rfl)<|r_pv rfl rfl (zy (z:=(((os2.getD (i+j) 0)+(((Big.digs a).getD i 0)*((Big.digs b).getD j 0)))+cy)) rfl rfl (wu64 (by omega)))<|r_pv rfl rfl (zd rfl)<|zj<|ze<|zc<|r_pv rfl rfl (zb rfl)<|r_pv rfl rfl (zb rfl)<|r_pv rfl rfl (zb rfl)<|r_pv rfl rfl (zy (z:=(((i+j):Nat):Int)) rfl rfl (w64 (by omega)))<|r_pv rfl rfl (zb rfl)<|r_pv rfl rfl (zHa (z:=((((os2.getD (i+j) 0)+(((Big.digs a).getD i 0)*((Big.digs b).getD j 0)))+cy)%1000000000)) rfl rfl (by omega) (remN (by omega) (by omega)))<|r_pv rfl rfl (zx (z:=((((os2.getD (i+j) 0)+(((Big.digs a).getD i 0)*((Big.digs b).getD j 0)))+cy)%1000000000)) rfl (by rw [Try.underlying100];rfl) Try.underlying101 (wu32 (by omega)))<|r_pv rfl rfl (zb rfl)<|r_pv rfl rfl (zGa (z:=((((os2.getD (i+j) 0)+(((Big.digs a).getD i 0)*((Big.digs b).getD j 0)))+cy) / 1000000000)) rfl rfl (by omega) (by rw [quoN (z:=((((os2.getD (i+j) 0)+(((Big.digs a).getD i 0)*((Big.digs b).getD j 0)))+cy) / 1000000000)) (by omega) (by omega)];exact wu64 (by omega)))<|r_pv rfl rfl (zN (j:=(i+j)) Try.underlying41 sz101 rfl rfl rfl (by omega))<|zxa 0 rfl rfl rfl (zR (j:=(i+j)) (x0:=((((os2.getD (i+j) 0)+(((Big.digs a).getD i 0)*((Big.digs b).getD j 0)))+cy)%1000000000)) (γ0:=()) rfl rfl (by first|omega|(rw [List.length_map];omega)|(simp only [List.length_set];omega)|(simp;done)|(simp;omega)) rfl rfl sz101 (fun _ _=>by exact zw.2 (by omega))) (fun _=> .z) (fun _ _=> ?_)
   refine r_pv rfl rfl (zd rfl)<|zj<|zJ<|ze<|zc<|r_pv rfl rfl (zy (z:=(((j+1):Nat):Int)) rfl rfl (w64 (by omega)))<|r_pv rfl rfl (zb rfl)<|zj<|zba ((j+1),os2.set (i+j) ((os2.getD (i+j) 0+(Big.digs a).getD i 0*(Big.digs b).getD j 0+cy)%1000000000),(os2.getD (i+j) 0+(Big.digs a).getD i 0*(Big.digs b).getD j 0+cy) / 1000000000) (show (j+1)≤(Big.digs b).length∧(os2.set (i+j) ((os2.getD (i+j) 0+(Big.digs a).getD i 0*(Big.digs b).getD j 0+cy)%1000000000)).length=(Big.digs a).length+(Big.digs b).length∧Big.okL (os2.set (i+j) ((os2.getD (i+j) 0+(Big.digs a).getD i 0*(Big.digs b).getD j 0+cy)%1000000000))∧0≤((os2.getD (i+j) 0+(Big.digs a).getD i 0*(Big.digs b).getD j 0+cy) / 1000000000)∧((os2.getD (i+j) 0+(Big.digs a).getD i 0*(Big.digs b).getD j 0+cy) / 1000000000)<1000000000∧(∀k,i+(Big.digs b).length≤k→(os2.set (i+j) ((os2.getD (i+j) 0+(Big.digs a).getD i 0*(Big.digs b).getD j 0+cy)%1000000000)).getD k 0=0)∧Big.valL (os2.set (i+j) ((os2.getD (i+j) 0+(Big.digs a).getD i 0*(Big.digs b).getD j 0+cy)%1000000000))+Big.pw (i+(j+1))*((os2.getD (i+j) 0+(Big.digs a).getD i 0*(Big.digs b).getD j 0+cy) / 1000000000)=Big.valL ((Big.digs a).take i)*Big.valL (Big.digs b)+Big.pw i*(Big.digs a).getD i 0*Big.valL ((Big.digs b).take (j+1)) from by exact ⟨by omega,by simpa using hol2,Big.okL_set hok2 (by omega) (by omega),by omega,by omega,fun k hk=>by rw [Big.getD_set_ne (by omega)];exact hz2 k (by omega),Big.mul_step hv2 (by omega) (by omega)⟩) (by show (Big.digs b).length - (j+1)<(Big.digs b).length - j;omega) ((.e rfl (by first|rfl|(congr 1;omega)|simp_all) (.of rfl)):SubM _ _) (ho:=((.e (i:=0) rfl (by first|rfl|(congr 1;omega)|simp_all) .n):PickO _ _ _)) ((.of [1,2,3] rfl):SelR _ _ _)
  ·
   have hjb:j=(Big.digs b).length:=by omega
   subst hjb
   have hv3:=hv2
   refine zfa<|zm<|zm<|zv<|ze<|zc<|r_pv rfl rfl (zb rfl)<|r_pv rfl rfl (zb rfl)<|r_pv rfl rfl (zb rfl)<|r_pv rfl rfl (zM Try.underlying41 rfl)<|r_pv rfl rfl (zy (z:=(((i+((Big.digs b).length)):Nat):Int)) rfl rfl (w64 (by omega)))<|r_pv rfl rfl (zb rfl)<|r_pv rfl rfl (zx (z:=cy) rfl (by rw [Try.underlying100];rfl) Try.underlying101 (wu32 (by omega)))<|r_pv rfl rfl (zN (j:=(i+((Big.digs b).length))) Try.underlying41 sz101 rfl rfl rfl (by omega))<|zxa 0 rfl rfl rfl (zR (j:=(i+((Big.digs b).length))) (x0:=cy) (γ0:=()) rfl rfl (by first|omega|(rw [List.length_map];omega)|(simp only [List.length_set];omega)|(simp;done)|(simp;omega)) rfl rfl sz101 (fun _ _=>by exact zw.2 (by omega))) (fun _=> .z) (fun _ _=> ?_)
   refine zj<|zJ<|ze<|zc<|r_pv rfl rfl (zy (z:=(((i+1):Nat):Int)) rfl rfl (w64 (by omega)))<|r_pv rfl rfl (zb rfl)<|zj<|zba ((i+1),os2.set (i+(Big.digs b).length) cy) (show (i+1)≤(Big.digs a).length∧(os2.set (i+(Big.digs b).length) cy).length=(Big.digs a).length+(Big.digs b).length∧Big.okL (os2.set (i+(Big.digs b).length) cy)∧(∀k,(i+1)+(Big.digs b).length≤k→(os2.set (i+(Big.digs b).length) cy).getD k 0=0)∧Big.valL (os2.set (i+(Big.digs b).length) cy)=Big.valL ((Big.digs a).take (i+1))*Big.valL (Big.digs b) from by exact ⟨by omega,by simpa using hol2,Big.okL_set hok2 (by omega) (by omega),fun k hk=>by rw [Big.getD_set_ne (by omega)];exact hz2 k (by omega),Big.mul_round hv3 (by omega) (hz2 _ (Nat.le_refl _))⟩) (by show (Big.digs a).length - (i+1)<(Big.digs a).length - i;omega) ((.of rfl):SubM _ _) (ho:=((.e (i:=0) rfl (by first|rfl|(congr 1;omega)|simp_all) .n):PickO _ _ _)) ((.of [1,2] rfl):SelR _ _ _)
 ·
  have hia:i=(Big.digs a).length:=by omega
  have hfin:Big.trimL os=Big.digs (a*b):=Big.trimL_of hok (by rw [hv,hia,List.take_length,Big.valL_digs,Big.valL_digs,Int.natCast_mul])
  refine zfa<|zm<|zm<|zv<|ze<|zi<|zc<|r_pv rfl rfl (zb rfl)<|zof (A:=[rowA 101 (rI .u32) (some ⟨b1,0,none⟩) (((Big.digs a).length)+((Big.digs b).length)) os]) (F:=[]) (first:=[]) (cap:=[]) rfl rfl rfl (.c rfl .n) ce101 (zJe (p:=some ⟨b1,0,none⟩) (n:=(((Big.digs a).length)+((Big.digs b).length))) (cap:=(((Big.digs a).length)+((Big.digs b).length))) (l:=os) (hn:=by first|rfl|assumption|omega|(simp;done)|(simp;omega)|(simp_all;done))) (.n) ?_
  rintro ⟨⟩ -
  dsimp only [List.append_eq,List.nil_append,List.cons_append]
  refine r_pv rfl rfl (zd rfl)<|zj<|ze<|zI ?_
  have e11:Big.trimL os=Big.digs (a*b):=by exact hfin
  rw [e11]
  exact zC Try.results118 ((some ⟨b1,0,none⟩),(((Big.digs a).length)+((Big.digs b).length))) trivial (zq rfl) rfl (ho:=((.c (i:=0) rfl .n):PickO _ _ _)) (.n:SelR _ _ _)
end Go.Proofs.Ytefbbhiaalcjfaa.Sp
namespace Go.Proofs.Ytefbbhiaalcjfaa.Sp
open Go
set_option linter.unusedVariables false
set_option maxRecDepth 100000
set_option maxHeartbeats 8000000
theorem zbf {a:Nat} {b:Nat} {p1:Option Addr} {c1:Nat} {p2:Option Addr} {c2:Nat} (hb1:(Big.digs a).length≤1099511627776) (hb2:(Big.digs b).length≤1099511627776) (hb3:2≤(Big.digs b).length) (hab:b≤a):Con Try.prog 113 [.slice p1 ((Big.digs a).length) c1,.slice p2 ((Big.digs b).length) c2] [] [slF (rI .u32) p1 c1 (Big.digs a),slF (rI .u32) p2 c2 (Big.digs b)] (Y:=(Option Addr)×Nat×(Option Addr)×Nat) (fun y=>True) (fun y=> .tuple #[.slice (y.1) ((Big.digs (a / b)).length) (y.2.1),.slice (y.2.2.1) ((Big.digs (a%b)).length) (y.2.2.2)]) (fun y=>[]) (fun y=>[slF (rI .u32) (y.1) (y.2.1) (Big.digs (a / b)),slF (rI .u32) (y.2.2.1) (y.2.2.2) (Big.digs (a%b))]):=by
 refine zr Try.func113 rfl rfl rfl (fun c=> ?_)
 show RunC _ _ _ _ _ [(0,.slice p1 ((Big.digs a).length) c1),(1,.slice p2 ((Big.digs b).length) c2)] [] [slF (rI .u32) p1 c1 (Big.digs a),slF (rI .u32) p2 c2 (Big.digs b)]
 refine zca 0 rfl (fun hL0=> ?_)
 refine zca 1 rfl (fun hL1=> ?_)
 have hob:=Big.digs_ok b
 have htop:=Big.okL_getD hob ((Big.digs b).length - 1)
 have hdt:=Big.digs_top (b:=b) (n:=(Big.digs b).length - 1) (by omega)
 have hab2:=Big.ln_mono' hab
 have hq1:0≤1000000000 / ((Big.digs b).getD ((Big.digs b).length - 1) 0+1):=Int.ediv_nonneg (by omega) (by omega)
 have hq2:1000000000 / ((Big.digs b).getD ((Big.digs b).length - 1) 0+1)≤500000000:=Int.ediv_le_of_le_mul (by omega) (by omega)
 refine zi<|zc<|r_pv rfl rfl (zd rfl)<|r_pv rfl rfl (zd rfl)<|zj<|ze<|zi<|zc<|r_pv rfl rfl (zb rfl)<|r_pv rfl rfl (zb rfl)<|r_pv rfl rfl (zM Try.underlying41 rfl)<|r_pv rfl rfl (zda (z:=((((Big.digs b).length - 1):Nat):Int)) rfl rfl (w64 (by omega)))<|zQ (x0:=((Big.digs b).getD ((Big.digs b).length - 1) 0)) 1 ((Big.digs b).length - 1) rfl Try.underlying41 sz101 rfl rfl rfl (by first|rfl|assumption|(simp;done)|omega) rfl rfl (gD (d:=0) (by omega)) (fun b1 o2 hok3=> ?_)
 replace hok3:=zw.1 hok3
 refine r_u rfl rfl (zl (j:=0) 0 ty101 rfl rfl rfl rfl)<|r_pv rfl rfl (zx (z:=((Big.digs b).getD ((Big.digs b).length - 1) 0)) rfl (by rw [Try.underlying101];rfl) Try.underlying100 (wu64 (by omega)))<|r_pv rfl rfl (zy (z:=(((Big.digs b).getD ((Big.digs b).length - 1) 0)+1)) rfl rfl (wu64 (by omega)))<|r_pv rfl rfl (zGa (z:=(1000000000 / (((Big.digs b).getD ((Big.digs b).length - 1) 0)+1))) rfl rfl (by omega) (by rw [quoN (z:=(1000000000 / (((Big.digs b).getD ((Big.digs b).length - 1) 0)+1))) (by omega) (by omega)];exact wu64 (by omega)))<|r_pv rfl rfl (zx (z:=(1000000000 / (((Big.digs b).getD ((Big.digs b).length - 1) 0)+1))) rfl (by rw [Try.underlying100];rfl) Try.underlying101 (wu32 (by omega)))<|r_pv rfl rfl (zd rfl)<|zj<|ze<|zi ?_
 obtain ⟨s,hs⟩:∃s:Nat,s=(1000000000 / ((Big.digs b).getD ((Big.digs b).length - 1) 0+1)).toNat:=⟨_,rfl⟩
 obtain ⟨hs1,hs2,hs3⟩:=Big.scale_len (n:=(Big.digs b).length - 1) (by omega) hs
 have hsd:=Big.digs_one hs1 (by omega:s<1000000000)
 have hsl:(Big.digs s).length=1:=by rw [hsd];rfl
 have e4:((1000000000 / (((Big.digs b).getD ((Big.digs b).length - 1) 0)+1)):Int)=((s:Nat):Int):=by omega
 rw [e4]
 refine zc<|r_pv rfl rfl (zb rfl)<|r_pv rfl rfl (zb rfl)<|zta rfl rfl (zE (enc:=fun z:Int=>[.int .u32 z]) (ok:=InK .u32) (h1:=fun _=>rfl) (h2:=fun _=>rfl) (k:=1) Try.underlying41 inf101 rfl (by decide) (by decide) (by decide) (.c (x:=((s:Nat):Int)) rfl rfl (fun _ _=>by exact zw.2 (by omega)) .n)) (fun b5 _=> ?_)
 refine zea 0 rfl .z ?_
 have e6:[((s:Nat):Int)]=Big.digs s:=by exact hsd.symm
 rw [e6]
 have e7:(.slice (some ⟨b5,0,none⟩) 1 1:Value)= .slice (some ⟨b5,0,none⟩) ((Big.digs s).length) 1:=by rw [hsl]
 rw [e7]
 refine zB rfl rfl (.c rfl (.c rfl .n)) ce118 (zXd (a:=a) (b:=s) (p1:=p1) (c1:=c1) (p2:=some ⟨b5,0,none⟩) (c2:=1) (hb1:=by assumption) (hb2:=by first|rfl|assumption|omega|(simp;done)|(simp;omega)|(simp_all;done))) (.c (j:=2) rfl (.c (j:=0) rfl .n)) ?_
 rintro ⟨p38,c39⟩ -
 dsimp only [List.append_eq,List.nil_append,List.cons_append]
 refine r_pv rfl rfl (zd rfl)<|zj<|ze<|zi<|zc<|r_pv rfl rfl (zb rfl)<|r_pv rfl rfl (zb rfl)<|zta rfl rfl (zE (enc:=fun z:Int=>[.int .u32 z]) (ok:=InK .u32) (h1:=fun _=>rfl) (h2:=fun _=>rfl) (k:=1) Try.underlying41 inf101 rfl (by decide) (by decide) (by decide) (.c (x:=((s:Nat):Int)) rfl rfl (fun _ _=>by exact zw.2 (by omega)) .n)) (fun b10 _=> ?_)
 refine zea 0 rfl .z ?_
 have e11:[((s:Nat):Int)]=Big.digs s:=by exact hsd.symm
 rw [e11]
 have e12:(.slice (some ⟨b10,0,none⟩) 1 1:Value)= .slice (some ⟨b10,0,none⟩) ((Big.digs s).length) 1:=by rw [hsl]
 rw [e12]
 refine zB rfl rfl (.c rfl (.c rfl .n)) ce118 (zHe (a:=b) (b:=s) (p1:=p2) (c1:=c2) (p2:=some ⟨b10,0,none⟩) (c2:=1) (hb1:=by assumption) (hb2:=by first|rfl|assumption|omega|(simp;done)|(simp;omega)|(simp_all;done))) (.c (j:=4) rfl (.c (j:=0) rfl .n)) ?_
 rintro ⟨p313,c314⟩ -
 dsimp only [List.append_eq,List.nil_append,List.cons_append]
 refine r_pv rfl rfl (zd rfl)<|zj<|ze<|zi ?_
 obtain ⟨A,hA⟩:∃z,z=a*s:=⟨_,rfl⟩
 rw [← hA]
 obtain ⟨V,hV⟩:∃z,z=b*s:=⟨_,rfl⟩
 rw [← hV]
 have hAl:(Big.digs a).length≤(Big.digs A).length:=by rw [hA];exact Big.len_mul_ge hs1
 have hAl2:(Big.digs A).length≤(Big.digs a).length+1:=by have h8:=Big.len_mul_le a s;rw [hsl] at h8;rw [hA];exact h8
 obtain ⟨m,hm⟩:∃z,(Big.digs V).length=z+2:=⟨(Big.digs b).length - 2,by rw [hV,hs3];omega⟩
 have hmb:(Big.digs b).length=m+2:=by rw [hV,hs3] at hm;omega
 have e15:(Big.digs V).length=(m+2):=by exact hm
 rw [e15]
 refine zc<|r_pv rfl rfl (zb rfl)<|r_pv rfl rfl (zM Try.underlying41 rfl)<|r_pv rfl rfl (zd rfl)<|zj<|ze<|zi<|zc<|r_pv rfl rfl (zb rfl)<|zta rfl rfl (zE (enc:=fun z:Int=>[.int .u32 z]) (ok:=InK .u32) (h1:=fun _=>rfl) (h2:=fun _=>rfl) (k:=1) Try.underlying41 inf101 rfl (by decide) (by decide) (by decide) (.c (x:=0) rfl rfl (fun _ _=>by exact zw.2 (by omega)) .n)) (fun b16 _=> ?_)
 refine zea 0 rfl .z<|zxa 2 rfl rfl rfl (zra 0 rfl Try.underlying41 inf101 (by decide) rfl rfl (by first|rfl|assumption|(simp;done)|omega) rfl (by first|rfl|assumption|(simp;done)|omega) (by omega) (by omega)) (fun _=>(.s (.s .z))) ?_
 rintro ⟨p17,c18⟩ -
 dsimp only [List.append_eq,List.nil_append,List.cons_append]
 refine r_pv rfl rfl (zd rfl)<|zj<|ze<|zi<|zi<|zc<|r_pv rfl rfl (zb rfl)<|r_pv rfl rfl (zM Try.underlying41 rfl)<|r_pv rfl rfl (zb rfl)<|r_pv rfl rfl (zM Try.underlying41 rfl)<|r_pv rfl rfl (zqc rfl rfl)<|zj<|ze<|zD rfl (fun h19=> ?_) (fun h19=> ?_)
 ·
  exact absurd ‹_› (by omega)
 ·
  refine zA<|ze<|zi ?_
  obtain ⟨M,hM⟩:∃z,z=((Big.digs A).length)+1:=⟨_,rfl⟩
  rw [← hM]
  refine zc<|r_pv rfl rfl (zb rfl)<|r_pv rfl rfl (zM Try.underlying41 rfl)<|r_pv rfl rfl (zb rfl)<|r_pv rfl rfl (zda (z:=(((M - (m+2)):Nat):Int)) rfl rfl (w64 (by omega)))<|zta rfl rfl (zWa (r:=rI .u32) (k:=(M - (m+2))) (x0:=0) (γ0:=()) Try.underlying41 inf101 rfl rfl rfl rfl (by omega) (by omega) rfl (fun g _=>by exact zw.2 (by decide)) (by decide)) (fun b20 _=> ?_)
  refine r_pv rfl rfl (zd rfl)<|zj<|ze<|zi<|zi ?_
  have hMl:m+3≤M:=by omega
  have hLg:Big.LgI M (m+2) ((A:Nat):Int) ((V:Nat):Int) (M - (m+2)) (Big.digs A++[0]) []:=Big.LgI.start (Big.okL_snoc (Big.digs_ok A) (by decide) (by decide)) (by simp [hM]) (by rw [Big.valL_snoc,Big.valL_digs];simp) hm (by omega) (by rw [Big.valL_snoc,Big.valL_digs,hM,Nat.add_sub_cancel];simpa using Big.digs_lt A) (by omega)
  refine zc<|r_pv rfl rfl (zb rfl)<|r_pv rfl rfl (zM Try.underlying41 rfl)<|r_pv rfl rfl (zb rfl)<|r_pv rfl rfl (zda (z:=(((M:Nat):Int) - (((m+2):Nat):Int))) rfl rfl (w64 (by omega)))<|r_pv rfl rfl (zda (z:=((((M:Nat):Int) - (((m+2):Nat):Int)) - 1)) rfl rfl (w64 (by omega)))<|r_pv rfl rfl (zd rfl)<|zj<|ze<|zz<|zma (X:=Nat×(List Int)×(List Int)) (fun x:Nat×(List Int)×(List Int)=>Big.LgI M (m+2) ((A:Nat):Int) ((V:Nat):Int) x.1 x.2.1 x.2.2) (fun x=>[(10,.int .i64 (((x.1:Nat):Int) - 1)),(4,.slice (some ⟨b20,0,none⟩) (M - (m+2)) (M - (m+2))),(7,.slice p17 M c18),(9,.int .i64 (((m+2):Nat):Int)),(8,.slice p313 (m+2) c314),(6,.int .u32 ((s:Nat):Int)),(5,.slice none 0 0)]) (fun x=>[rowA 101 (rI .u32) (some ⟨b20,0,none⟩) (M - (m+2)) (List.replicate x.1 0++x.2.2),rowA 101 (rI .u32) p17 c18 (x.2.1)]) (fun x=>[slF (rI .u32) (some ⟨b16,0,none⟩) 1 ([0]),slF (rI .u32) p313 c314 (Big.digs V),slF (rI .u32) (some ⟨b10,0,none⟩) 1 (Big.digs s),slF (rI .u32) (some ⟨b5,0,none⟩) 1 (Big.digs s),atF b1 o2 [.int .u32 ((Big.digs b).getD ((Big.digs b).length - 1) 0)],slF (rI .u32) p1 c1 (Big.digs a),slF (rI .u32) p2 c2 (Big.digs b)]) (fun x:Nat×(List Int)×(List Int)=>x.1) ((M - (m+2)),(Big.digs A++[0]),([]:List Int)) (show Big.LgI M (m+2) ((A:Nat):Int) ((V:Nat):Int) (M - (m+2)) (Big.digs A++[0]) ([]:List Int) from by exact hLg) ((.e rfl (congrArg (Value.int .i64) (by omega)) (.of rfl)):SubM _ _) (ho:=((.e (i:=0) rfl (by simp) (.e (i:=2) rfl (by simp) .n)):PickO _ _ _)) ((.of [0,1,2,3,4,5,6] rfl):SelR _ _ _) ?_
  rintro ⟨jj,u,qs⟩ hI
  replace hI:Big.LgI M (m+2) ((A:Nat):Int) ((V:Nat):Int) jj u qs:=hI
  try dsimp only
  refine zi<|zi<|zc<|r_pv rfl rfl (zb rfl)<|r_pv rfl rfl (zya rfl rfl)<|zj<|ze<|zD rfl (fun hj=> ?_) (fun hj=> ?_)
  ·
   obtain ⟨j,rfl⟩:∃j,jj=j+1:=⟨jj - 1,by omega⟩
   have e21:(((((j+1):Nat):Int) - 1):Int)=((j:Nat):Int):=by omega
   rw [e21]
   have hjM:=hI.jle
   have hul:=hI.ul
   have hT:=hI.tp hm
   have hu2:=hT.a2
   have hu1:=hT.a1
   have hu0:=hT.a0
   have hvt1:=hT.vt1
   have hvt2:=hT.vt2
   have hvs0:=hT.vs0
   have hvs1:=hT.vs1
   have hgst:=hT.start
   have hgl0:=Big.Gs.le hT hgst
   have hg00:=hgst.g0
   have hg01:=hgst.r0
   have hrlt:=Int.emod_lt_of_pos ((u.getD (j+(m+2)) 0)*1000000000+(u.getD (j+(m+1)) 0)) (show 0<((Big.digs V).getD (m+1) 0) by omega)
   refine zA<|ze<|zi<|zz<|zi<|zja (OW:=[]) (O:=[rowA 101 (rI .u32) (some ⟨b20,0,none⟩) (M - (m+2)) (List.replicate (j+1) 0++qs),rowA 101 (rI .u32) p17 c18 u]) 100000 mixed (.then (.block (.then (.then (.block (.then .ret)))))) (by kernel_rfl)<|d_pv 0 rfl rfl (by kernel_rfl) (by kernel_rfl) rfl rfl (zb rfl)<|d_pv 1 rfl rfl (by kernel_rfl) (by kernel_rfl) rfl rfl (zb rfl)<|d_pv 2 rfl rfl (by kernel_rfl) (by kernel_rfl) rfl rfl (zb rfl)<|d_pv 3 rfl rfl (by kernel_rfl) (by kernel_rfl) rfl rfl (zy (z:=(((j+(m+2)):Nat):Int)) rfl rfl (w64 (by omega)))<|d_pv 7 rfl rfl (by kernel_rfl) (by kernel_rfl) rfl rfl (zb rfl)<|d_pv 8 rfl rfl (by kernel_rfl) (by kernel_rfl) rfl rfl (zb rfl)<|d_pv 9 rfl rfl (by kernel_rfl) (by kernel_rfl) rfl rfl (zb rfl)<|d_pv 10 rfl rfl (by kernel_rfl) (by kernel_rfl) rfl rfl (zy (z:=(((j+(m+2)):Nat):Int)) rfl rfl (w64 (by omega)))<|d_pv 11 rfl rfl (by kernel_rfl) (by kernel_rfl) rfl rfl (zda (z:=(((j+(m+1)):Nat):Int)) rfl rfl (w64 (by omega)))<|d_u 12 rfl rfl (by kernel_rfl) (by kernel_rfl) rfl rfl (zia 1 (j+(m+1)) rfl Try.underlying41 sz101 rfl (by first|rfl|assumption|(simp;done)|omega) rfl rfl (by omega))<|d_vl 13 rfl rfl (by kernel_rfl) (by kernel_rfl) rfl rfl (zU 1 (j+(m+1)) rfl ty101 rfl rfl (gD (d:=0) (by omega)) rfl) (fun _ hok22=> ?_)
   replace hok22:=zw.1 hok22
   refine d_pv 14 rfl rfl (by kernel_rfl) (by kernel_rfl) rfl rfl (zx (z:=(u.getD (j+(m+1)) 0)) rfl (by rw [Try.underlying101];rfl) Try.underlying100 (wu64 (by omega)))<|zV 4 (by kernel_rfl) (zVe 1 rfl rfl rfl rfl rfl (.c rfl (.c rfl .n)) ce114 (zKd (p:=p17) (n:=M) (cap:=c18) (l:=u) (i:=(j+(m+2))) (hn:=by first|rfl|assumption|omega|(simp;done)|(simp;omega)|(simp_all;done)) (hi:=by first|rfl|assumption|omega|(simp;done)|(simp;omega)|(simp_all;done))) (.c (j:=0) rfl .n) ?_)
   refine d_pv 5 rfl rfl (by kernel_rfl) (by kernel_rfl) rfl rfl (zx (z:=u.getD (j+(m+2)) 0) rfl (by rw [Try.underlying101];rfl) Try.underlying100 (wu64 (by omega)))<|d_pv 6 rfl rfl (by kernel_rfl) (by kernel_rfl) rfl rfl (zla (z:=(u.getD (j+(m+2)) 0*1000000000)) rfl rfl (wu64 (by omega)))<|d_pv 15 rfl rfl (by kernel_rfl) (by kernel_rfl) rfl rfl (zy (z:=((u.getD (j+(m+2)) 0*1000000000)+(u.getD (j+(m+1)) 0))) rfl rfl (wu64 (by omega)))<|d_pv 16 rfl rfl (by kernel_rfl) (by kernel_rfl) rfl rfl (zd rfl)<|zga (by kernel_rfl)<|ze<|zi<|zja (OW:=[]) (O:=[rowA 101 (rI .u32) (some ⟨b20,0,none⟩) (M - (m+2)) (List.replicate (j+1) 0++qs),rowA 101 (rI .u32) p17 c18 u]) 100000 mixed (.then (.block (.then (.then (.block (.then .ret)))))) (by kernel_rfl)<|d_pv 0 rfl rfl (by kernel_rfl) (by kernel_rfl) rfl rfl (zb rfl)<|d_pv 1 rfl rfl (by kernel_rfl) (by kernel_rfl) rfl rfl (zb rfl)<|d_pv 2 rfl rfl (by kernel_rfl) (by kernel_rfl) rfl rfl (zb rfl)<|d_pv 3 rfl rfl (by kernel_rfl) (by kernel_rfl) rfl rfl (zda (z:=(((m+1):Nat):Int)) rfl rfl (w64 (by omega)))<|zoa (x0:=((Big.digs V).getD (m+1) 0)) 4 rfl rfl (by kernel_rfl) (by kernel_rfl) 1 (m+1) rfl Try.underlying41 sz101 rfl rfl rfl (by first|rfl|assumption|(simp;done)|omega) rfl rfl (gD (d:=0) (by omega)) (fun b23 o24 hok25=> ?_)
   replace hok25:=zw.1 hok25
   refine d_u 5 rfl rfl (by kernel_rfl) (by kernel_rfl) rfl rfl (zl (j:=0) 0 ty101 rfl rfl rfl rfl)<|d_pv 6 rfl rfl (by kernel_rfl) (by kernel_rfl) rfl rfl (zx (z:=((Big.digs V).getD (m+1) 0)) rfl (by rw [Try.underlying101];rfl) Try.underlying100 (wu64 (by omega)))<|d_pv 7 rfl rfl (by kernel_rfl) (by kernel_rfl) rfl rfl (zGa (z:=(((u.getD (j+(m+2)) 0*1000000000)+(u.getD (j+(m+1)) 0)) / ((Big.digs V).getD (m+1) 0))) rfl rfl (by omega) (by rw [quoN (z:=(((u.getD (j+(m+2)) 0*1000000000)+(u.getD (j+(m+1)) 0)) / ((Big.digs V).getD (m+1) 0))) (by omega) (by omega)];exact wu64 (by omega)))<|d_pv 8 rfl rfl (by kernel_rfl) (by kernel_rfl) rfl rfl (zb rfl)<|d_pv 9 rfl rfl (by kernel_rfl) (by kernel_rfl) rfl rfl (zb rfl)<|d_pv 10 rfl rfl (by kernel_rfl) (by kernel_rfl) rfl rfl (zb rfl)<|d_pv 11 rfl rfl (by kernel_rfl) (by kernel_rfl) rfl rfl (zda (z:=(((m+1):Nat):Int)) rfl rfl (w64 (by omega)))<|zoa (x0:=((Big.digs V).getD (m+1) 0)) 12 rfl rfl (by kernel_rfl) (by kernel_rfl) 2 (m+1) rfl Try.underlying41 sz101 rfl rfl rfl (by first|rfl|assumption|(simp;done)|omega) rfl rfl (gD (d:=0) (by omega)) (fun b26 o27 hok28=> ?_)
   replace hok28:=zw.1 hok28
   refine d_u 13 rfl rfl (by kernel_rfl) (by kernel_rfl) rfl rfl (zl (j:=0) 0 ty101 rfl rfl rfl rfl)<|d_pv 14 rfl rfl (by kernel_rfl) (by kernel_rfl) rfl rfl (zx (z:=((Big.digs V).getD (m+1) 0)) rfl (by rw [Try.underlying101];rfl) Try.underlying100 (wu64 (by omega)))<|d_pv 15 rfl rfl (by kernel_rfl) (by kernel_rfl) rfl rfl (zHa (z:=(((u.getD (j+(m+2)) 0*1000000000)+(u.getD (j+(m+1)) 0))%((Big.digs V).getD (m+1) 0))) rfl rfl (by omega) (remN (by omega) (by omega)))<|d_pv 16 rfl rfl (by kernel_rfl) (by kernel_rfl) rfl rfl (zd rfl)<|d_pv 17 rfl rfl (by kernel_rfl) (by kernel_rfl) rfl rfl (zd rfl)<|zga (by kernel_rfl)<|ze<|zFa (X:=Int) (fun x=>(0≤x∧x<1000000000)∧(Big.valL (u.drop j))<(x+1)*(V:Int)∧x*(V:Int)<(Big.valL (u.drop j))+(V:Int)) (fun x=>[(12,.int .u64 x),(10,.int .i64 ((j:Nat):Int)),(4,.slice (some ⟨b20,0,none⟩) (M - (m+2)) (M - (m+2))),(7,.slice p17 M c18),(9,.int .i64 (((m+2):Nat):Int)),(8,.slice p313 (m+2) c314),(6,.int .u32 ((s:Nat):Int)),(5,.slice none 0 0)]) (fun x=>[rowA 101 (rI .u32) (some ⟨b20,0,none⟩) (M - (m+2)) (List.replicate (j+1) 0++qs),rowA 101 (rI .u32) p17 c18 u]) (fun x=>[atF b26 o27 [.int .u32 ((Big.digs V).getD (m+1) 0)],atF b23 o24 [.int .u32 ((Big.digs V).getD (m+1) 0)],slF (rI .u32) (some ⟨b16,0,none⟩) 1 ([0]),slF (rI .u32) p313 c314 (Big.digs V),slF (rI .u32) (some ⟨b10,0,none⟩) 1 (Big.digs s),slF (rI .u32) (some ⟨b5,0,none⟩) 1 (Big.digs s),atF b1 o2 [.int .u32 ((Big.digs b).getD ((Big.digs b).length - 1) 0)],slF (rI .u32) p1 c1 (Big.digs a),slF (rI .u32) p2 c2 (Big.digs b)]) ?_ ?_
   ·
    refine zz<|zma (X:=Int×Int) (fun x:Int×Int=>Big.Gs (Big.valL (u.drop j)) (V:Int) ((Big.digs V).getD (m+1) 0) ((u.getD (j+(m+2)) 0)*1000000000+(u.getD (j+(m+1)) 0)) x.1 x.2∧x.2<1000000000) (fun x=>[(13,.int .u64 (x.2)),(12,.int .u64 (x.1)),(10,.int .i64 ((j:Nat):Int)),(4,.slice (some ⟨b20,0,none⟩) (M - (m+2)) (M - (m+2))),(7,.slice p17 M c18),(9,.int .i64 (((m+2):Nat):Int)),(8,.slice p313 (m+2) c314),(6,.int .u32 ((s:Nat):Int)),(5,.slice none 0 0)]) (fun x=>[rowA 101 (rI .u32) (some ⟨b20,0,none⟩) (M - (m+2)) (List.replicate (j+1) 0++qs),rowA 101 (rI .u32) p17 c18 u]) (fun x=>[atF b26 o27 [.int .u32 ((Big.digs V).getD (m+1) 0)],atF b23 o24 [.int .u32 ((Big.digs V).getD (m+1) 0)],slF (rI .u32) (some ⟨b16,0,none⟩) 1 ([0]),slF (rI .u32) p313 c314 (Big.digs V),slF (rI .u32) (some ⟨b10,0,none⟩) 1 (Big.digs s),slF (rI .u32) (some ⟨b5,0,none⟩) 1 (Big.digs s),atF b1 o2 [.int .u32 ((Big.digs b).getD ((Big.digs b).length - 1) 0)],slF (rI .u32) p1 c1 (Big.digs a),slF (rI .u32) p2 c2 (Big.digs b)]) (fun x:Int×Int=>x.1.toNat) ((((u.getD (j+(m+2)) 0*1000000000)+(u.getD (j+(m+1)) 0)) / ((Big.digs V).getD (m+1) 0)),(((u.getD (j+(m+2)) 0*1000000000)+(u.getD (j+(m+1)) 0))%((Big.digs V).getD (m+1) 0))) (show Big.Gs (Big.valL (u.drop j)) (V:Int) ((Big.digs V).getD (m+1) 0) ((u.getD (j+(m+2)) 0)*1000000000+(u.getD (j+(m+1)) 0)) (((u.getD (j+(m+2)) 0*1000000000)+(u.getD (j+(m+1)) 0)) / ((Big.digs V).getD (m+1) 0)) (((u.getD (j+(m+2)) 0*1000000000)+(u.getD (j+(m+1)) 0))%((Big.digs V).getD (m+1) 0))∧(((u.getD (j+(m+2)) 0*1000000000)+(u.getD (j+(m+1)) 0))%((Big.digs V).getD (m+1) 0))<1000000000 from by exact ⟨hgst,by omega⟩) ((.of rfl):SubM _ _) (ho:=((.of [0,0] rfl):PickO _ _ _)) ((.of [0,1,2,3,4,5,6,7,8] rfl):SelR _ _ _) ?_
    rintro ⟨g,r⟩ hG
    replace hG:Big.Gs (Big.valL (u.drop j)) (V:Int) ((Big.digs V).getD (m+1) 0) ((u.getD (j+(m+2)) 0)*1000000000+(u.getD (j+(m+1)) 0)) g r∧r<1000000000:=hG
    try dsimp only
    obtain ⟨hGs,hr9⟩:=hG
    have hgl:=Big.Gs.le hT hGs
    have hg0:=hGs.g0
    have hr0:=hGs.r0
    have hgm:=Big.mul_lim3 hg0 hgl.1 hvs0 hvs1
    refine zi<|zFa (X:=Unit) (fun x=>True) (fun x=>[(123,.bool (decide ((1000000000≤g)∨(((r*1000000000)+(u.getD (j+m) 0))<(g*((Big.digs V).getD m 0)))))),(13,.int .u64 r),(12,.int .u64 g),(10,.int .i64 ((j:Nat):Int)),(4,.slice (some ⟨b20,0,none⟩) (M - (m+2)) (M - (m+2))),(7,.slice p17 M c18),(9,.int .i64 (((m+2):Nat):Int)),(8,.slice p313 (m+2) c314),(6,.int .u32 ((s:Nat):Int)),(5,.slice none 0 0)]) (fun x=>[rowA 101 (rI .u32) (some ⟨b20,0,none⟩) (M - (m+2)) (List.replicate (j+1) 0++qs),rowA 101 (rI .u32) p17 c18 u]) (fun x=>[atF b26 o27 [.int .u32 ((Big.digs V).getD (m+1) 0)],atF b23 o24 [.int .u32 ((Big.digs V).getD (m+1) 0)],slF (rI .u32) (some ⟨b16,0,none⟩) 1 ([0]),slF (rI .u32) p313 c314 (Big.digs V),slF (rI .u32) (some ⟨b10,0,none⟩) 1 (Big.digs s),slF (rI .u32) (some ⟨b5,0,none⟩) 1 (Big.digs s),atF b1 o2 [.int .u32 ((Big.digs b).getD ((Big.digs b).length - 1) 0)],slF (rI .u32) p1 c1 (Big.digs a),slF (rI .u32) p2 c2 (Big.digs b)]) ?_ ?_
    ·
     refine zja (OW:=[]) (O:=[rowA 101 (rI .u32) (some ⟨b20,0,none⟩) (M - (m+2)) (List.replicate (j+1) 0++qs),rowA 101 (rI .u32) p17 c18 u]) 100000 mixed (.then (.then (.then (.block (.then (.block (.then (.then (.block (.then .ret)))))))))) (by kernel_rfl)<|d_pv 0 rfl rfl (by kernel_rfl) (by kernel_rfl) rfl rfl (zb rfl)<|d_pv 1 rfl rfl (by kernel_rfl) (by kernel_rfl) rfl rfl (zya rfl rfl)<|zvb 2 rfl rfl (by kernel_rfl) (by kernel_rfl) rfl rfl (zb rfl) (fun hge=> ?_) (fun hge=> ?_)
     ·
      refine zha 3 rfl rfl (by kernel_rfl) (by kernel_rfl) rfl rfl<|zha 4 rfl rfl (by kernel_rfl) (by kernel_rfl) rfl rfl<|zha 5 rfl rfl (by kernel_rfl) (by kernel_rfl) rfl rfl<|zha 6 rfl rfl (by kernel_rfl) (by kernel_rfl) rfl rfl<|zha 7 rfl rfl (by kernel_rfl) (by kernel_rfl) rfl rfl<|zha 8 rfl rfl (by kernel_rfl) (by kernel_rfl) rfl rfl<|zha 9 rfl rfl (by kernel_rfl) (by kernel_rfl) rfl rfl<|zha 10 rfl rfl (by kernel_rfl) (by kernel_rfl) rfl rfl<|zha 11 rfl rfl (by kernel_rfl) (by kernel_rfl) rfl rfl<|zha 12 rfl rfl (by kernel_rfl) (by kernel_rfl) rfl rfl<|zha 13 rfl rfl (by kernel_rfl) (by kernel_rfl) rfl rfl<|zha 14 rfl rfl (by kernel_rfl) (by kernel_rfl) rfl rfl<|zha 15 rfl rfl (by kernel_rfl) (by kernel_rfl) rfl rfl<|zha 16 rfl rfl (by kernel_rfl) (by kernel_rfl) rfl rfl<|zha 17 rfl rfl (by kernel_rfl) (by kernel_rfl) rfl rfl<|zha 18 rfl rfl (by kernel_rfl) (by kernel_rfl) rfl rfl<|zha 19 rfl rfl (by kernel_rfl) (by kernel_rfl) rfl rfl<|zha 20 rfl rfl (by kernel_rfl) (by kernel_rfl) rfl rfl<|zha 21 rfl rfl (by kernel_rfl) (by kernel_rfl) rfl rfl<|zha 22 rfl rfl (by kernel_rfl) (by kernel_rfl) rfl rfl<|d_pv 23 rfl rfl (by kernel_rfl) (by kernel_rfl) rfl rfl (zk rfl rfl)<|zga (by kernel_rfl) ?_
      exact zZ () (show True from by first|trivial|omega|simp_all) ((.e rfl (congrArg Value.bool (by exact (decide_eq_true (.inl hge)).symm)) (.of rfl)):SubM _ _) (ho:=((.of [0,0] rfl):PickO _ _ _)) ((.of [0,1,2,3,4,5,6,7,8] rfl):SelR _ _ _)
     ·
      refine d_pv 3 rfl rfl (by kernel_rfl) (by kernel_rfl) rfl rfl (zb rfl)<|d_pv 4 rfl rfl (by kernel_rfl) (by kernel_rfl) rfl rfl (zb rfl)<|d_pv 5 rfl rfl (by kernel_rfl) (by kernel_rfl) rfl rfl (zb rfl)<|d_pv 6 rfl rfl (by kernel_rfl) (by kernel_rfl) rfl rfl (zda (z:=((m:Nat):Int)) rfl rfl (w64 (by omega)))<|zoa (x0:=((Big.digs V).getD m 0)) 7 rfl rfl (by kernel_rfl) (by kernel_rfl) 3 m rfl Try.underlying41 sz101 rfl rfl rfl (by first|rfl|assumption|(simp;done)|omega) rfl rfl (gD (d:=0) (by omega)) (fun b29 o30 hok31=> ?_)
      replace hok31:=zw.1 hok31
      refine d_u 8 rfl rfl (by kernel_rfl) (by kernel_rfl) rfl rfl (zl (j:=0) 0 ty101 rfl rfl rfl rfl)<|d_pv 9 rfl rfl (by kernel_rfl) (by kernel_rfl) rfl rfl (zx (z:=((Big.digs V).getD m 0)) rfl (by rw [Try.underlying101];rfl) Try.underlying100 (wu64 (by omega)))<|d_pv 10 rfl rfl (by kernel_rfl) (by kernel_rfl) rfl rfl (zla (z:=(g*((Big.digs V).getD m 0))) rfl rfl (wu64 (by omega)))<|d_pv 11 rfl rfl (by kernel_rfl) (by kernel_rfl) rfl rfl (zb rfl)<|d_pv 12 rfl rfl (by kernel_rfl) (by kernel_rfl) rfl rfl (zla (z:=(r*1000000000)) rfl rfl (wu64 (by omega)))<|d_pv 13 rfl rfl (by kernel_rfl) (by kernel_rfl) rfl rfl (zb rfl)<|d_pv 14 rfl rfl (by kernel_rfl) (by kernel_rfl) rfl rfl (zb rfl)<|d_pv 15 rfl rfl (by kernel_rfl) (by kernel_rfl) rfl rfl (zb rfl)<|d_pv 16 rfl rfl (by kernel_rfl) (by kernel_rfl) rfl rfl (zy (z:=(((j+(m+2)):Nat):Int)) rfl rfl (w64 (by omega)))<|d_pv 17 rfl rfl (by kernel_rfl) (by kernel_rfl) rfl rfl (zda (z:=(((j+m):Nat):Int)) rfl rfl (w64 (by omega)))<|d_u 18 rfl rfl (by kernel_rfl) (by kernel_rfl) rfl rfl (zia 1 (j+m) rfl Try.underlying41 sz101 rfl (by first|rfl|assumption|(simp;done)|omega) rfl rfl (by omega))<|d_vl 19 rfl rfl (by kernel_rfl) (by kernel_rfl) rfl rfl (zU 1 (j+m) rfl ty101 rfl rfl (gD (d:=0) (by omega)) rfl) (fun _ hok32=> ?_)
      replace hok32:=zw.1 hok32
      refine d_pv 20 rfl rfl (by kernel_rfl) (by kernel_rfl) rfl rfl (zx (z:=(u.getD (j+m) 0)) rfl (by rw [Try.underlying101];rfl) Try.underlying100 (wu64 (by omega)))<|d_pv 21 rfl rfl (by kernel_rfl) (by kernel_rfl) rfl rfl (zy (z:=((r*1000000000)+(u.getD (j+m) 0))) rfl rfl (wu64 (by omega)))<|d_pv 22 rfl rfl (by kernel_rfl) (by kernel_rfl) rfl rfl (zwa rfl rfl)<|d_pv 23 rfl rfl (by kernel_rfl) (by kernel_rfl) rfl rfl (zk rfl rfl)<|zga (by kernel_rfl) ?_
      exact zZ () (show True from by first|trivial|omega|simp_all) ((.e rfl (congrArg Value.bool (by exact decide_eq_decide.2 ⟨fun h=> .inr h,fun h=>h.resolve_left hge⟩)) (.of rfl)):SubM _ _) (ho:=((.of [0,0] rfl):PickO _ _ _)) ((.of [1,2,3,4,5,6,7,8,9] rfl):SelR _ _ _)
    ·
     rintro ⟨⟩ -
     try dsimp only
     refine zD rfl (fun hgs=> ?_) (fun hgs=> ?_)
     ·
      have hst:=hGs.step hT hgs
      have hst1:=hst.1
      refine zA<|ze<|zz<|zi<|zc<|r_pv rfl rfl (zb rfl)<|r_pv rfl rfl (zda (z:=(g - 1)) rfl rfl (wu64 (by omega)))<|r_pv rfl rfl (zd rfl)<|zj<|ze<|zi<|zc<|r_pv rfl rfl (zb rfl)<|r_pv rfl rfl (zb rfl)<|r_pv rfl rfl (zb rfl)<|r_pv rfl rfl (zda (z:=(((m+1):Nat):Int)) rfl rfl (w64 (by omega)))<|zQ (x0:=((Big.digs V).getD (m+1) 0)) 3 (m+1) rfl Try.underlying41 sz101 rfl rfl rfl (by first|rfl|assumption|(simp;done)|omega) rfl rfl (gD (d:=0) (by omega)) (fun b33 o34 hok35=> ?_)
      replace hok35:=zw.1 hok35
      refine r_u rfl rfl (zl (j:=0) 0 ty101 rfl rfl rfl rfl)<|r_pv rfl rfl (zx (z:=((Big.digs V).getD (m+1) 0)) rfl (by rw [Try.underlying101];rfl) Try.underlying100 (wu64 (by omega)))<|r_pv rfl rfl (zy (z:=(r+((Big.digs V).getD (m+1) 0))) rfl rfl (wu64 (by omega)))<|r_pv rfl rfl (zd rfl)<|zj<|ze<|zi<|zc<|r_pv rfl rfl (zb rfl)<|r_pv rfl rfl (zya rfl rfl)<|zj<|ze<|zD rfl (fun hbr=> ?_) (fun hbr=> ?_)
      ·
       refine zfa<|zKc rfl<|zm<|zv ?_
       exact zZ (g - 1) (show (0≤(g - 1)∧(g - 1)<1000000000)∧(Big.valL (u.drop j))<((g - 1)+1)*(V:Int)∧(g - 1)*(V:Int)<(Big.valL (u.drop j))+(V:Int) from by have hs9:=(hGs.step hT hgs).2;have hb9:=Big.Gs.broke hT hs9 hbr;exact ⟨⟨hs9.g0,hb9.1⟩,hs9.up,Big.Gs.fin hT hs9 hb9.1 hb9.2⟩) ((.of rfl):SubM _ _) (ho:=((.of [0,0] rfl):PickO _ _ _)) ((.of [1,2,3,4,5,6,7,8,9] rfl):SelR _ _ _)
      ·
       refine zA<|zJ<|zba ((g - 1),(r+((Big.digs V).getD (m+1) 0))) (show Big.Gs (Big.valL (u.drop j)) (V:Int) ((Big.digs V).getD (m+1) 0) ((u.getD (j+(m+2)) 0)*1000000000+(u.getD (j+(m+1)) 0)) (g - 1) (r+((Big.digs V).getD (m+1) 0))∧(r+((Big.digs V).getD (m+1) 0))<1000000000 from by exact ⟨(hGs.step hT hgs).2,by omega⟩) (by have:=(hGs.step hT hgs).1;show (g - 1).toNat<g.toNat;omega) ((.of rfl):SubM _ _) (ho:=((.of [0,0] rfl):PickO _ _ _)) ((.of [1,2,3,4,5,6,7,8,9] rfl):SelR _ _ _)
     ·
      refine zfa<|zm<|zm<|zv ?_
      exact zZ g (show (0≤g∧g<1000000000)∧(Big.valL (u.drop j))<(g+1)*(V:Int)∧g*(V:Int)<(Big.valL (u.drop j))+(V:Int) from by exact ⟨⟨hg0,by omega⟩,hGs.up,Big.Gs.fin hT hGs (by omega) (by omega)⟩) ((.of rfl):SubM _ _) (ho:=((.of [0,0] rfl):PickO _ _ _)) ((.of [0,1,2,3,4,5,6,7,8] rfl):SelR _ _ _)
   ·
    rintro g hC
    replace hC:(0≤g∧g<1000000000)∧(Big.valL (u.drop j))<(g+1)*(V:Int)∧g*(V:Int)<(Big.valL (u.drop j))+(V:Int):=hC
    try dsimp only
    obtain ⟨⟨hg0,hg1⟩,hup,hdn⟩:=hC
    refine zi<|zc<|r_pv rfl rfl (zd rfl)<|r_pv rfl rfl (zd rfl)<|zj<|ze<|zi<|zi<|zc<|r_pv rfl rfl (zb rfl)<|r_pv rfl rfl (zb rfl)<|zj<|ze<|zz<|zma (X:=Nat×(List Int)×Int×Int) (fun x:Nat×(List Int)×Int×Int=>x.1≤m+2∧Big.MsI u j g (Big.digs V) x.1 x.2.1 x.2.2.1 x.2.2.2) (fun x=>[(15,.int .u64 (x.2.2.2)),(14,.int .i64 (x.2.2.1)),(137,.int .i64 ((x.1:Nat):Int)),(136,.int .i64 (((m+2):Nat):Int)),(12,.int .u64 g),(10,.int .i64 ((j:Nat):Int)),(4,.slice (some ⟨b20,0,none⟩) (M - (m+2)) (M - (m+2))),(7,.slice p17 M c18),(9,.int .i64 (((m+2):Nat):Int)),(8,.slice p313 (m+2) c314),(6,.int .u32 ((s:Nat):Int)),(5,.slice none 0 0)]) (fun x=>[rowA 101 (rI .u32) (some ⟨b20,0,none⟩) (M - (m+2)) (List.replicate (j+1) 0++qs),rowA 101 (rI .u32) p17 c18 (x.2.1)]) (fun x=>[atF b26 o27 [.int .u32 ((Big.digs V).getD (m+1) 0)],atF b23 o24 [.int .u32 ((Big.digs V).getD (m+1) 0)],slF (rI .u32) (some ⟨b16,0,none⟩) 1 ([0]),slF (rI .u32) p313 c314 (Big.digs V),slF (rI .u32) (some ⟨b10,0,none⟩) 1 (Big.digs s),slF (rI .u32) (some ⟨b5,0,none⟩) 1 (Big.digs s),atF b1 o2 [.int .u32 ((Big.digs b).getD ((Big.digs b).length - 1) 0)],slF (rI .u32) p1 c1 (Big.digs a),slF (rI .u32) p2 c2 (Big.digs b)]) (fun x:Nat×(List Int)×Int×Int=>(m+2) - x.1) (0,u,0,0) (show 0≤m+2∧Big.MsI u j g (Big.digs V) 0 u 0 0 from by exact ⟨Nat.zero_le _,Big.MsI.start hI.uo j g _⟩) ((.c rfl (.c rfl (.e rfl (by first|rfl|(congr 1;omega)|simp_all) (.of rfl)))):SubM _ _) (ho:=((.of [0,0] rfl):PickO _ _ _)) ((.of [0,1,2,3,4,5,6,7,8] rfl):SelR _ _ _) ?_
    rintro ⟨i,w,bo,ca⟩ hMM
    replace hMM:i≤m+2∧Big.MsI u j g (Big.digs V) i w bo ca:=hMM
    try dsimp only
    obtain ⟨hile,hM2⟩:=hMM
    have hb0:=hM2.b0
    have hb1:=hM2.b1
    have hc0:=hM2.c0
    have hc1:=hM2.c1
    have hwl:=hM2.len
    have hwo:=Big.okL_getD hM2.ok (j+i)
    have hvi:=Big.okL_getD (Big.digs_ok V) i
    have hca:=Big.ms_carry ⟨hg0,hg1⟩ hvi ⟨hc0,hc1⟩
    have hgx:=Int.mul_nonneg hg0 hvi.1
    refine zi<|zc<|r_pv rfl rfl (zW rfl rfl)<|zj<|ze<|zi<|zD rfl (fun hi=> ?_) (fun hi=> ?_)
    ·
     refine zA<|ze<|zi<|zz<|zi<|zc<|r_pv rfl rfl (zb rfl)<|r_pv rfl rfl (zd rfl)<|zj<|ze<|zi<|zc<|r_pv rfl rfl (zb rfl)<|r_pv rfl rfl (zb rfl)<|r_pv rfl rfl (zb rfl)<|zQ (x0:=((Big.digs V).getD i 0)) 3 i rfl Try.underlying41 sz101 rfl rfl rfl (by first|rfl|assumption|(simp;done)|omega) rfl rfl (gD (d:=0) (by omega)) (fun b36 o37 hok38=> ?_)
     replace hok38:=zw.1 hok38
     refine r_u rfl rfl (zl (j:=0) 0 ty101 rfl rfl rfl rfl)<|r_pv rfl rfl (zx (z:=((Big.digs V).getD i 0)) rfl (by rw [Try.underlying101];rfl) Try.underlying100 (wu64 (by omega)))<|r_pv rfl rfl (zla (z:=(g*((Big.digs V).getD i 0))) rfl rfl (wu64 (by omega)))<|r_pv rfl rfl (zb rfl)<|r_pv rfl rfl (zy (z:=((g*((Big.digs V).getD i 0))+ca)) rfl rfl (wu64 (by omega)))<|r_pv rfl rfl (zd rfl)<|zj<|ze<|zi<|zc<|r_pv rfl rfl (zb rfl)<|r_pv rfl rfl (zGa (z:=(((g*((Big.digs V).getD i 0))+ca) / 1000000000)) rfl rfl (by omega) (by rw [quoN (z:=(((g*((Big.digs V).getD i 0))+ca) / 1000000000)) (by omega) (by omega)];exact wu64 (by omega)))<|r_pv rfl rfl (zd rfl)<|zj<|ze<|zi<|zc<|r_pv rfl rfl (zb rfl)<|r_pv rfl rfl (zb rfl)<|r_pv rfl rfl (zb rfl)<|r_pv rfl rfl (zy (z:=(((j+i):Nat):Int)) rfl rfl (w64 (by omega)))<|r_u rfl rfl (zia 1 (j+i) rfl Try.underlying41 sz101 rfl (by first|rfl|assumption|(simp;done)|omega) rfl rfl (by omega))<|r_vl rfl rfl (zU 1 (j+i) rfl ty101 rfl rfl (gD (d:=0) (by omega)) rfl) (fun _ hok39=> ?_)
     replace hok39:=zw.1 hok39
     refine r_pv rfl rfl (zx (z:=(w.getD (j+i) 0)) rfl (by rw [Try.underlying101];rfl) Try.underlying2 (w64 (by omega)))<|r_pv rfl rfl (zb rfl)<|r_pv rfl rfl (zda (z:=((w.getD (j+i) 0) - bo)) rfl rfl (w64 (by omega)))<|r_pv rfl rfl (zb rfl)<|r_pv rfl rfl (zHa (z:=(((g*((Big.digs V).getD i 0))+ca)%1000000000)) rfl rfl (by omega) (remN (by omega) (by omega)))<|r_pv rfl rfl (zx (z:=(((g*((Big.digs V).getD i 0))+ca)%1000000000)) rfl (by rw [Try.underlying100];rfl) Try.underlying2 (w64 (by omega)))<|r_pv rfl rfl (zda (z:=(((w.getD (j+i) 0) - bo) - (((g*((Big.digs V).getD i 0))+ca)%1000000000))) rfl rfl (w64 (by omega)))<|r_pv rfl rfl (zd rfl)<|zj<|ze<|zi<|zc<|r_pv rfl rfl (zd rfl)<|zj<|ze<|zi<|zi<|zc<|r_pv rfl rfl (zb rfl)<|r_pv rfl rfl (zW rfl rfl)<|zj<|ze<|zD rfl (fun hneg=> ?_) (fun hneg=> ?_)
     ·
      refine zc<|r_pv rfl rfl (zb rfl)<|r_pv rfl rfl (zy (z:=((((w.getD (j+i) 0) - bo) - (((g*((Big.digs V).getD i 0))+ca)%1000000000))+1000000000)) rfl rfl (w64 (by omega)))<|r_pv rfl rfl (zd rfl)<|r_pv rfl rfl (zd rfl)<|zj<|ze<|zc<|r_pv rfl rfl (zb rfl)<|r_pv rfl rfl (zb rfl)<|r_pv rfl rfl (zb rfl)<|r_pv rfl rfl (zy (z:=(((j+i):Nat):Int)) rfl rfl (w64 (by omega)))<|r_pv rfl rfl (zb rfl)<|r_pv rfl rfl (zx (z:=((((w.getD (j+i) 0) - bo) - (((g*((Big.digs V).getD i 0))+ca)%1000000000))+1000000000)) rfl (by rw [Try.underlying2];rfl) Try.underlying101 (wu32 (by omega)))<|r_u rfl rfl (zia 1 (j+i) rfl Try.underlying41 sz101 rfl (by first|rfl|assumption|(simp;done)|omega) rfl rfl (by omega))<|zxa 1 rfl rfl rfl (zR (j:=(j+i)) (x0:=((((w.getD (j+i) 0) - bo) - (((g*((Big.digs V).getD i 0))+ca)%1000000000))+1000000000)) (γ0:=()) rfl rfl (by first|omega|(rw [List.length_map];omega)|(simp only [List.length_set];omega)|(simp;done)|(simp;omega)) rfl rfl sz101 (fun _ _=>by exact zw.2 (by omega))) (fun _=>(.s .z)) (fun _ _=> ?_)
      refine zj<|zJ<|ze<|zc<|r_pv rfl rfl (zy (z:=(((i+1):Nat):Int)) rfl rfl (w64 (by omega)))<|r_pv rfl rfl (zb rfl)<|zj<|zba ((i+1),(w.set (j+i) ((((w.getD (j+i) 0) - bo) - (((g*((Big.digs V).getD i 0))+ca)%1000000000))+1000000000)),1,(((g*((Big.digs V).getD i 0))+ca) / 1000000000)) (show (i+1)≤m+2∧Big.MsI u j g (Big.digs V) (i+1) (w.set (j+i) ((((w.getD (j+i) 0) - bo) - (((g*((Big.digs V).getD i 0))+ca)%1000000000))+1000000000)) 1 (((g*((Big.digs V).getD i 0))+ca) / 1000000000) from by exact ⟨by omega,hM2.step ⟨hg0,hg1⟩ (Big.digs_ok V) (by omega) (by omega) ⟨by omega,by omega⟩ ⟨by decide,by decide⟩⟩) (by show (m+2) - (i+1)<(m+2) - i;omega) ((.of rfl):SubM _ _) (ho:=((.of [0,0] rfl):PickO _ _ _)) ((.of [1,2,3,4,5,6,7,8,9] rfl):SelR _ _ _)
     ·
      refine zA<|ze<|zc<|r_pv rfl rfl (zb rfl)<|r_pv rfl rfl (zb rfl)<|r_pv rfl rfl (zb rfl)<|r_pv rfl rfl (zy (z:=(((j+i):Nat):Int)) rfl rfl (w64 (by omega)))<|r_pv rfl rfl (zb rfl)<|r_pv rfl rfl (zx (z:=(((w.getD (j+i) 0) - bo) - (((g*((Big.digs V).getD i 0))+ca)%1000000000))) rfl (by rw [Try.underlying2];rfl) Try.underlying101 (wu32 (by omega)))<|r_u rfl rfl (zia 1 (j+i) rfl Try.underlying41 sz101 rfl (by first|rfl|assumption|(simp;done)|omega) rfl rfl (by omega))<|zxa 1 rfl rfl rfl (zR (j:=(j+i)) (x0:=(((w.getD (j+i) 0) - bo) - (((g*((Big.digs V).getD i 0))+ca)%1000000000))) (γ0:=()) rfl rfl (by first|omega|(rw [List.length_map];omega)|(simp only [List.length_set];omega)|(simp;done)|(simp;omega)) rfl rfl sz101 (fun _ _=>by exact zw.2 (by omega))) (fun _=>(.s .z)) (fun _ _=> ?_)
      refine zj<|zJ<|ze<|zc<|r_pv rfl rfl (zy (z:=(((i+1):Nat):Int)) rfl rfl (w64 (by omega)))<|r_pv rfl rfl (zb rfl)<|zj<|zba ((i+1),(w.set (j+i) (((w.getD (j+i) 0) - bo) - (((g*((Big.digs V).getD i 0))+ca)%1000000000))),0,(((g*((Big.digs V).getD i 0))+ca) / 1000000000)) (show (i+1)≤m+2∧Big.MsI u j g (Big.digs V) (i+1) (w.set (j+i) (((w.getD (j+i) 0) - bo) - (((g*((Big.digs V).getD i 0))+ca)%1000000000))) 0 (((g*((Big.digs V).getD i 0))+ca) / 1000000000) from by exact ⟨by omega,hM2.step ⟨hg0,hg1⟩ (Big.digs_ok V) (by omega) (by omega) ⟨by omega,by omega⟩ ⟨by decide,by decide⟩⟩) (by show (m+2) - (i+1)<(m+2) - i;omega) ((.of rfl):SubM _ _) (ho:=((.of [0,0] rfl):PickO _ _ _)) ((.of [1,2,3,4,5,6,7,8,9] rfl):SelR _ _ _)
    ·
     have hM3:Big.MsI u j g (Big.digs V) (m+2) w bo ca:=by have h8:i=m+2:=(by omega);exact h8 ▸ hM2
     have hwo2:=Big.okL_getD hM2.ok (j+(m+2))
     refine zfa<|zm<|zm<|zv<|ze<|zi<|zc<|r_pv rfl rfl (zb rfl)<|r_pv rfl rfl (zb rfl)<|r_pv rfl rfl (zb rfl)<|r_pv rfl rfl (zy (z:=(((j+(m+2)):Nat):Int)) rfl rfl (w64 (by omega)))<|r_u rfl rfl (zia 1 (j+(m+2)) rfl Try.underlying41 sz101 rfl (by first|rfl|assumption|(simp;done)|omega) rfl rfl (by omega))<|r_vl rfl rfl (zU 1 (j+(m+2)) rfl ty101 rfl rfl (gD (d:=0) (by omega)) rfl) (fun _ hok40=> ?_)
     replace hok40:=zw.1 hok40
     refine r_pv rfl rfl (zx (z:=(w.getD (j+(m+2)) 0)) rfl (by rw [Try.underlying101];rfl) Try.underlying2 (w64 (by omega)))<|r_pv rfl rfl (zb rfl)<|r_pv rfl rfl (zda (z:=((w.getD (j+(m+2)) 0) - bo)) rfl rfl (w64 (by omega)))<|r_pv rfl rfl (zb rfl)<|r_pv rfl rfl (zx (z:=ca) rfl (by rw [Try.underlying100];rfl) Try.underlying2 (w64 (by omega)))<|r_pv rfl rfl (zda (z:=(((w.getD (j+(m+2)) 0) - bo) - ca)) rfl rfl (w64 (by omega)))<|r_pv rfl rfl (zd rfl)<|zj<|ze<|zi<|zi<|zc<|r_pv rfl rfl (zb rfl)<|r_pv rfl rfl (zW rfl rfl)<|zj<|ze<|zD rfl (fun hd=> ?_) (fun hd=> ?_)
     ·
      have hg9:=hI.neg1 hM3 hm hd
      refine zi<|zc<|r_pv rfl rfl (zb rfl)<|r_pv rfl rfl (zb rfl)<|r_pv rfl rfl (zb rfl)<|r_pv rfl rfl (zy (z:=(((j+(m+2)):Nat):Int)) rfl rfl (w64 (by omega)))<|r_pv rfl rfl (zb rfl)<|r_pv rfl rfl (zy (z:=((((w.getD (j+(m+2)) 0) - bo) - ca)+1000000000)) rfl rfl (w64 (by omega)))<|r_pv rfl rfl (zx (z:=((((w.getD (j+(m+2)) 0) - bo) - ca)+1000000000)) rfl (by rw [Try.underlying2];rfl) Try.underlying101 (wu32 (by omega)))<|r_u rfl rfl (zia 1 (j+(m+2)) rfl Try.underlying41 sz101 rfl (by first|rfl|assumption|(simp;done)|omega) rfl rfl (by omega))<|zxa 1 rfl rfl rfl (zR (j:=(j+(m+2))) (x0:=((((w.getD (j+(m+2)) 0) - bo) - ca)+1000000000)) (γ0:=()) rfl rfl (by first|omega|(rw [List.length_map];omega)|(simp only [List.length_set];omega)|(simp;done)|(simp;omega)) rfl rfl sz101 (fun _ _=>by exact zw.2 (by omega))) (fun _=>(.s .z)) (fun _ _=> ?_)
      refine zj<|ze<|zi<|zc<|r_pv rfl rfl (zb rfl)<|r_pv rfl rfl (zda (z:=(g - 1)) rfl rfl (wu64 (by omega)))<|r_pv rfl rfl (zd rfl)<|zj<|ze<|zi<|zc<|r_pv rfl rfl (zd rfl)<|zj<|ze<|zi<|zi<|zc<|r_pv rfl rfl (zb rfl)<|r_pv rfl rfl (zb rfl)<|zj<|ze<|zz<|zma (X:=Nat×(List Int)×Int) (fun x:Nat×(List Int)×Int=>x.1≤m+2∧Big.AbI (w.set (j+(m+2)) ((((w.getD (j+(m+2)) 0) - bo) - ca)+1000000000)) j (Big.digs V) x.1 x.2.1 x.2.2) (fun x=>[(20,.int .u32 (x.2.2)),(201,.int .i64 ((x.1:Nat):Int)),(200,.int .i64 (((m+2):Nat):Int)),(12,.int .u64 (g - 1)),(10,.int .i64 ((j:Nat):Int)),(4,.slice (some ⟨b20,0,none⟩) (M - (m+2)) (M - (m+2))),(7,.slice p17 M c18),(9,.int .i64 (((m+2):Nat):Int)),(8,.slice p313 (m+2) c314),(6,.int .u32 ((s:Nat):Int)),(5,.slice none 0 0)]) (fun x=>[rowA 101 (rI .u32) (some ⟨b20,0,none⟩) (M - (m+2)) (List.replicate (j+1) 0++qs),rowA 101 (rI .u32) p17 c18 (x.2.1)]) (fun x=>[atF b26 o27 [.int .u32 ((Big.digs V).getD (m+1) 0)],atF b23 o24 [.int .u32 ((Big.digs V).getD (m+1) 0)],slF (rI .u32) (some ⟨b16,0,none⟩) 1 ([0]),slF (rI .u32) p313 c314 (Big.digs V),slF (rI .u32) (some ⟨b10,0,none⟩) 1 (Big.digs s),slF (rI .u32) (some ⟨b5,0,none⟩) 1 (Big.digs s),atF b1 o2 [.int .u32 ((Big.digs b).getD ((Big.digs b).length - 1) 0)],slF (rI .u32) p1 c1 (Big.digs a),slF (rI .u32) p2 c2 (Big.digs b)]) (fun x:Nat×(List Int)×Int=>(m+2) - x.1) (0,(w.set (j+(m+2)) ((((w.getD (j+(m+2)) 0) - bo) - ca)+1000000000)),0) (show 0≤m+2∧Big.AbI (w.set (j+(m+2)) ((((w.getD (j+(m+2)) 0) - bo) - ca)+1000000000)) j (Big.digs V) 0 (w.set (j+(m+2)) ((((w.getD (j+(m+2)) 0) - bo) - ca)+1000000000)) 0 from by exact ⟨Nat.zero_le _,Big.AbI.start (Big.okL_set hM2.ok (by omega) (by omega)) _ _⟩) ((.c rfl (.e rfl (by first|rfl|(congr 1;omega)|simp_all) (.of rfl))):SubM _ _) (ho:=((.c (i:=0) rfl (.e (i:=0) rfl (by first|rfl|(congr 1;omega)|simp_all) .n)):PickO _ _ _)) ((.of [0,1,2,3,4,5,6,7,8] rfl):SelR _ _ _) ?_
      rintro ⟨i2,xs,cc⟩ hAA
      replace hAA:i2≤m+2∧Big.AbI (w.set (j+(m+2)) ((((w.getD (j+(m+2)) 0) - bo) - ca)+1000000000)) j (Big.digs V) i2 xs cc:=hAA
      try dsimp only
      obtain ⟨hile2,hA2⟩:=hAA
      have hk0:=hA2.c0
      have hk1:=hA2.c1
      have hxl:=hA2.len
      rw [List.length_set] at hxl
      have hxo:=Big.okL_getD hA2.ok (j+i2)
      have hvi2:=Big.okL_getD (Big.digs_ok V) i2
      refine zi<|zc<|r_pv rfl rfl (zW rfl rfl)<|zj<|ze<|zi<|zD rfl (fun hi=> ?_) (fun hi=> ?_)
      ·
       refine zA<|ze<|zi<|zz<|zi<|zc<|r_pv rfl rfl (zb rfl)<|r_pv rfl rfl (zd rfl)<|zj<|ze<|zi<|zja (OW:=[]) (O:=[rowA 101 (rI .u32) (some ⟨b20,0,none⟩) (M - (m+2)) (List.replicate (j+1) 0++qs),rowA 101 (rI .u32) p17 c18 xs]) 100000 mixed (.then (.block (.then (.then (.block (.then (.then (.block (.then (.then (.block (.then .ret)))))))))))) (by kernel_rfl)<|d_pv 0 rfl rfl (by kernel_rfl) (by kernel_rfl) rfl rfl (zb rfl)<|d_pv 1 rfl rfl (by kernel_rfl) (by kernel_rfl) rfl rfl (zb rfl)<|d_pv 2 rfl rfl (by kernel_rfl) (by kernel_rfl) rfl rfl (zb rfl)<|d_pv 3 rfl rfl (by kernel_rfl) (by kernel_rfl) rfl rfl (zy (z:=(((j+i2):Nat):Int)) rfl rfl (w64 (by omega)))<|d_u 4 rfl rfl (by kernel_rfl) (by kernel_rfl) rfl rfl (zia 1 (j+i2) rfl Try.underlying41 sz101 rfl (by first|rfl|assumption|(simp;done)|omega) rfl rfl (by omega))<|d_vl 5 rfl rfl (by kernel_rfl) (by kernel_rfl) rfl rfl (zU 1 (j+i2) rfl ty101 rfl rfl (gD (d:=0) (by omega)) rfl) (fun _ hok41=> ?_)
       replace hok41:=zw.1 hok41
       refine d_pv 6 rfl rfl (by kernel_rfl) (by kernel_rfl) rfl rfl (zb rfl)<|d_pv 7 rfl rfl (by kernel_rfl) (by kernel_rfl) rfl rfl (zb rfl)<|zoa (x0:=((Big.digs V).getD i2 0)) 8 rfl rfl (by kernel_rfl) (by kernel_rfl) 3 i2 rfl Try.underlying41 sz101 rfl rfl rfl (by first|rfl|assumption|(simp;done)|omega) rfl rfl (gD (d:=0) (by omega)) (fun b42 o43 hok44=> ?_)
       replace hok44:=zw.1 hok44
       refine d_u 9 rfl rfl (by kernel_rfl) (by kernel_rfl) rfl rfl (zl (j:=0) 0 ty101 rfl rfl rfl rfl)<|d_pv 10 rfl rfl (by kernel_rfl) (by kernel_rfl) rfl rfl (zy (z:=((xs.getD (j+i2) 0)+((Big.digs V).getD i2 0))) rfl rfl (wu32 (by omega)))<|d_pv 11 rfl rfl (by kernel_rfl) (by kernel_rfl) rfl rfl (zb rfl)<|d_pv 12 rfl rfl (by kernel_rfl) (by kernel_rfl) rfl rfl (zy (z:=(((xs.getD (j+i2) 0)+((Big.digs V).getD i2 0))+cc)) rfl rfl (wu32 (by omega)))<|d_pv 13 rfl rfl (by kernel_rfl) (by kernel_rfl) rfl rfl (zd rfl)<|zga (by kernel_rfl)<|ze<|zi<|zc<|r_pv rfl rfl (zd rfl)<|zj<|ze<|zi<|zi<|zc<|r_pv rfl rfl (zb rfl)<|r_pv rfl rfl (zya rfl rfl)<|zj<|ze<|zD rfl (fun hcy=> ?_) (fun hcy=> ?_)
       ·
        refine zc<|r_pv rfl rfl (zb rfl)<|r_pv rfl rfl (zda (z:=((((xs.getD (j+i2) 0)+((Big.digs V).getD i2 0))+cc) - 1000000000)) rfl rfl (wu32 (by omega)))<|r_pv rfl rfl (zd rfl)<|r_pv rfl rfl (zd rfl)<|zj<|ze<|zc<|r_pv rfl rfl (zb rfl)<|r_pv rfl rfl (zb rfl)<|r_pv rfl rfl (zb rfl)<|r_pv rfl rfl (zy (z:=(((j+i2):Nat):Int)) rfl rfl (w64 (by omega)))<|r_pv rfl rfl (zb rfl)<|r_u rfl rfl (zia 1 (j+i2) rfl Try.underlying41 sz101 rfl (by first|rfl|assumption|(simp;done)|omega) rfl rfl (by omega))<|zxa 1 rfl rfl rfl (zR (j:=(j+i2)) (x0:=((((xs.getD (j+i2) 0)+((Big.digs V).getD i2 0))+cc) - 1000000000)) (γ0:=()) rfl rfl (by first|omega|(rw [List.length_map];omega)|(simp only [List.length_set];omega)|(simp;done)|(simp;omega)) rfl rfl sz101 (fun _ _=>by exact zw.2 (by omega))) (fun _=>(.s .z)) (fun _ _=> ?_)
        refine zj<|zJ<|ze<|zc<|r_pv rfl rfl (zy (z:=(((i2+1):Nat):Int)) rfl rfl (w64 (by omega)))<|r_pv rfl rfl (zb rfl)<|zj<|zba ((i2+1),(xs.set (j+i2) ((((xs.getD (j+i2) 0)+((Big.digs V).getD i2 0))+cc) - 1000000000)),1) (show (i2+1)≤m+2∧Big.AbI (w.set (j+(m+2)) ((((w.getD (j+(m+2)) 0) - bo) - ca)+1000000000)) j (Big.digs V) (i2+1) (xs.set (j+i2) ((((xs.getD (j+i2) 0)+((Big.digs V).getD i2 0))+cc) - 1000000000)) 1 from by exact ⟨by omega,hA2.step (by rw [List.length_set];omega) (by omega) ⟨by omega,by omega⟩ ⟨by decide,by decide⟩⟩) (by show (m+2) - (i2+1)<(m+2) - i2;omega) ((.of rfl):SubM _ _) (ho:=((.of [0,0] rfl):PickO _ _ _)) ((.of [1,2,3,4,5,6,7,8,9] rfl):SelR _ _ _)
       ·
        refine zA<|ze<|zc<|r_pv rfl rfl (zb rfl)<|r_pv rfl rfl (zb rfl)<|r_pv rfl rfl (zb rfl)<|r_pv rfl rfl (zy (z:=(((j+i2):Nat):Int)) rfl rfl (w64 (by omega)))<|r_pv rfl rfl (zb rfl)<|r_u rfl rfl (zia 1 (j+i2) rfl Try.underlying41 sz101 rfl (by first|rfl|assumption|(simp;done)|omega) rfl rfl (by omega))<|zxa 1 rfl rfl rfl (zR (j:=(j+i2)) (x0:=(((xs.getD (j+i2) 0)+((Big.digs V).getD i2 0))+cc)) (γ0:=()) rfl rfl (by first|omega|(rw [List.length_map];omega)|(simp only [List.length_set];omega)|(simp;done)|(simp;omega)) rfl rfl sz101 (fun _ _=>by exact zw.2 (by omega))) (fun _=>(.s .z)) (fun _ _=> ?_)
        refine zj<|zJ<|ze<|zc<|r_pv rfl rfl (zy (z:=(((i2+1):Nat):Int)) rfl rfl (w64 (by omega)))<|r_pv rfl rfl (zb rfl)<|zj<|zba ((i2+1),(xs.set (j+i2) (((xs.getD (j+i2) 0)+((Big.digs V).getD i2 0))+cc)),0) (show (i2+1)≤m+2∧Big.AbI (w.set (j+(m+2)) ((((w.getD (j+(m+2)) 0) - bo) - ca)+1000000000)) j (Big.digs V) (i2+1) (xs.set (j+i2) (((xs.getD (j+i2) 0)+((Big.digs V).getD i2 0))+cc)) 0 from by exact ⟨by omega,hA2.step (by rw [List.length_set];omega) (by omega) ⟨by omega,by omega⟩ ⟨by decide,by decide⟩⟩) (by show (m+2) - (i2+1)<(m+2) - i2;omega) ((.of rfl):SubM _ _) (ho:=((.of [0,0] rfl):PickO _ _ _)) ((.of [1,2,3,4,5,6,7,8,9] rfl):SelR _ _ _)
      ·
       have hA3:Big.AbI (w.set (j+(m+2)) ((((w.getD (j+(m+2)) 0) - bo) - ca)+1000000000)) j (Big.digs V) (m+2) xs cc:=by have h8:i2=m+2:=(by omega);exact h8 ▸ hA2
       have hxo2:=Big.okL_getD hA2.ok (j+(m+2))
       refine zfa<|zm<|zm<|zv<|ze<|zc<|r_pv rfl rfl (zb rfl)<|r_pv rfl rfl (zb rfl)<|r_pv rfl rfl (zb rfl)<|r_pv rfl rfl (zy (z:=(((j+(m+2)):Nat):Int)) rfl rfl (w64 (by omega)))<|r_pv rfl rfl (zb rfl)<|r_pv rfl rfl (zb rfl)<|r_pv rfl rfl (zb rfl)<|r_pv rfl rfl (zy (z:=(((j+(m+2)):Nat):Int)) rfl rfl (w64 (by omega)))<|r_u rfl rfl (zia 1 (j+(m+2)) rfl Try.underlying41 sz101 rfl (by first|rfl|assumption|(simp;done)|omega) rfl rfl (by omega))<|r_vl rfl rfl (zU 1 (j+(m+2)) rfl ty101 rfl rfl (gD (d:=0) (by omega)) rfl) (fun _ hok45=> ?_)
       replace hok45:=zw.1 hok45
       refine r_pv rfl rfl (zb rfl)<|r_pv rfl rfl (zy (z:=((xs.getD (j+(m+2)) 0)+cc)) rfl rfl (wu32 (by omega)))<|r_pv rfl rfl (zHa (z:=(((xs.getD (j+(m+2)) 0)+cc)%1000000000)) rfl rfl (by omega) (remN (by omega) (by omega)))<|r_u rfl rfl (zia 1 (j+(m+2)) rfl Try.underlying41 sz101 rfl (by first|rfl|assumption|(simp;done)|omega) rfl rfl (by omega))<|zxa 1 rfl rfl rfl (zR (j:=(j+(m+2))) (x0:=(((xs.getD (j+(m+2)) 0)+cc)%1000000000)) (γ0:=()) rfl rfl (by first|omega|(rw [List.length_map];omega)|(simp only [List.length_set];omega)|(simp;done)|(simp;omega)) rfl rfl sz101 (fun _ _=>by exact zw.2 (by omega))) (fun _=>(.s .z)) (fun _ _=> ?_)
       refine zj<|ze<|zc<|r_pv rfl rfl (zb rfl)<|r_pv rfl rfl (zb rfl)<|r_pv rfl rfl (zb rfl)<|r_pv rfl rfl (zx (z:=(g - 1)) rfl (by rw [Try.underlying100];rfl) Try.underlying101 (wu32 (by omega)))<|r_pv rfl rfl (zN (j:=j) Try.underlying41 sz101 rfl rfl rfl (by omega))<|zxa 0 rfl rfl rfl (zR (j:=j) (x0:=(g - 1)) (γ0:=()) rfl rfl (by first|omega|(rw [List.length_map];omega)|(simp only [List.length_set];omega)|(simp;done)|(simp;omega)) rfl rfl sz101 (fun _ _=>by exact zw.2 (by omega))) (fun _=> .z) (fun _ _=> ?_)
       refine zj<|zJ<|ze<|zc<|r_pv rfl rfl (zb rfl)<|r_pv rfl rfl (zda (z:=(((j:Nat):Int) - 1)) rfl rfl (w64 (by omega)))<|r_pv rfl rfl (zd rfl)<|zj<|zba (j,(xs.set (j+(m+2)) (((xs.getD (j+(m+2)) 0)+cc)%1000000000)),((g - 1) :: qs)) (show Big.LgI M (m+2) ((A:Nat):Int) ((V:Nat):Int) j (xs.set (j+(m+2)) (((xs.getD (j+(m+2)) 0)+cc)%1000000000)) ((g - 1) :: qs) from by exact (hI.neg ⟨hg0,hg1⟩ hdn hup hM3 hm hd hA3).2) (by show j<j+1;omega) ((.of rfl):SubM _ _) (ho:=((.e (i:=0) rfl (by rw [Big.pad_set]) (.c (i:=0) rfl .n)):PickO _ _ _)) ((.of [2,3,4,5,6,7,8] rfl):SelR _ _ _)
     ·
      refine zc<|r_pv rfl rfl (zb rfl)<|r_pv rfl rfl (zb rfl)<|r_pv rfl rfl (zb rfl)<|r_pv rfl rfl (zy (z:=(((j+(m+2)):Nat):Int)) rfl rfl (w64 (by omega)))<|r_pv rfl rfl (zb rfl)<|r_pv rfl rfl (zx (z:=(((w.getD (j+(m+2)) 0) - bo) - ca)) rfl (by rw [Try.underlying2];rfl) Try.underlying101 (wu32 (by omega)))<|r_u rfl rfl (zia 1 (j+(m+2)) rfl Try.underlying41 sz101 rfl (by first|rfl|assumption|(simp;done)|omega) rfl rfl (by omega))<|zxa 1 rfl rfl rfl (zR (j:=(j+(m+2))) (x0:=(((w.getD (j+(m+2)) 0) - bo) - ca)) (γ0:=()) rfl rfl (by first|omega|(rw [List.length_map];omega)|(simp only [List.length_set];omega)|(simp;done)|(simp;omega)) rfl rfl sz101 (fun _ _=>by exact zw.2 (by omega))) (fun _=>(.s .z)) (fun _ _=> ?_)
      refine zj<|ze<|zc<|r_pv rfl rfl (zb rfl)<|r_pv rfl rfl (zb rfl)<|r_pv rfl rfl (zb rfl)<|r_pv rfl rfl (zx (z:=g) rfl (by rw [Try.underlying100];rfl) Try.underlying101 (wu32 (by omega)))<|r_pv rfl rfl (zN (j:=j) Try.underlying41 sz101 rfl rfl rfl (by omega))<|zxa 0 rfl rfl rfl (zR (j:=j) (x0:=g) (γ0:=()) rfl rfl (by first|omega|(rw [List.length_map];omega)|(simp only [List.length_set];omega)|(simp;done)|(simp;omega)) rfl rfl sz101 (fun _ _=>by exact zw.2 (by omega))) (fun _=> .z) (fun _ _=> ?_)
      refine zj<|zJ<|ze<|zc<|r_pv rfl rfl (zb rfl)<|r_pv rfl rfl (zda (z:=(((j:Nat):Int) - 1)) rfl rfl (w64 (by omega)))<|r_pv rfl rfl (zd rfl)<|zj<|zba (j,(w.set (j+(m+2)) (((w.getD (j+(m+2)) 0) - bo) - ca)),(g :: qs)) (show Big.LgI M (m+2) ((A:Nat):Int) ((V:Nat):Int) j (w.set (j+(m+2)) (((w.getD (j+(m+2)) 0) - bo) - ca)) (g :: qs) from by exact hI.pos ⟨hg0,hg1⟩ hup hM3 hm (by omega)) (by show j<j+1;omega) ((.of rfl):SubM _ _) (ho:=((.e (i:=0) rfl (by rw [Big.pad_set]) (.c (i:=0) rfl .n)):PickO _ _ _)) ((.of [2,3,4,5,6,7,8] rfl):SelR _ _ _)
  ·
   have hj0:jj=0:=by omega
   have hI0:Big.LgI M (m+2) ((A:Nat):Int) ((V:Nat):Int) 0 u qs:=hj0 ▸ hI
   obtain ⟨hf1,hf2⟩:=hI0.fin hm
   have hsc:=Big.scale_div (a:=a) (b:=b) hs1
   have hql:qs.length=M - (m+2):=by have h8:=hI0.ql;omega
   have hul0:=hI0.ul
   refine zfa<|zm<|zm<|zv<|ze<|zi<|zPe 1 rfl (.s .z)<|zca 0 rfl (fun hcu=> ?_)
   have hAV:(Big.digs (A%V)).length≤1099511627776:=Nat.le_trans (Big.ln_mono' (Nat.le_of_lt (Nat.mod_lt A (Nat.pos_of_ne_zero (fun e=>by rw [e] at hm;cases hm))))) (by omega)
   have e46:List.replicate jj 0++qs=qs:=by rw [hj0];rfl
   rw [e46]
   refine zc<|r_pv rfl rfl (zb rfl)<|r_pv rfl rfl (zb rfl)<|r_pv rfl rfl (zZa (hi:=(m+2)) Try.underlying41 sz101 rfl (.s rfl) (.inr ⟨_,rfl⟩) (by omega))<|zpc (zUb 0 rfl (m+2) (by omega)) (fun _ _=> ?_)
   refine zB rfl rfl (.c rfl .n) ce101 (zlb (p:=p17) (n:=(m+2)) (cap:=c18) (l:=(u.take (m+2))) (hn:=by first|rfl|assumption|omega|(simp;done)|(simp;omega)|(simp_all;done))) (.c (j:=0) rfl .n) ?_
   rintro ⟨⟩ -
   dsimp only [List.append_eq,List.nil_append,List.cons_append]
   refine r_pv rfl rfl (zb rfl) ?_
   have e47:Big.trimL (u.take (m+2))=Big.digs (A%V):=by exact hf2
   rw [e47]
   refine zB rfl rfl (.c rfl (.c rfl .n)) ce112 (zfd (a:=A%V) (mm:=s) (p:=p17) (cap:=c18) (hb:=by omega) (hm0:=by omega) (hm1:=by omega)) (.c (j:=0) rfl .n) ?_
   rintro ⟨p248,c249⟩ -
   dsimp only [List.append_eq,List.nil_append,List.cons_append]
   refine r_pv rfl rfl (zb rfl)<|r_pv rfl rfl (zp rfl rfl)<|r_pv rfl rfl (zp rfl rfl)<|r_pv rfl rfl (zd rfl)<|zj<|ze<|zi<|zc<|r_pv rfl rfl (zb rfl)<|zea 0 rfl .z<|zB rfl rfl (.c rfl .n) ce101 (zlb (p:=some ⟨b20,0,none⟩) (n:=(M - (m+2))) (cap:=(M - (m+2))) (l:=qs) (hn:=by first|rfl|assumption|omega|(simp;done)|(simp;omega)|(simp_all;done))) (.c (j:=0) rfl .n) ?_
   rintro ⟨⟩ -
   dsimp only [List.append_eq,List.nil_append,List.cons_append]
   refine r_pv rfl rfl (zb rfl)<|r_pv rfl rfl (zd rfl)<|r_pv rfl rfl (zd rfl)<|zj<|ze<|zI ?_
   have e50:Big.trimL qs=Big.digs (A / V):=by exact hf1
   rw [e50]
   exact zva Try.results113 ((some ⟨b20,0,none⟩),(M - (m+2)),p248,c249) trivial (zq rfl) (zq rfl) (by rw [hA,hV,hsc.1,hsc.2]) (ho:=(.n:PickO _ _ _)) ((.e (j:=0) rfl (by rw [hA,hV,hsc.1]) (.e (j:=2) rfl (by rw [hA,hV,hsc.2]) .n)):SelR _ _ _)
end Go.Proofs.Ytefbbhiaalcjfaa.Sp
namespace Go.Proofs.Ytefbbhiaalcjfaa.Sp
open Go
set_option linter.unusedVariables false
set_option maxRecDepth 100000
set_option maxHeartbeats 8000000
theorem zLd {a:Nat} {b:Nat} {p1:Option Addr} {c1:Nat} {p2:Option Addr} {c2:Nat} (hb1:(Big.digs a).length≤1099511627776) (hb2:(Big.digs b).length≤1099511627776) (hb0:0<b):Con Try.prog 106 [.slice p1 ((Big.digs a).length) c1,.slice p2 ((Big.digs b).length) c2] [] [slF (rI .u32) p1 c1 (Big.digs a),slF (rI .u32) p2 c2 (Big.digs b)] (Y:=(Option Addr)×Nat×(Option Addr)×Nat) (fun y=>True) (fun y=> .tuple #[.slice (y.1) ((Big.digs (a / b)).length) (y.2.1),.slice (y.2.2.1) ((Big.digs (a%b)).length) (y.2.2.2)]) (fun y=>[]) (fun y=>[slF (rI .u32) (y.1) (y.2.1) (Big.digs (a / b)),slF (rI .u32) (y.2.2.1) (y.2.2.2) (Big.digs (a%b))]):=by
 refine zr Try.func106 rfl rfl rfl (fun c=> ?_)
 show RunC _ _ _ _ _ [(0,.slice p1 ((Big.digs a).length) c1),(1,.slice p2 ((Big.digs b).length) c2)] [] [slF (rI .u32) p1 c1 (Big.digs a),slF (rI .u32) p2 c2 (Big.digs b)]
 refine zca 0 rfl (fun hL0=> ?_)
 refine zca 1 rfl (fun hL1=> ?_)
 have hd1:=Nat.div_le_self a b
 have hd2:=Nat.mod_le a b
 have hob:=Big.okL_getD (Big.digs_ok b) 0
 refine zi<|zc<|r_pv rfl rfl (zd rfl)<|r_pv rfl rfl (zd rfl)<|zj<|ze<|zi<|zi<|zc<|r_pv rfl rfl (zb rfl)<|r_pv rfl rfl (zb rfl)<|zO rfl rfl (.c rfl (.c rfl .n)) ce111 (zud (a:=a) (b:=b) (p1:=p1) (c1:=c1) (p2:=p2) (c2:=c2)) (.c (j:=0) rfl (.c (j:=1) rfl .n))<|r_pv rfl rfl (zW rfl rfl)<|zj<|ze<|zD rfl (fun hlt=> ?_) (fun hlt=> ?_)
 ·
  have hab9:¬(b:Int)≤a:=fun h=>by have:=Big.cmp_ge.2 h;omega
  have hab:a<b:=by omega
  refine zi<|zc<|r_pv rfl rfl (zb rfl)<|r_pv rfl rfl (zd rfl)<|r_pv rfl rfl (zd rfl)<|zj<|ze<|zI<|zt ?_
  have hz1:a / b=0:=Nat.div_eq_of_lt hab
  have hz2:a%b=a:=Nat.mod_eq_of_lt hab
  refine zbc (rI .u32) ?_
  exact zva Try.results106 (none,0,p1,c1) trivial (zq rfl) (zq rfl) (by rw [hz1,hz2];rfl) (ho:=(.n:PickO _ _ _)) ((.e (j:=0) rfl (by rw [hz1];rfl) (.e (j:=1) rfl (by rw [hz2]) .n)):SelR _ _ _)
 ·
  have hab:b≤a:=by have h9:=Big.cmp_ge.1 (by omega:0≤Big.cmp (a:Int) (b:Int));omega
  refine zA<|ze<|zi<|zc<|r_pv rfl rfl (zb rfl)<|zO rfl rfl (.c rfl .n) ce105 (zVb (a:=a) (p:=p1) (cap:=c1)) (.c (j:=0) rfl .n)<|r_pv rfl rfl (zb rfl)<|r_pv rfl rfl (zp rfl rfl)<|r_pv rfl rfl (zp rfl rfl)<|r_pv rfl rfl (zd rfl)<|r_pv rfl rfl (zd rfl)<|zj<|ze<|zi<|zc<|r_pv rfl rfl (zb rfl)<|zO rfl rfl (.c rfl .n) ce105 (zVb (a:=b) (p:=p2) (cap:=c2)) (.c (j:=1) rfl .n)<|r_pv rfl rfl (zb rfl)<|r_pv rfl rfl (zp rfl rfl)<|r_pv rfl rfl (zp rfl rfl)<|r_pv rfl rfl (zd rfl)<|r_pv rfl rfl (zd rfl)<|zj<|ze<|zi<|zFa (X:=Unit) (fun x=>True) (fun x=>[(30,.bool (decide (((Big.digs a).length≤2)∧((Big.digs b).length≤2)))),(8,.int .u64 (((if (Big.digs b).length≤2 then b else 0):Nat):Int)),(6,.int .u64 (((if (Big.digs a).length≤2 then a else 0):Nat):Int)),(5,.slice none 0 0),(4,.slice none 0 0),(0,.slice p1 ((Big.digs a).length) c1),(1,.slice p2 ((Big.digs b).length) c2)]) (fun x=>[]) (fun x=>[slF (rI .u32) p1 c1 (Big.digs a),slF (rI .u32) p2 c2 (Big.digs b)]) ?_ ?_
  ·
   refine zc<|r_pv rfl rfl (zb rfl)<|zP rfl rfl (zb rfl) (fun h1=> ?_) (fun h1=> ?_)
   ·
    refine r_pv rfl rfl (zb rfl)<|r_pv rfl rfl (zk rfl rfl)<|zj ?_
    exact zZ () (show True from by first|trivial|omega|simp_all) ((.e rfl (congrArg Value.bool (by first|(simp_all;done)|(simp_all;omega)|(simp;omega)|omega)) (.of rfl)):SubM _ _) (ho:=(.n:PickO _ _ _)) ((.of [0,1] rfl):SelR _ _ _)
   ·
    refine za rfl rfl<|r_pv rfl rfl (zk rfl rfl)<|zj ?_
    exact zZ () (show True from by first|trivial|omega|simp_all) ((.e rfl (congrArg Value.bool (by first|(simp_all;done)|(simp_all;omega)|(simp;omega)|omega)) (.of rfl)):SubM _ _) (ho:=(.n:PickO _ _ _)) ((.of [0,1] rfl):SelR _ _ _)
  ·
   rintro ⟨⟩ -
   try dsimp only
   refine zD rfl (fun hw=> ?_) (fun hw=> ?_)
   ·
    have ha18:=Big.two_lt hw.1
    have hb18:=Big.two_lt hw.2
    have hdn0:(0:Int)≤(a:Int) / (b:Int):=Int.ediv_nonneg (by omega) (by omega)
    have hdn1:(a:Int) / (b:Int)≤a:=Int.ediv_le_self _ (by omega)
    have hdm0:(0:Int)≤(a:Int)%(b:Int):=Int.emod_nonneg _ (by omega)
    have hdm1:(a:Int)%(b:Int)<b:=Int.emod_lt_of_pos _ (by omega)
    refine zi ?_
    have e2:(if (Big.digs a).length≤2 then a else 0)=a:=by rw [if_pos hw.1]
    rw [e2]
    have e3:(if (Big.digs b).length≤2 then b else 0)=b:=by rw [if_pos hw.2]
    rw [e3]
    refine zja (OW:=[]) (O:=[]) 100000 mixed (.then (.then .ret)) (by kernel_rfl)<|d_pv 0 rfl rfl (by kernel_rfl) (by kernel_rfl) rfl rfl (zb rfl)<|d_pv 1 rfl rfl (by kernel_rfl) (by kernel_rfl) rfl rfl (zb rfl)<|d_pv 2 rfl rfl (by kernel_rfl) (by kernel_rfl) rfl rfl (zGa (z:=(((a / b):Nat):Int)) rfl rfl (by omega) (by rw [quoN (z:=(((a / b):Nat):Int)) (by omega) (by omega)];exact wu64 (by omega)))<|d_pv 4 rfl rfl (by kernel_rfl) (by kernel_rfl) rfl rfl (zb rfl)<|d_pv 5 rfl rfl (by kernel_rfl) (by kernel_rfl) rfl rfl (zb rfl)<|d_pv 6 rfl rfl (by kernel_rfl) (by kernel_rfl) rfl rfl (zHa (z:=(((a%b):Nat):Int)) rfl rfl (by omega) (remN (by omega) (by omega)))<|zV 3 (by kernel_rfl) (zT rfl rfl rfl rfl (.c rfl .n) ce91 (zhb (n0:=(a / b)) (hn0:=by first|rfl|assumption|omega)) (.n) ?_)
    rintro ⟨p24,c25⟩ -
    dsimp only [List.append_eq,List.nil_append,List.cons_append]
    refine zV 7 (by kernel_rfl) (zT rfl rfl rfl rfl (.c rfl .n) ce91 (zhb (n0:=(a%b)) (hn0:=by first|rfl|assumption|omega)) (.n) ?_)
    rintro ⟨p26,c27⟩ -
    dsimp only [List.append_eq,List.nil_append,List.cons_append]
    refine d_pv 8 rfl rfl (by kernel_rfl) (by kernel_rfl) rfl rfl (zd rfl)<|d_pv 9 rfl rfl (by kernel_rfl) (by kernel_rfl) rfl rfl (zd rfl)<|zga (by kernel_rfl)<|ze<|zI<|zt ?_
    exact zva Try.results106 (p24,c25,p26,c27) trivial (zq rfl) (zq rfl) rfl (ho:=(.n:PickO _ _ _)) ((.of [1,0] rfl):SelR _ _ _)
   ·
    refine zA<|ze<|zi<|zi<|zc<|r_pv rfl rfl (zb rfl)<|r_pv rfl rfl (zM Try.underlying41 rfl)<|r_pv rfl rfl (zua rfl rfl)<|zj<|ze<|zD rfl (fun hl1=> ?_) (fun hl1=> ?_)
    ·
     have hbd:=Big.one_digit (by omega:(Big.digs b).length=1)
     have hln0:=Big.zre hb0
     have hmlt:=Nat.mod_lt a hb0
     have hdm0:(0:Int)≤(a:Int)%(b:Int):=Int.emod_nonneg _ (by omega)
     have hdm1:(a:Int)%(b:Int)<b:=Int.emod_lt_of_pos _ (by omega)
     refine zi<|zc<|r_pv rfl rfl (zb rfl)<|r_pv rfl rfl (zb rfl)<|zQ (x0:=((Big.digs b).getD 0 0)) 1 0 rfl Try.underlying41 sz101 rfl rfl rfl (by first|rfl|assumption|(simp;done)|omega) rfl rfl (gD (d:=0) (by omega)) (fun b8 o9 hok10=> ?_)
     replace hok10:=zw.1 hok10
     refine r_u rfl rfl (zl (j:=0) 0 ty101 rfl rfl rfl rfl) ?_
     have e11:(((Big.digs b).getD 0 0):Int)=((b:Nat):Int):=by exact hbd
     rw [e11]
     refine zB rfl rfl (.c rfl (.c rfl .n)) ce112 (zfd (a:=a) (mm:=b) (p:=p1) (cap:=c1) (hb:=by assumption) (hm0:=by assumption) (hm1:=by first|rfl|assumption|omega)) (.c (j:=1) rfl .n) ?_
     rintro ⟨p212,c213⟩ -
     dsimp only [List.append_eq,List.nil_append,List.cons_append]
     refine r_pv rfl rfl (zb rfl)<|r_pv rfl rfl (zp rfl rfl)<|r_pv rfl rfl (zp rfl rfl)<|r_pv rfl rfl (zd rfl)<|r_pv rfl rfl (zd rfl)<|zj<|ze<|zi<|zc<|r_pv rfl rfl (zb rfl)<|r_pv rfl rfl (zb rfl)<|r_pv rfl rfl (zx (z:=(((a%b):Nat):Int)) rfl (by rw [Try.underlying101];rfl) Try.underlying100 (wu64 (by omega)))<|zB rfl rfl (.c rfl .n) ce91 (zhb (n0:=(a%b)) (hn0:=by first|rfl|assumption|omega)) (.n) ?_
     rintro ⟨p214,c215⟩ -
     dsimp only [List.append_eq,List.nil_append,List.cons_append]
     refine r_pv rfl rfl (zd rfl)<|r_pv rfl rfl (zd rfl)<|zj<|ze<|zI<|zt ?_
     exact zva Try.results106 (p212,c213,p214,c215) trivial (zq rfl) (zq rfl) rfl (ho:=(.n:PickO _ _ _)) ((.of [1,0] rfl):SelR _ _ _)
    ·
     have hln0:=Big.zre hb0
     refine zA<|ze<|zi<|zc<|r_pv rfl rfl (zb rfl)<|r_pv rfl rfl (zb rfl)<|zB rfl rfl (.c rfl (.c rfl .n)) ce113 (zbf (a:=a) (b:=b) (p1:=p1) (c1:=c1) (p2:=p2) (c2:=c2) (hb1:=by assumption) (hb2:=by assumption) (hb3:=by first|rfl|assumption|omega) (hab:=by first|rfl|assumption|omega)) (.c (j:=0) rfl (.c (j:=1) rfl .n)) ?_
     rintro ⟨p316,c317,p418,c419⟩ -
     dsimp only [List.append_eq,List.nil_append,List.cons_append]
     refine r_pv rfl rfl (zp rfl rfl)<|r_pv rfl rfl (zp rfl rfl)<|r_pv rfl rfl (zd rfl)<|r_pv rfl rfl (zd rfl)<|zj<|ze<|zI ?_
     exact zva Try.results106 (p316,c317,p418,c419) trivial (zq rfl) (zq rfl) rfl (ho:=(.n:PickO _ _ _)) ((.of [0,1] rfl):SelR _ _ _)
theorem zuf {s:Bool} {p1:Option Addr} {n1:Nat} {c1:Nat} {l1:List Int} {t:Bool} {p2:Option Addr} {n2:Nat} {c2:Nat} {l2:List Int} (hn1:l1.length=n1) (hn2:l2.length=n2) (hb1:Big.ln (Big.raw s l1)≤1099511627776) (hb2:Big.ln (Big.raw t l2)≤1099511627776):Con Try.prog 99 [.agg #[.bool s,.slice p1 n1 c1],.agg #[.bool t,.slice p2 n2 c2]] [] [slF (rI .u32) p1 c1 l1,slF (rI .u32) p2 c2 l2] (Y:=(Option Addr)×Nat) (fun y=>True) (fun y=> .agg #[.bool (decide (((Nat.gcd (Big.raw s l1).natAbs (Big.raw t l2).natAbs:Nat):Int)<0)),.slice (y.1) ((Big.digs (((Nat.gcd (Big.raw s l1).natAbs (Big.raw t l2).natAbs:Nat):Int).natAbs)).length) (y.2)]) (fun y=>[]) (fun y=>[slF (rI .u32) (y.1) (y.2) (Big.digs (((Nat.gcd (Big.raw s l1).natAbs (Big.raw t l2).natAbs:Nat):Int).natAbs))]):=by
 refine zr Try.func99 rfl rfl rfl (fun c=> ?_)
 show RunC _ _ _ _ _ [(0,.agg #[.bool s,.slice p1 n1 c1]),(1,.agg #[.bool t,.slice p2 n2 c2])] [] [slF (rI .u32) p1 c1 l1,slF (rI .u32) p2 c2 l2]
 refine zca 0 rfl (fun hL0=> ?_)
 refine zbb 0 rfl (fun hE0=> ?_)
 refine zca 1 rfl (fun hL1=> ?_)
 refine zbb 1 rfl (fun hE1=> ?_)
 have hnn1:Big.nn l1:=fun g hg=>(zw.1 (hE0 g hg)).1
 have hnn2:Big.nn l2:=fun g hg=>(zw.1 (hE1 g hg)).1
 obtain ⟨x1,hx1⟩:∃z,z=Big.raw s l1:=⟨_,rfl⟩
 obtain ⟨x2,hx2⟩:∃z,z=Big.raw t l2:=⟨_,rfl⟩
 unfold Big.ln at hb1 hb2
 refine zi<|zc<|zS rfl rfl (zX rfl rfl) (fun b1=> ?_)
 refine zS rfl rfl (zX rfl rfl) (fun b2=> ?_)
 refine zS rfl rfl (zG zr43 rfl) (fun b3=> ?_)
 refine zj<|ze<|zi<|zja (OW:=[]) (O:=[boxA b3 43 [wz.b,wz.l],boxA b2 43 [.bool t,.slice p2 n2 c2],boxA b1 43 [.bool s,.slice p1 n1 c1]]) 100000 mixed (.then .ret) (by kernel_rfl)<|d_u 0 rfl rfl (by kernel_rfl) (by kernel_rfl) rfl rfl (zh 2 ty43 rfl rfl (.take (.take .nil)))<|d_u 2 rfl rfl (by kernel_rfl) (by kernel_rfl) rfl rfl (zh 1 ty43 rfl rfl (.take (.take .nil)))<|zV 1 (by kernel_rfl) (zT rfl rfl rfl rfl (.c rfl .n) ce97 (zgb (s:=s) (p:=p1) (n:=n1) (cap:=c1) (l:=l1) (hn:=by assumption)) (.c (j:=0) rfl .n) ?_)
 rintro ⟨p24,c25⟩ -
 dsimp only [List.append_eq,List.nil_append,List.cons_append]
 refine zV 3 (by kernel_rfl) (zT rfl rfl rfl rfl (.c rfl .n) ce97 (zgb (s:=t) (p:=p2) (n:=n2) (cap:=c2) (l:=l2) (hn:=by assumption)) (.c (j:=2) rfl .n) ?_)
 rintro ⟨p26,c27⟩ -
 dsimp only [List.append_eq,List.nil_append,List.cons_append]
 refine d_pv 4 rfl rfl (by kernel_rfl) (by kernel_rfl) rfl rfl (zd rfl)<|d_pv 5 rfl rfl (by kernel_rfl) (by kernel_rfl) rfl rfl (zd rfl)<|zga (by kernel_rfl)<|ze<|zi<|zz<|zma (X:=Nat×Nat×(Option Addr)×Nat×(Option Addr)×Nat) (fun x:Nat×Nat×(Option Addr)×Nat×(Option Addr)×Nat=>Nat.gcd x.1 x.2.1=Nat.gcd (Big.raw s l1).natAbs (Big.raw t l2).natAbs∧(Big.digs x.1).length≤1099511627776∧(Big.digs x.2.1).length≤1099511627776) (fun x=>[(6,.slice (x.2.2.2.2.1) ((Big.digs (x.2.1)).length) (x.2.2.2.2.2)),(5,.slice (x.2.2.1) ((Big.digs (x.1)).length) (x.2.2.2.1)),(4,.pointer (some ⟨b3,0,none⟩))]) (fun x=>[boxA b3 43 [wz.b,wz.l],boxA b2 43 [.bool t,.slice p2 n2 c2],boxA b1 43 [.bool s,.slice p1 n1 c1]]) (fun x=>[slF (rI .u32) (x.2.2.1) (x.2.2.2.1) (Big.digs (x.1)),slF (rI .u32) (x.2.2.2.2.1) (x.2.2.2.2.2) (Big.digs (x.2.1)),slF (rI .u32) p26 c27 (Big.digs ((Big.raw t l2).natAbs)),slF (rI .u32) p24 c25 (Big.digs ((Big.raw s l1).natAbs)),slF (rI .u32) p1 c1 l1,slF (rI .u32) p2 c2 l2]) (fun x:Nat×Nat×(Option Addr)×Nat×(Option Addr)×Nat=>x.2.1) ((Big.raw s l1).natAbs,(Big.raw t l2).natAbs,p24,c25,p26,c27) (show Nat.gcd ((Big.raw s l1).natAbs) ((Big.raw t l2).natAbs)=Nat.gcd (Big.raw s l1).natAbs (Big.raw t l2).natAbs∧(Big.digs ((Big.raw s l1).natAbs)).length≤1099511627776∧(Big.digs ((Big.raw t l2).natAbs)).length≤1099511627776 from by exact ⟨rfl,hb1,hb2⟩) ((.of rfl):SubM _ _) (ho:=((.of [0,0,0] rfl):PickO _ _ _)) ((.of [1,0,0,1,2,3] rfl):SelR _ _ _) ?_
 rintro ⟨a,b,pa,ca,pb,cb⟩ hI
 replace hI:Nat.gcd a b=Nat.gcd (Big.raw s l1).natAbs (Big.raw t l2).natAbs∧(Big.digs a).length≤1099511627776∧(Big.digs b).length≤1099511627776:=hI
 try dsimp only
 obtain ⟨hgc,hba,hbb⟩:=hI
 refine zi<|zi<|zc<|r_pv rfl rfl (zb rfl)<|r_pv rfl rfl (zM Try.underlying41 rfl)<|r_pv rfl rfl (zwa rfl rfl)<|zj<|ze<|zD rfl (fun hne=> ?_) (fun hne=> ?_)
 ·
  have hb0:0<b:=Nat.pos_of_ne_zero (fun e=>by rw [e] at hne;simp [Big.digs_zero] at hne)
  refine zA<|ze<|zz<|zi<|zc<|r_pv rfl rfl (zb rfl)<|zO rfl rfl (.c rfl .n) ce105 (zVb (a:=a) (p:=pa) (cap:=ca)) (.c (j:=0) rfl .n)<|r_pv rfl rfl (zb rfl)<|r_pv rfl rfl (zp rfl rfl)<|r_pv rfl rfl (zp rfl rfl)<|r_pv rfl rfl (zd rfl)<|r_pv rfl rfl (zd rfl)<|zj<|ze<|zi<|zc<|r_pv rfl rfl (zb rfl)<|zO rfl rfl (.c rfl .n) ce105 (zVb (a:=b) (p:=pb) (cap:=cb)) (.c (j:=1) rfl .n)<|r_pv rfl rfl (zb rfl)<|r_pv rfl rfl (zp rfl rfl)<|r_pv rfl rfl (zp rfl rfl)<|r_pv rfl rfl (zd rfl)<|r_pv rfl rfl (zd rfl)<|zj<|ze<|zi<|zFa (X:=Unit) (fun x=>True) (fun x=>[(33,.bool (decide (((Big.digs a).length≤2)∧((Big.digs b).length≤2)))),(9,.int .u64 (((if (Big.digs b).length≤2 then b else 0):Nat):Int)),(7,.int .u64 (((if (Big.digs a).length≤2 then a else 0):Nat):Int)),(6,.slice pb ((Big.digs b).length) cb),(5,.slice pa ((Big.digs a).length) ca),(4,.pointer (some ⟨b3,0,none⟩))]) (fun x=>[boxA b3 43 [wz.b,wz.l],boxA b2 43 [.bool t,.slice p2 n2 c2],boxA b1 43 [.bool s,.slice p1 n1 c1]]) (fun x=>[slF (rI .u32) pa ca (Big.digs a),slF (rI .u32) pb cb (Big.digs b),slF (rI .u32) p26 c27 (Big.digs ((Big.raw t l2).natAbs)),slF (rI .u32) p24 c25 (Big.digs ((Big.raw s l1).natAbs)),slF (rI .u32) p1 c1 l1,slF (rI .u32) p2 c2 l2]) ?_ ?_
  ·
   refine zc<|r_pv rfl rfl (zb rfl)<|zP rfl rfl (zb rfl) (fun hw1=> ?_) (fun hw1=> ?_)
   ·
    refine r_pv rfl rfl (zb rfl)<|r_pv rfl rfl (zk rfl rfl)<|zj ?_
    exact zZ () (show True from by first|trivial|omega|simp_all) ((.e rfl (congrArg Value.bool (by first|(simp_all;done)|(simp_all;omega)|(simp;omega)|omega)) (.of rfl)):SubM _ _) (ho:=((.of [0,0,0] rfl):PickO _ _ _)) ((.of [0,1,2,3,4,5] rfl):SelR _ _ _)
   ·
    refine za rfl rfl<|r_pv rfl rfl (zk rfl rfl)<|zj ?_
    exact zZ () (show True from by first|trivial|omega|simp_all) ((.e rfl (congrArg Value.bool (by first|(simp_all;done)|(simp_all;omega)|(simp;omega)|omega)) (.of rfl)):SubM _ _) (ho:=((.of [0,0,0] rfl):PickO _ _ _)) ((.of [0,1,2,3,4,5] rfl):SelR _ _ _)
  ·
   rintro ⟨⟩ -
   try dsimp only
   refine zD rfl (fun hw=> ?_) (fun hw=> ?_)
   ·
    have ha18:=Big.two_lt hw.1
    have hb18:=Big.two_lt hw.2
    have e8:(if (Big.digs a).length≤2 then a else 0)=a:=by rw [if_pos hw.1]
    rw [e8]
    have e9:(if (Big.digs b).length≤2 then b else 0)=b:=by rw [if_pos hw.2]
    rw [e9]
    refine zi<|zz<|zma (X:=Nat×Nat) (fun x:Nat×Nat=>Nat.gcd x.1 x.2=Nat.gcd a b∧x.1<1000000000000000000∧x.2<1000000000000000000) (fun x=>[(9,.int .u64 ((x.2:Nat):Int)),(7,.int .u64 ((x.1:Nat):Int)),(6,.slice pb ((Big.digs b).length) cb),(5,.slice pa ((Big.digs a).length) ca),(4,.pointer (some ⟨b3,0,none⟩))]) (fun x=>[boxA b3 43 [wz.b,wz.l],boxA b2 43 [.bool t,.slice p2 n2 c2],boxA b1 43 [.bool s,.slice p1 n1 c1]]) (fun x=>[slF (rI .u32) pa ca (Big.digs a),slF (rI .u32) pb cb (Big.digs b),slF (rI .u32) p26 c27 (Big.digs ((Big.raw t l2).natAbs)),slF (rI .u32) p24 c25 (Big.digs ((Big.raw s l1).natAbs)),slF (rI .u32) p1 c1 l1,slF (rI .u32) p2 c2 l2]) (fun x:Nat×Nat=>x.2) (a,b) (show Nat.gcd a b=Nat.gcd a b∧a<1000000000000000000∧b<1000000000000000000 from by exact ⟨rfl,ha18,hb18⟩) ((.of rfl):SubM _ _) (ho:=((.of [0,0,0] rfl):PickO _ _ _)) ((.of [0,1,2,3,4,5] rfl):SelR _ _ _) ?_
    rintro ⟨q,r⟩ hJ
    replace hJ:Nat.gcd q r=Nat.gcd a b∧q<1000000000000000000∧r<1000000000000000000:=hJ
    try dsimp only
    obtain ⟨hgq,hq18,hr18⟩:=hJ
    have hmr:=Nat.mod_le q r
    refine zi<|zi<|zc<|r_pv rfl rfl (zb rfl)<|r_pv rfl rfl (zwa rfl rfl)<|zj<|ze<|zD rfl (fun hy=> ?_) (fun hy=> ?_)
    ·
     refine zA<|ze<|zz<|zja (OW:=[]) (O:=[boxA b3 43 [wz.b,wz.l],boxA b2 43 [.bool t,.slice p2 n2 c2],boxA b1 43 [.bool s,.slice p1 n1 c1]]) 100000 mixed (.block (.then (.block (.then (.then (.block (.then (.block (.then .ret))))))))) (by kernel_rfl)<|d_pv 0 rfl rfl (by kernel_rfl) (by kernel_rfl) rfl rfl (zb rfl)<|d_pv 1 rfl rfl (by kernel_rfl) (by kernel_rfl) rfl rfl (zb rfl)<|d_pv 2 rfl rfl (by kernel_rfl) (by kernel_rfl) rfl rfl (zb rfl)<|d_pv 3 rfl rfl (by kernel_rfl) (by kernel_rfl) rfl rfl (zHa (z:=(((q%r):Nat):Int)) rfl rfl (by omega) (remN (by omega) (by omega)))<|d_pv 4 rfl rfl (by kernel_rfl) (by kernel_rfl) rfl rfl (zd rfl)<|d_pv 5 rfl rfl (by kernel_rfl) (by kernel_rfl) rfl rfl (zd rfl)<|zga (by kernel_rfl)<|zJ<|zba (r,(q%r)) (show Nat.gcd r (q%r)=Nat.gcd a b∧r<1000000000000000000∧(q%r)<1000000000000000000 from by exact ⟨by rw [Big.gcd_rest,hgq],hr18,by omega⟩) (by exact Nat.mod_lt q (by omega)) ((.of rfl):SubM _ _) (ho:=((.of [0,0,0] rfl):PickO _ _ _)) ((.of [0,1,2,3,4,5] rfl):SelR _ _ _)
    ·
     have hrz:r=0:=by omega
     have hfin:q=Nat.gcd (Big.raw s l1).natAbs (Big.raw t l2).natAbs:=by rw [← hgc,←hgq,hrz,Nat.gcd_zero_right]
     refine zfa<|zm<|zm<|zv<|ze<|zi<|zc<|r_pv rfl rfl (zb rfl)<|zB rfl rfl (.c rfl .n) ce91 (zhb (n0:=q) (hn0:=by first|rfl|assumption|omega)) (.n) ?_
     rintro ⟨p210,c211⟩ -
     dsimp only [List.append_eq,List.nil_append,List.cons_append]
     refine zB rfl rfl (.c rfl (.c rfl .n)) ce90 (zDa (s:=false) (a:=q) (p:=p210) (cap:=c211)) (.c (j:=0) rfl .n) ?_
     rintro ⟨p212,c213⟩ -
     dsimp only [List.append_eq,List.nil_append,List.cons_append]
     refine zo 0 rfl rfl rfl rfl rfl sz43 rfl (.take (.take .nil)) .z<|zj<|ze<|zI<|zt<|zaa<|zt<|zaa<|zt ?_
     exact zC Try.results99 (p212,c213) trivial (zu 0 ty43 rfl rfl (.take (.take .nil))) (by rw [← hfin];rfl) (ho:=(.n:PickO _ _ _)) ((.e (j:=0) rfl (by rw [← hfin];rfl) .n):SelR _ _ _)
   ·
    refine zA<|ze<|zi<|zc<|r_pv rfl rfl (zb rfl)<|r_pv rfl rfl (zb rfl)<|zB rfl rfl (.c rfl (.c rfl .n)) ce106 (zLd (a:=a) (b:=b) (p1:=pa) (c1:=ca) (p2:=pb) (c2:=cb) (hb1:=by first|rfl|assumption|omega) (hb2:=by first|rfl|assumption|omega) (hb0:=by first|rfl|assumption|omega)) (.c (j:=0) rfl (.c (j:=1) rfl .n)) ?_
    rintro ⟨p314,c315,p416,c417⟩ -
    dsimp only [List.append_eq,List.nil_append,List.cons_append]
    refine r_pv rfl rfl (zb rfl)<|r_pv rfl rfl (zp rfl rfl)<|r_pv rfl rfl (zp rfl rfl)<|r_pv rfl rfl (zd rfl)<|r_pv rfl rfl (zd rfl)<|zj<|ze<|zc<|r_pv rfl rfl (zb rfl)<|r_pv rfl rfl (zb rfl)<|r_pv rfl rfl (zd rfl)<|r_pv rfl rfl (zd rfl)<|zj<|zJ<|zba (b,(a%b),pb,cb,p416,c417) (show Nat.gcd b (a%b)=Nat.gcd (Big.raw s l1).natAbs (Big.raw t l2).natAbs∧(Big.digs b).length≤1099511627776∧(Big.digs (a%b)).length≤1099511627776 from by exact ⟨by rw [Big.gcd_rest,hgc],hbb,Nat.le_trans (Big.ln_mono' (Nat.le_of_lt (Nat.mod_lt a hb0))) hbb⟩) (by exact Nat.mod_lt a hb0) ((.e rfl (by first|rfl|(congr 1;omega)|simp_all) (.c rfl (.c rfl .n))):SubM _ _) (ho:=((.of [0,0,0] rfl):PickO _ _ _)) ((.c (j:=3) rfl (.e (j:=1) rfl (by first|rfl|simp_all) (.of [4,5,6,7] rfl))):SelR _ _ _)
 ·
  have hbz:b=0:=Big.len_digs_nil.1 (by omega)
  have hfin:a=Nat.gcd (Big.raw s l1).natAbs (Big.raw t l2).natAbs:=by rw [← hgc,hbz,Nat.gcd_zero_right]
  refine zfa<|zm<|zm<|zv<|ze<|zi<|zc<|r_pv rfl rfl (zb rfl)<|zB rfl rfl (.c rfl .n) ce104 (zGc (a:=a) (p:=pa) (cap:=ca) (hb:=by first|rfl|assumption|omega)) (.c (j:=0) rfl .n) ?_
  rintro ⟨p218,c219⟩ -
  dsimp only [List.append_eq,List.nil_append,List.cons_append]
  refine zB rfl rfl (.c rfl (.c rfl .n)) ce90 (zDa (s:=false) (a:=a) (p:=p218) (cap:=c219)) (.c (j:=0) rfl .n) ?_
  rintro ⟨p220,c221⟩ -
  dsimp only [List.append_eq,List.nil_append,List.cons_append]
  refine zo 0 rfl rfl rfl rfl rfl sz43 rfl (.take (.take .nil)) .z<|zj<|ze<|zI ?_
  exact zC Try.results99 (p220,c221) trivial (zu 0 ty43 rfl rfl (.take (.take .nil))) (by rw [← hfin];rfl) (ho:=(.n:PickO _ _ _)) ((.e (j:=0) rfl (by rw [← hfin];rfl) .n):SelR _ _ _)
theorem zcf {x1:Int} {x2:Int} {p1:Option Addr} {c1:Nat} {p2:Option Addr} {c2:Nat} (hb1:Big.ln x1≤1099511627776) (hb2:Big.ln x2≤1099511627776):Con Try.prog 99 [.agg #[.bool (decide ((x1)<0)),.slice (p1) ((Big.digs ((x1).natAbs)).length) (c1)],.agg #[.bool (decide ((x2)<0)),.slice (p2) ((Big.digs ((x2).natAbs)).length) (c2)]] [] [slF (rI .u32) (p1) (c1) (Big.digs ((x1).natAbs)),slF (rI .u32) (p2) (c2) (Big.digs ((x2).natAbs))] (Y:=(Option Addr)×(Nat)) (fun y=>True) (fun y=> .agg #[.bool (decide ((((Nat.gcd x1.natAbs x2.natAbs:Nat):Int))<0)),.slice (y.1) ((Big.digs ((((Nat.gcd x1.natAbs x2.natAbs:Nat):Int)).natAbs)).length) (y.2)]) (fun y=>[]) (fun y=>[slF (rI .u32) (y.1) (y.2) (Big.digs ((((Nat.gcd x1.natAbs x2.natAbs:Nat):Int)).natAbs))]):=by
  have h:= @zuf (decide ((x1)<0)) p1 (Big.digs (x1).natAbs).length c1 (Big.digs (x1).natAbs) (decide ((x2)<0)) p2 (Big.digs (x2).natAbs).length c2 (Big.digs (x2).natAbs) rfl rfl (by rw [Big.raw_big];exact hb1) (by rw [Big.raw_big];exact hb2)
  rw [Big.raw_big,Big.raw_big] at h
  exact h
theorem zMd {w1:Wd} {w2:Wd} {x1:Int} {x2:Int} (hb1:Big.ln x1≤1099511627776) (hb2:Big.ln x2≤1099511627776):Con Try.prog 99 [.agg #[w1.b,w1.l],.agg #[w2.b,w2.l]] [] [zF w1 (x1),zF w2 (x2)] (Y:=(Wd)) (fun y=>True) (fun y=> .agg #[y.b,y.l]) (fun y=>[]) (fun y=>[zF y (((Nat.gcd x1.natAbs x2.natAbs:Nat):Int))]):=by
  exact zPb (zsc (fun p1 c1 p2 c2=>zcf hb1 hb2))
end Go.Proofs.Ytefbbhiaalcjfaa.Sp
namespace Go.Proofs.Ytefbbhiaalcjfaa.Sp
open Go
set_option linter.unusedVariables false
set_option maxRecDepth 100000
set_option maxHeartbeats 8000000
theorem zvd {x1:Int} {x2:Int} {p1:Option Addr} {c1:Nat} {p2:Option Addr} {c2:Nat} (hb1:Big.ln x1≤1099511627776) (hb2:Big.ln x2≤1099511627776) (hy:x2≠0):Con Try.prog 100 [.agg #[.bool (decide (x1<0)),.slice p1 ((Big.digs ((x1).natAbs)).length) c1],.agg #[.bool (decide (x2<0)),.slice p2 ((Big.digs ((x2).natAbs)).length) c2]] [] [slF (rI .u32) p1 c1 (Big.digs ((x1).natAbs)),slF (rI .u32) p2 c2 (Big.digs ((x2).natAbs))] (Y:=(Option Addr)×Nat×(Option Addr)×Nat) (fun y=>True) (fun y=> .tuple #[.agg #[.bool (decide ((Big.fq x1 x2)<0)),.slice (y.1) ((Big.digs ((Big.fq x1 x2).natAbs)).length) (y.2.1)],.agg #[.bool (decide ((Big.fr x1 x2)<0)),.slice (y.2.2.1) ((Big.digs ((Big.fr x1 x2).natAbs)).length) (y.2.2.2)],.int .i64 0]) (fun y=>[]) (fun y=>[slF (rI .u32) (y.1) (y.2.1) (Big.digs ((Big.fq x1 x2).natAbs)),slF (rI .u32) (y.2.2.1) (y.2.2.2) (Big.digs ((Big.fr x1 x2).natAbs))]):=by
 refine zr Try.func100 rfl rfl rfl (fun c=> ?_)
 show RunC _ _ _ _ _ [(0,.agg #[.bool (decide (x1<0)),.slice p1 ((Big.digs ((x1).natAbs)).length) c1]),(1,.agg #[.bool (decide (x2<0)),.slice p2 ((Big.digs ((x2).natAbs)).length) c2])] [] [slF (rI .u32) p1 c1 (Big.digs ((x1).natAbs)),slF (rI .u32) p2 c2 (Big.digs ((x2).natAbs))]
 refine zca 0 rfl (fun hL0=> ?_)
 refine zca 1 rfl (fun hL1=> ?_)
 unfold Big.ln at hb1 hb2
 have hd1:=Nat.div_le_self x1.natAbs x2.natAbs
 have hd2:=Nat.mod_lt x1.natAbs (show 0<x2.natAbs by omega)
 have hl1:=Big.ln_mono' hd1
 have hl2:=Big.ln_mono' (Nat.le_of_lt hd2)
 refine zi<|zc<|zS rfl rfl (zX rfl rfl) (fun b1=> ?_)
 refine zS rfl rfl (zX rfl rfl) (fun b2=> ?_)
 refine zS rfl rfl (zG zr43 rfl) (fun b3=> ?_)
 refine zS rfl rfl (zG zr43 rfl) (fun b4=> ?_)
 refine r_pv rfl rfl (zd rfl)<|zj<|ze<|zi<|zja (OW:=[]) (O:=[boxA b4 43 [wz.b,wz.l],boxA b3 43 [wz.b,wz.l],boxA b2 43 [.bool (decide (x2<0)),.slice p2 ((Big.digs ((x2).natAbs)).length) c2],boxA b1 43 [.bool (decide (x1<0)),.slice p1 ((Big.digs ((x1).natAbs)).length) c1]]) 100000 mixed (.then .ret) (by kernel_rfl)<|d_u 0 rfl rfl (by kernel_rfl) (by kernel_rfl) rfl rfl (zh 3 ty43 rfl rfl (.take (.take .nil)))<|d_u 2 rfl rfl (by kernel_rfl) (by kernel_rfl) rfl rfl (zh 2 ty43 rfl rfl (.take (.take .nil)))<|zV 1 (by kernel_rfl) (zT rfl rfl rfl rfl (.c rfl .n) ce97 (zhc (z:=x1) (p:=p1) (cap:=c1)) (.c (j:=0) rfl .n) ?_)
 rintro ⟨p25,c26⟩ -
 dsimp only [List.append_eq,List.nil_append,List.cons_append]
 refine zV 3 (by kernel_rfl) (zT rfl rfl rfl rfl (.c rfl .n) ce97 (zhc (z:=x2) (p:=p2) (cap:=c2)) (.c (j:=2) rfl .n) ?_)
 rintro ⟨p27,c28⟩ -
 dsimp only [List.append_eq,List.nil_append,List.cons_append]
 refine d_pv 4 rfl rfl (by kernel_rfl) (by kernel_rfl) rfl rfl (zd rfl)<|d_pv 5 rfl rfl (by kernel_rfl) (by kernel_rfl) rfl rfl (zd rfl)<|zga (by kernel_rfl)<|ze<|zi<|zi<|zc<|r_pv rfl rfl (zb rfl)<|r_pv rfl rfl (zM Try.underlying41 rfl)<|r_pv rfl rfl (zua rfl rfl)<|zj<|ze<|zD rfl (fun h9=> ?_) (fun h9=> ?_)
 ·
  exact absurd (Big.len_digs_nil.1 (show (Big.digs x2.natAbs).length=0 by omega)) (by omega)
 ·
  refine zA<|ze<|zi<|zc<|r_pv rfl rfl (zb rfl)<|r_pv rfl rfl (zb rfl)<|zB rfl rfl (.c rfl (.c rfl .n)) ce106 (zLd (a:=(x1).natAbs) (b:=(x2).natAbs) (p1:=p25) (c1:=c26) (p2:=p27) (c2:=c28) (hb1:=by first|rfl|assumption|omega|(decide +kernel)) (hb2:=by first|rfl|assumption|omega|(decide +kernel)) (hb0:=by first|rfl|assumption|omega|(decide +kernel))) (.c (j:=1) rfl (.c (j:=0) rfl .n)) ?_
  rintro ⟨p310,c311,p412,c413⟩ -
  dsimp only [List.append_eq,List.nil_append,List.cons_append]
  refine r_pv rfl rfl (zb rfl)<|r_pv rfl rfl (zp rfl rfl)<|r_pv rfl rfl (zp rfl rfl)<|r_pv rfl rfl (zd rfl)<|r_pv rfl rfl (zd rfl)<|zj<|ze<|zi<|zc<|r_pv rfl rfl (zb rfl)<|zB rfl rfl (.c rfl .n) ce104 (zGc (a:=((x1).natAbs)%((x2).natAbs)) (p:=p412) (cap:=c413) (hb:=by first|rfl|assumption|omega|(decide +kernel))) (.c (j:=1) rfl .n) ?_
  rintro ⟨p214,c215⟩ -
  dsimp only [List.append_eq,List.nil_append,List.cons_append]
  refine r_pv rfl rfl (zd rfl)<|zj<|ze<|zi<|zi<|zc<|r_pv rfl rfl (zb rfl)<|r_pv rfl rfl (zM Try.underlying41 rfl)<|r_pv rfl rfl (zwa rfl rfl)<|zP rfl rfl (zb rfl) (fun hpos=> ?_) (fun hpos=> ?_)
  ·
   refine r_pv rfl rfl (zg Try.underlying43 rfl sz4 rfl rfl)<|r_u rfl rfl (zf 3 ty4 rfl rfl rfl)<|r_pv rfl rfl (zg Try.underlying43 rfl sz4 rfl rfl)<|r_u rfl rfl (zf 2 ty4 rfl rfl rfl)<|r_pv rfl rfl (zLa Try.underlying4 rfl rfl)<|r_pv rfl rfl (zk rfl rfl)<|zj<|ze<|zD rfl (fun hadj=> ?_) (fun hadj=> ?_)
   ·
    have hsg:(decide (decide (x1<0)≠decide (x2<0)))=true:=decide_eq_true hadj
    have hr0:x1.natAbs%x2.natAbs≠0:=fun e=>by have h9:=hpos;rw [e,Big.digs_zero] at h9;exact absurd h9 (by decide)
    refine zc<|r_pv rfl rfl (zb rfl)<|zta rfl rfl (zE (enc:=fun z:Int=>[.int .u32 z]) (ok:=InK .u32) (h1:=fun _=>rfl) (h2:=fun _=>rfl) (k:=1) Try.underlying41 inf101 rfl (by decide) (by decide) (by decide) (.c (x:=1) rfl rfl (fun _ _=>by exact zw.2 (by omega)) .n)) (fun b16 _=> ?_)
    refine zea 0 rfl .z ?_
    have e17:[1]=Big.digs 1:=by exact (Big.digs_one (s:=1) (by decide) (by decide)).symm
    rw [e17]
    have e18:(.slice (some ⟨b16,0,none⟩) 1 1:Value)= .slice (some ⟨b16,0,none⟩) ((Big.digs 1).length) 1:=by rfl
    rw [e18]
    refine zB rfl rfl (.c rfl (.c rfl .n)) ce107 (zEe (a:=((x1).natAbs) / ((x2).natAbs)) (b:=1) (p1:=p310) (c1:=c311) (p2:=some ⟨b16,0,none⟩) (c2:=1) (hb1:=by first|rfl|assumption|omega|(decide +kernel)) (hb2:=by first|rfl|assumption|omega|(decide +kernel))) (.c (j:=2) rfl (.c (j:=0) rfl .n)) ?_
    rintro ⟨p319,c320⟩ -
    dsimp only [List.append_eq,List.nil_append,List.cons_append]
    refine r_pv rfl rfl (zb rfl)<|r_pv rfl rfl (zb rfl)<|zB rfl rfl (.c rfl (.c rfl .n)) ce108 (zGe (a:=(x2).natAbs) (b:=(((x1).natAbs)%((x2).natAbs))) (p1:=p27) (c1:=c28) (p2:=p214) (c2:=c215) (hb1:=by first|rfl|assumption|omega|(decide +kernel)) (hb2:=by first|rfl|assumption|omega|(decide +kernel)) (hab:=by first|rfl|assumption|omega|(decide +kernel))) (.c (j:=5) rfl (.c (j:=2) rfl .n)) ?_
    rintro ⟨p321,c322⟩ -
    dsimp only [List.append_eq,List.nil_append,List.cons_append]
    refine r_pv rfl rfl (zd rfl)<|r_pv rfl rfl (zd rfl)<|zj<|ze<|zi<|zza (.c (i:=2) rfl (.c (i:=1) rfl (.c (i:=0) rfl (.c (i:=0) rfl (.c (i:=0) rfl .n)))))<|zja (OW:=[boxA b3 43 [wz.b,wz.l],boxA b4 43 [wz.b,wz.l]]) (O:=[emA,boxA b2 43 [.bool (decide (x2<0)),.slice p2 ((Big.digs ((x2).natAbs)).length) c2],boxA b1 43 [.bool (decide (x1<0)),.slice p1 ((Big.digs ((x1).natAbs)).length) c1]]) 11 mixed (.then .ret) (by kernel_rfl)<|d_pv 0 rfl rfl (by kernel_rfl) (by kernel_rfl) rfl rfl (zg Try.underlying43 rfl sz4 rfl rfl)<|d_uw 1 rfl rfl (by kernel_rfl) (by kernel_rfl) (by kernel_rfl) rfl rfl (zf 4 ty4 rfl rfl rfl)<|d_pv 2 rfl rfl (by kernel_rfl) (by kernel_rfl) rfl rfl (zg Try.underlying43 rfl sz4 rfl rfl)<|d_uw 3 rfl rfl (by kernel_rfl) (by kernel_rfl) (by kernel_rfl) rfl rfl (zf 3 ty4 rfl rfl rfl)<|d_pv 4 rfl rfl (by kernel_rfl) (by kernel_rfl) rfl rfl (zLa Try.underlying4 rfl rfl)<|d_pv 5 rfl rfl (by kernel_rfl) (by kernel_rfl) rfl rfl (zb rfl)<|d_pv 7 rfl rfl (by kernel_rfl) (by kernel_rfl) rfl rfl (zg Try.underlying43 rfl sz4 rfl rfl)<|d_uw 8 rfl rfl (by kernel_rfl) (by kernel_rfl) (by kernel_rfl) rfl rfl (zf 3 ty4 rfl rfl rfl)<|d_pv 9 rfl rfl (by kernel_rfl) (by kernel_rfl) rfl rfl (zb rfl)<|zV 6 (by kernel_rfl) (zT rfl rfl rfl rfl (.c rfl (.c rfl .n)) ce90 (zDa (s:=decide (decide (x1<0)≠decide (x2<0))) (a:=(((x1).natAbs) / ((x2).natAbs))+1) (p:=p319) (cap:=c320)) (.c (j:=1) rfl .n) ?_)
    rintro ⟨p223,c224⟩ -
    dsimp only [List.append_eq,List.nil_append,List.cons_append]
    refine zV 10 (by kernel_rfl) (zT rfl rfl rfl rfl (.c rfl (.c rfl .n)) ce90 (zDa (s:=decide (x2<0)) (a:=((x2).natAbs) - (((x1).natAbs)%((x2).natAbs))) (p:=p321) (cap:=c322)) (.c (j:=1) rfl .n) ?_)
    rintro ⟨p225,c226⟩ -
    dsimp only [List.append_eq,List.nil_append,List.cons_append]
    refine zV 11 (by kernel_rfl) (zL (by kernel_rfl) rfl rfl rfl rfl rfl sz43 rfl (.take (.take .nil)) ?_)
    refine zMa (zna (i:=1) rfl)<|zV 12 (by kernel_rfl) (zL (by kernel_rfl) rfl rfl rfl rfl rfl sz43 rfl (.take (.take .nil)) ?_)
    refine d_pv 13 rfl rfl (by kernel_rfl) (by kernel_rfl) rfl rfl (zd rfl)<|zga (by kernel_rfl)<|ze<|zI ?_
    have hz1:Big.sg (decide (decide (x1<0)≠decide (x2<0))) ((x1.natAbs / x2.natAbs+1:Nat):Int)=Big.fq x1 x2:=by rw [hsg];exact (Big.fq_odd hy hadj hr0).1
    have hz2:Big.sg (decide (x2<0)) ((x2.natAbs - x1.natAbs%x2.natAbs:Nat):Int)=Big.fr x1 x2:=(Big.fq_odd hy hadj hr0).2
    exact zoc Try.results100 (p223,c224,p225,c226) trivial (zu 1 ty43 rfl rfl (.take (.take .nil))) (zu 0 ty43 rfl rfl (.take (.take .nil))) (zq rfl) (by rw [hz1,hz2]) (ho:=(.n:PickO _ _ _)) ((.e (j:=1) rfl (by rw [hz1]) (.e (j:=0) rfl (by rw [hz2]) .n)):SelR _ _ _)
   ·
    refine zA<|ze<|zi<|zza (.c (i:=1) rfl (.c (i:=0) rfl (.c (i:=0) rfl (.c (i:=0) rfl .n))))<|zja (OW:=[boxA b3 43 [wz.b,wz.l],boxA b4 43 [wz.b,wz.l]]) (O:=[boxA b2 43 [.bool (decide (x2<0)),.slice p2 ((Big.digs ((x2).natAbs)).length) c2],boxA b1 43 [.bool (decide (x1<0)),.slice p1 ((Big.digs ((x1).natAbs)).length) c1]]) 11 mixed (.then .ret) (by kernel_rfl)<|d_pv 0 rfl rfl (by kernel_rfl) (by kernel_rfl) rfl rfl (zg Try.underlying43 rfl sz4 rfl rfl)<|d_uw 1 rfl rfl (by kernel_rfl) (by kernel_rfl) (by kernel_rfl) rfl rfl (zf 3 ty4 rfl rfl rfl)<|d_pv 2 rfl rfl (by kernel_rfl) (by kernel_rfl) rfl rfl (zg Try.underlying43 rfl sz4 rfl rfl)<|d_uw 3 rfl rfl (by kernel_rfl) (by kernel_rfl) (by kernel_rfl) rfl rfl (zf 2 ty4 rfl rfl rfl)<|d_pv 4 rfl rfl (by kernel_rfl) (by kernel_rfl) rfl rfl (zLa Try.underlying4 rfl rfl)<|d_pv 5 rfl rfl (by kernel_rfl) (by kernel_rfl) rfl rfl (zb rfl)<|d_pv 7 rfl rfl (by kernel_rfl) (by kernel_rfl) rfl rfl (zg Try.underlying43 rfl sz4 rfl rfl)<|d_uw 8 rfl rfl (by kernel_rfl) (by kernel_rfl) (by kernel_rfl) rfl rfl (zf 2 ty4 rfl rfl rfl)<|d_pv 9 rfl rfl (by kernel_rfl) (by kernel_rfl) rfl rfl (zb rfl)<|zV 6 (by kernel_rfl) (zT rfl rfl rfl rfl (.c rfl (.c rfl .n)) ce90 (zDa (s:=decide (decide (x1<0)≠decide (x2<0))) (a:=((x1).natAbs) / ((x2).natAbs)) (p:=p310) (cap:=c311)) (.c (j:=1) rfl .n) ?_)
    rintro ⟨p227,c228⟩ -
    dsimp only [List.append_eq,List.nil_append,List.cons_append]
    refine zV 10 (by kernel_rfl) (zT rfl rfl rfl rfl (.c rfl (.c rfl .n)) ce90 (zDa (s:=decide (x2<0)) (a:=(((x1).natAbs)%((x2).natAbs))) (p:=p214) (cap:=c215)) (.c (j:=1) rfl .n) ?_)
    rintro ⟨p229,c230⟩ -
    dsimp only [List.append_eq,List.nil_append,List.cons_append]
    refine zV 11 (by kernel_rfl) (zL (by kernel_rfl) rfl rfl rfl rfl rfl sz43 rfl (.take (.take .nil)) ?_)
    refine zMa (zna (i:=1) rfl)<|zV 12 (by kernel_rfl) (zL (by kernel_rfl) rfl rfl rfl rfl rfl sz43 rfl (.take (.take .nil)) ?_)
    refine d_pv 13 rfl rfl (by kernel_rfl) (by kernel_rfl) rfl rfl (zd rfl)<|zga (by kernel_rfl)<|ze<|zI ?_
    have hsg:(decide (decide (x1<0)≠decide (x2<0)))=false:=decide_eq_false hadj
    have hz1:Big.sg (decide (decide (x1<0)≠decide (x2<0))) ((x1.natAbs / x2.natAbs:Nat):Int)=Big.fq x1 x2:=by rw [hsg];exact (Big.fq_same hy (Decidable.not_not.1 hadj)).1
    have hz2:Big.sg (decide (x2<0)) ((x1.natAbs%x2.natAbs:Nat):Int)=Big.fr x1 x2:=(Big.fq_same hy (Decidable.not_not.1 hadj)).2
    exact zoc Try.results100 (p227,c228,p229,c230) trivial (zu 1 ty43 rfl rfl (.take (.take .nil))) (zu 0 ty43 rfl rfl (.take (.take .nil))) (zq rfl) (by rw [hz1,hz2]) (ho:=(.n:PickO _ _ _)) ((.e (j:=1) rfl (by rw [hz1]) (.e (j:=0) rfl (by rw [hz2]) .n)):SelR _ _ _)
  ·
   refine za rfl rfl<|za rfl rfl<|za rfl rfl<|za rfl rfl<|za rfl rfl<|r_pv rfl rfl (zk rfl rfl)<|zj<|ze<|zUa rfl rfl<|zA<|ze<|zi<|zza (.c (i:=1) rfl (.c (i:=0) rfl (.c (i:=0) rfl (.c (i:=0) rfl .n))))<|zja (OW:=[boxA b3 43 [wz.b,wz.l],boxA b4 43 [wz.b,wz.l]]) (O:=[boxA b2 43 [.bool (decide (x2<0)),.slice p2 ((Big.digs ((x2).natAbs)).length) c2],boxA b1 43 [.bool (decide (x1<0)),.slice p1 ((Big.digs ((x1).natAbs)).length) c1]]) 11 mixed (.then .ret) (by kernel_rfl)<|d_pv 0 rfl rfl (by kernel_rfl) (by kernel_rfl) rfl rfl (zg Try.underlying43 rfl sz4 rfl rfl)<|d_uw 1 rfl rfl (by kernel_rfl) (by kernel_rfl) (by kernel_rfl) rfl rfl (zf 3 ty4 rfl rfl rfl)<|d_pv 2 rfl rfl (by kernel_rfl) (by kernel_rfl) rfl rfl (zg Try.underlying43 rfl sz4 rfl rfl)<|d_uw 3 rfl rfl (by kernel_rfl) (by kernel_rfl) (by kernel_rfl) rfl rfl (zf 2 ty4 rfl rfl rfl)<|d_pv 4 rfl rfl (by kernel_rfl) (by kernel_rfl) rfl rfl (zLa Try.underlying4 rfl rfl)<|d_pv 5 rfl rfl (by kernel_rfl) (by kernel_rfl) rfl rfl (zb rfl)<|d_pv 7 rfl rfl (by kernel_rfl) (by kernel_rfl) rfl rfl (zg Try.underlying43 rfl sz4 rfl rfl)<|d_uw 8 rfl rfl (by kernel_rfl) (by kernel_rfl) (by kernel_rfl) rfl rfl (zf 2 ty4 rfl rfl rfl)<|d_pv 9 rfl rfl (by kernel_rfl) (by kernel_rfl) rfl rfl (zb rfl)<|zV 6 (by kernel_rfl) (zT rfl rfl rfl rfl (.c rfl (.c rfl .n)) ce90 (zDa (s:=decide (decide (x1<0)≠decide (x2<0))) (a:=((x1).natAbs) / ((x2).natAbs)) (p:=p310) (cap:=c311)) (.c (j:=1) rfl .n) ?_)
   rintro ⟨p231,c232⟩ -
   dsimp only [List.append_eq,List.nil_append,List.cons_append]
   refine zV 10 (by kernel_rfl) (zT rfl rfl rfl rfl (.c rfl (.c rfl .n)) ce90 (zDa (s:=decide (x2<0)) (a:=(((x1).natAbs)%((x2).natAbs))) (p:=p214) (cap:=c215)) (.c (j:=1) rfl .n) ?_)
   rintro ⟨p233,c234⟩ -
   dsimp only [List.append_eq,List.nil_append,List.cons_append]
   refine zV 11 (by kernel_rfl) (zL (by kernel_rfl) rfl rfl rfl rfl rfl sz43 rfl (.take (.take .nil)) ?_)
   refine zMa (zna (i:=1) rfl)<|zV 12 (by kernel_rfl) (zL (by kernel_rfl) rfl rfl rfl rfl rfl sz43 rfl (.take (.take .nil)) ?_)
   refine d_pv 13 rfl rfl (by kernel_rfl) (by kernel_rfl) rfl rfl (zd rfl)<|zga (by kernel_rfl)<|ze<|zI ?_
   have hr0:x1.natAbs%x2.natAbs=0:=Big.len_digs_nil.1 (by omega)
   have hz:Big.sg (decide (decide (x1<0)≠decide (x2<0))) ((x1.natAbs / x2.natAbs:Nat):Int)=Big.fq x1 x2∧Big.sg (decide (x2<0)) ((x1.natAbs%x2.natAbs:Nat):Int)=Big.fr x1 x2:=by by_cases h:decide (x1<0)=decide (x2<0);rw [decide_eq_false (not_not_intro h)];exact Big.fq_same hy h;rw [decide_eq_true h];exact Big.fq_even hy h hr0
   exact zoc Try.results100 (p231,c232,p233,c234) trivial (zu 1 ty43 rfl rfl (.take (.take .nil))) (zu 0 ty43 rfl rfl (.take (.take .nil))) (zq rfl) (by rw [hz.1,hz.2]) (ho:=(.n:PickO _ _ _)) ((.e (j:=1) rfl (by rw [hz.1]) (.e (j:=0) rfl (by rw [hz.2]) .n)):SelR _ _ _)
theorem zmb {w1:Wd} {w2:Wd} {x1:Int} {x2:Int} (hb1:Big.ln x1≤1099511627776) (hb2:Big.ln x2≤1099511627776) (hy:x2≠0):Con Try.prog 100 [.agg #[w1.b,w1.l],.agg #[w2.b,w2.l]] [] [zF w1 (x1),zF w2 (x2)] (Y:=(Wd)×(Wd)) (fun y=>True) (fun y=> .tuple #[.agg #[y.1.b,y.1.l],.agg #[y.2.b,y.2.l],.int .i64 (0)]) (fun y=>[]) (fun y=>[zF y.1 (Big.fq x1 x2),zF y.2 (Big.fr x1 x2)]):=by
  exact zse (zsc (fun p1 c1 p2 c2=>zvd hb1 hb2 hy))
theorem zvf {s:Bool} {p:Option Addr} {n:Nat} {cap:Nat} {l:List Int} (hn:l.length=n) (hln:Big.ln (Big.raw s l)≤1099511627776):Con Try.prog 98 [.agg #[.bool s,.slice p n cap]] [] [slF (rI .u32) p cap l] (Y:=(Option Addr)×Nat) (fun y=>True) (fun y=> .agg #[.bool (decide ((- Big.raw s l)<0)),.slice (y.1) ((Big.digs ((- Big.raw s l).natAbs)).length) (y.2)]) (fun y=>[]) (fun y=>[slF (rI .u32) (y.1) (y.2) (Big.digs ((- Big.raw s l).natAbs))]):=by
 refine zr Try.func98 rfl rfl rfl (fun c=> ?_)
 show RunC _ _ _ _ _ [(0,.agg #[.bool s,.slice p n cap])] [] [slF (rI .u32) p cap l]
 refine zca 0 rfl (fun hL0=> ?_)
 refine zbb 0 rfl (fun hE0=> ?_)
 have hnn:Big.nn l:=fun g hg=>(zw.1 (hE0 g hg)).1
 unfold Big.ln at hln
 refine zi<|zc<|zS rfl rfl (zX rfl rfl) (fun b1=> ?_)
 refine zS rfl rfl (zG zr43 rfl) (fun b2=> ?_)
 refine zj<|ze<|zi<|zja (OW:=[boxA b2 43 [wz.b,wz.l]]) (O:=[boxA b1 43 [.bool s,.slice p n cap]]) 7 mixed (.then .ret) (by kernel_rfl)<|d_pv 0 rfl rfl (by kernel_rfl) (by kernel_rfl) rfl rfl (zg Try.underlying43 rfl sz4 rfl rfl)<|d_uw 1 rfl rfl (by kernel_rfl) (by kernel_rfl) (by kernel_rfl) rfl rfl (zf 1 ty4 rfl rfl rfl)<|d_pv 2 rfl rfl (by kernel_rfl) (by kernel_rfl) rfl rfl (zCb rfl)<|d_uw 3 rfl rfl (by kernel_rfl) (by kernel_rfl) (by kernel_rfl) rfl rfl (zh 1 ty43 rfl rfl (.take (.take .nil)))<|zV 4 (by kernel_rfl) (zT rfl rfl rfl rfl (.c rfl .n) ce97 (zgb (s:=s) (p:=p) (n:=n) (cap:=cap) (l:=l) (hn:=by assumption)) (.c (j:=0) rfl .n) ?_)
 rintro ⟨p23,c24⟩ -
 dsimp only [List.append_eq,List.nil_append,List.cons_append]
 refine zV 5 (by kernel_rfl) (zT rfl rfl rfl rfl (.c rfl .n) ce104 (zGc (a:=(Big.raw s l).natAbs) (p:=p23) (cap:=c24) (hb:=by first|rfl|assumption|omega|(simp;done)|(simp;omega)|(simp_all;done))) (.c (j:=0) rfl .n) ?_)
 rintro ⟨p25,c26⟩ -
 dsimp only [List.append_eq,List.nil_append,List.cons_append]
 refine zV 6 (by kernel_rfl) (zT rfl rfl rfl rfl (.c rfl (.c rfl .n)) ce90 (zDa (s:= !s) (a:=((Big.raw s l).natAbs)) (p:=p25) (cap:=c26)) (.c (j:=0) rfl .n) ?_)
 rintro ⟨p27,c28⟩ -
 dsimp only [List.append_eq,List.nil_append,List.cons_append]
 refine zV 7 (by kernel_rfl) (zL (by kernel_rfl) rfl rfl rfl rfl rfl sz43 rfl (.take (.take .nil)) ?_)
 refine zga (by kernel_rfl)<|ze<|zI ?_
 have hz:Big.sg (!s) ((Big.raw s l).natAbs:Int)= - Big.raw s l:=by rw [Big.sg_not,Big.sg_raw hnn]
 exact zC Try.results98 (p27,c28) trivial (zu 0 ty43 rfl rfl (.take (.take .nil))) (by rw [hz]) (ho:=(.n:PickO _ _ _)) ((.e (j:=0) rfl (by rw [hz]) .n):SelR _ _ _)
theorem zdf {z:Int} {p:Option Addr} {cap:Nat} (hln:Big.ln z≤1099511627776):Con Try.prog 98 [.agg #[.bool (decide ((z)<0)),.slice (p) ((Big.digs ((z).natAbs)).length) (cap)]] [] [slF (rI .u32) (p) (cap) (Big.digs ((z).natAbs))] (Y:=(Option Addr)×(Nat)) (fun y=>True) (fun y=> .agg #[.bool (decide ((- z)<0)),.slice (y.1) ((Big.digs ((- z).natAbs)).length) (y.2)]) (fun y=>[]) (fun y=>[slF (rI .u32) (y.1) (y.2) (Big.digs ((- z).natAbs))]):=by
  have h:= @zvf (decide ((z)<0)) p (Big.digs (z).natAbs).length cap (Big.digs (z).natAbs) rfl (by rw [Big.raw_big];exact hln)
  rw [Big.raw_big] at h
  exact h
theorem zNd {w1:Wd} {x1:Int} (hln:Big.ln x1≤1099511627776):Con Try.prog 98 [.agg #[w1.b,w1.l]] [] [zF w1 (x1)] (Y:=(Wd)) (fun y=>True) (fun y=> .agg #[y.b,y.l]) (fun y=>[]) (fun y=>[zF y (- x1)]):=by
  exact zPb (zSc (fun p c=>zdf hln))
end Go.Proofs.Ytefbbhiaalcjfaa.Sp
namespace Go.Proofs.Ytefbbhiaalcjfaa.Sp
open Go
set_option linter.unusedVariables false
set_option maxRecDepth 100000
set_option maxHeartbeats 8000000
theorem zwd {w1:Wd} {w2:Wd} {x1:Int} {x2:Int} (hl1:Big.ln x1≤1048576) (hl2:Big.ln x2≤1048576) (hd:x2≠0):Con Try.prog 89 [.agg #[w1.b,w1.l],.agg #[w2.b,w2.l]] [] [zF w1 x1,zF w2 x2] (Y:=Wd×Wd) (fun y=>True) (fun y=> .agg #[y.1.b,y.1.l,y.2.b,y.2.l]) (fun y=>[]) (fun y=>[qF true y.1 y.2 (Rat.divInt x1 x2)]):=by
 refine zr Try.func89 rfl rfl rfl (fun c=> ?_)
 show RunC _ _ _ _ _ [(0,.agg #[w1.b,w1.l]),(1,.agg #[w2.b,w2.l])] [] [zF w1 x1,zF w2 x2]
 refine zi<|zc<|zS rfl rfl (zX rfl rfl) (fun b1=> ?_)
 refine zS rfl rfl (zX rfl rfl) (fun b2=> ?_)
 refine zS rfl rfl (zG zr45 rfl) (fun b3=> ?_)
 refine zj<|ze<|zi<|zi<|zc<|r_u rfl rfl (zh 1 ty43 rfl rfl (.take (.take .nil)))<|zO rfl rfl (.c rfl .n) ce88 (zed (w1:=w2) (x1:=x2)) (.c (j:=1) rfl .n)<|r_pv rfl rfl (zW rfl rfl)<|zj<|ze<|zD rfl (fun hneg=> ?_) (fun hneg=> ?_)
 ·
  have hs:x2<0:=by rcases Big.sign_le (x:=x2) with h|h|h <;> omega
  have hgp:=Big.gcd_pos_right (n:= -x1) (d:= -x2) (by omega)
  have hgl:=Big.zTc (n:= -x1) (d:= -x2) (by omega)
  rw [Big.zY] at hgl
  obtain ⟨hr1,hr2⟩:=Big.red_flip (n:=x1) hs
  refine zza (.c (i:=2) rfl (.c (i:=1) rfl (.c (i:=0) rfl .n)))<|zja (OW:=[boxA b1 43 [w1.b,w1.l],boxA b2 43 [w2.b,w2.l]]) (O:=[boxA b3 45 (cw [wz,wz])]) 4 mixed (.then .ret) (by kernel_rfl)<|d_uw 0 rfl rfl (by kernel_rfl) (by kernel_rfl) (by kernel_rfl) rfl rfl (zh 0 ty43 rfl rfl (.take (.take .nil)))<|d_uw 2 rfl rfl (by kernel_rfl) (by kernel_rfl) (by kernel_rfl) rfl rfl (zh 1 ty43 rfl rfl (.take (.take .nil)))<|zV 1 (by kernel_rfl) (zT rfl rfl rfl rfl (.c rfl .n) ce98 (zNd (w1:=w1) (x1:=x1) (hln:=by first|rfl|assumption|omega|(rw [Big.zY];omega)|(decide +kernel))) (.c (j:=0) rfl .n) ?_)
  rintro w34 -
  dsimp only [List.append_eq,List.nil_append,List.cons_append]
  refine zV 3 (by kernel_rfl) (zT rfl rfl rfl rfl (.c rfl .n) ce98 (zNd (w1:=w2) (x1:=x2) (hln:=by first|rfl|assumption|omega|(rw [Big.zY];omega)|(decide +kernel))) (.c (j:=2) rfl .n) ?_)
  rintro w35 -
  dsimp only [List.append_eq,List.nil_append,List.cons_append]
  refine zV 4 (by kernel_rfl) (zL (by kernel_rfl) rfl rfl rfl rfl rfl sz43 rfl (.take (.take .nil)) ?_)
  refine zMa (zna (i:=1) rfl)<|zV 5 (by kernel_rfl) (zL (by kernel_rfl) rfl rfl rfl rfl rfl sz43 rfl (.take (.take .nil)) ?_)
  refine zga (by kernel_rfl)<|ze<|zi<|zc<|r_u rfl rfl (zh 1 ty43 rfl rfl (.take (.take .nil)))<|r_u rfl rfl (zh 0 ty43 rfl rfl (.take (.take .nil)))<|zB rfl rfl (.c rfl (.c rfl .n)) ce99 (zMd (w1:=w34) (w2:=w35) (x1:= - x1) (x2:= - x2) (hb1:=by first|rfl|assumption|omega|(rw [Big.zY];omega)|(decide +kernel)) (hb2:=by first|rfl|assumption|omega|(rw [Big.zY];omega)|(decide +kernel))) (.c (j:=1) rfl (.c (j:=0) rfl .n)) ?_
  rintro w36 -
  dsimp only [List.append_eq,List.nil_append,List.cons_append]
  refine zS rfl rfl (zG zr43 rfl) (fun b7=> ?_)
  refine zo 0 rfl rfl rfl rfl rfl sz43 rfl (.take (.take .nil)) .z<|zj<|ze<|zi<|zc<|r_u rfl rfl (zh 2 ty43 rfl rfl (.take (.take .nil)))<|r_u rfl rfl (zh 0 ty43 rfl rfl (.take (.take .nil)))<|zB rfl rfl (.c rfl (.c rfl .n)) ce100 (zmb (w1:=w34) (w2:=w36) (x1:= - x1) (x2:=((Nat.gcd (- x1).natAbs (- x2).natAbs:Nat):Int)) (hb1:=by first|rfl|assumption|omega|(rw [Big.zY];omega)|(decide +kernel)) (hb2:=by first|rfl|assumption|omega|(rw [Big.zY];omega)|(decide +kernel)) (hy:=by first|rfl|assumption|omega|(rw [Big.zY];omega)|(decide +kernel))) (.c (j:=2) rfl (.c (j:=0) rfl .n)) ?_
  rintro ⟨w38,w49⟩ -
  dsimp only [List.append_eq,List.nil_append,List.cons_append]
  refine r_pv rfl rfl (zb rfl)<|r_pv rfl rfl (zp rfl rfl)<|r_pv rfl rfl (zp rfl rfl)<|r_pv rfl rfl (zp rfl rfl)<|zo 2 rfl rfl rfl rfl rfl sz43 rfl (.take (.take .nil)) (.s (.s .z))<|zj<|ze<|zi<|zc<|r_u rfl rfl (zh 1 ty43 rfl rfl (.take (.take .nil)))<|r_u rfl rfl (zh 0 ty43 rfl rfl (.take (.take .nil)))<|zB rfl rfl (.c rfl (.c rfl .n)) ce100 (zmb (w1:=w35) (w2:=w36) (x1:= - x2) (x2:=((Nat.gcd (- x1).natAbs (- x2).natAbs:Nat):Int)) (hb1:=by first|rfl|assumption|omega|(rw [Big.zY];omega)|(decide +kernel)) (hb2:=by first|rfl|assumption|omega|(rw [Big.zY];omega)|(decide +kernel)) (hy:=by first|rfl|assumption|omega|(rw [Big.zY];omega)|(decide +kernel))) (.c (j:=3) rfl (.c (j:=2) rfl .n)) ?_
  rintro ⟨w310,w411⟩ -
  dsimp only [List.append_eq,List.nil_append,List.cons_append]
  refine r_pv rfl rfl (zb rfl)<|r_pv rfl rfl (zp rfl rfl)<|r_pv rfl rfl (zp rfl rfl)<|r_pv rfl rfl (zp rfl rfl)<|zo 1 rfl rfl rfl rfl rfl sz43 rfl (.take (.take .nil)) (.s .z)<|zj<|ze<|zi<|zc<|r_u rfl rfl (zh 2 ty43 rfl rfl (.take (.take .nil)))<|r_u rfl rfl (zh 1 ty43 rfl rfl (.take (.take .nil)))<|r_pv rfl rfl (zK zr45 rfl Try.underlying45 (.c sz43 (.c sz43 .n)) (.c rfl (.c rfl .n)) (.c rfl rfl rfl (.take (.take .nil)) (.c rfl rfl rfl (.skip (.skip (.take (.take .nil)))) .n)))<|zo 3 rfl rfl rfl rfl rfl sz45 rfl (.take (.take (.take (.take .nil)))) (.s (.s (.s .z)))<|zj<|ze<|zI<|zpb (qF true w38 w310 (Rat.divInt x1 x2)) (qF_close 2 0 rfl rfl (by exact ⟨hr1,hr2,Nat.le_trans (Big.hq_divInt hd) (by omega)⟩)) ?_
  exact zC Try.results89 (w38,w310) trivial (zu 3 ty45 rfl rfl (.take (.take (.take (.take .nil))))) rfl (ho:=(.n:PickO _ _ _)) ((.c (j:=0) rfl .n):SelR _ _ _)
 ·
  have hs:0<x2:=by rcases Big.sign_le (x:=x2) with h|h|h <;> omega
  have hgp:=Big.gcd_pos_right (n:=x1) (d:=x2) (by omega)
  have hgl:=Big.zTc (n:=x1) (d:=x2) (by omega)
  obtain ⟨hr1,hr2⟩:=Big.red_pos (n:=x1) hs
  refine zA<|ze<|zi<|zc<|r_u rfl rfl (zh 2 ty43 rfl rfl (.take (.take .nil)))<|r_u rfl rfl (zh 1 ty43 rfl rfl (.take (.take .nil)))<|zB rfl rfl (.c rfl (.c rfl .n)) ce99 (zMd (w1:=w1) (w2:=w2) (x1:=x1) (x2:=x2) (hb1:=by first|rfl|assumption|omega|(rw [Big.zY];omega)|(decide +kernel)) (hb2:=by first|rfl|assumption|omega|(rw [Big.zY];omega)|(decide +kernel))) (.c (j:=0) rfl (.c (j:=1) rfl .n)) ?_
  rintro w312 -
  dsimp only [List.append_eq,List.nil_append,List.cons_append]
  refine zS rfl rfl (zG zr43 rfl) (fun b13=> ?_)
  refine zo 0 rfl rfl rfl rfl rfl sz43 rfl (.take (.take .nil)) .z<|zj<|ze<|zi<|zc<|r_u rfl rfl (zh 3 ty43 rfl rfl (.take (.take .nil)))<|r_u rfl rfl (zh 0 ty43 rfl rfl (.take (.take .nil)))<|zB rfl rfl (.c rfl (.c rfl .n)) ce100 (zmb (w1:=w1) (w2:=w312) (x1:=x1) (x2:=((Nat.gcd x1.natAbs x2.natAbs:Nat):Int)) (hb1:=by first|rfl|assumption|omega|(rw [Big.zY];omega)|(decide +kernel)) (hb2:=by first|rfl|assumption|omega|(rw [Big.zY];omega)|(decide +kernel)) (hy:=by first|rfl|assumption|omega|(rw [Big.zY];omega)|(decide +kernel))) (.c (j:=1) rfl (.c (j:=0) rfl .n)) ?_
  rintro ⟨w314,w415⟩ -
  dsimp only [List.append_eq,List.nil_append,List.cons_append]
  refine r_pv rfl rfl (zb rfl)<|r_pv rfl rfl (zp rfl rfl)<|r_pv rfl rfl (zp rfl rfl)<|r_pv rfl rfl (zp rfl rfl)<|zo 3 rfl rfl rfl rfl rfl sz43 rfl (.take (.take .nil)) (.s (.s (.s .z)))<|zj<|ze<|zi<|zc<|r_u rfl rfl (zh 2 ty43 rfl rfl (.take (.take .nil)))<|r_u rfl rfl (zh 0 ty43 rfl rfl (.take (.take .nil)))<|zB rfl rfl (.c rfl (.c rfl .n)) ce100 (zmb (w1:=w2) (w2:=w312) (x1:=x2) (x2:=((Nat.gcd x1.natAbs x2.natAbs:Nat):Int)) (hb1:=by first|rfl|assumption|omega|(rw [Big.zY];omega)|(decide +kernel)) (hb2:=by first|rfl|assumption|omega|(rw [Big.zY];omega)|(decide +kernel)) (hy:=by first|rfl|assumption|omega|(rw [Big.zY];omega)|(decide +kernel))) (.c (j:=4) rfl (.c (j:=2) rfl .n)) ?_
  rintro ⟨w316,w417⟩ -
  dsimp only [List.append_eq,List.nil_append,List.cons_append]
  refine r_pv rfl rfl (zb rfl)<|r_pv rfl rfl (zp rfl rfl)<|r_pv rfl rfl (zp rfl rfl)<|r_pv rfl rfl (zp rfl rfl)<|zo 2 rfl rfl rfl rfl rfl sz43 rfl (.take (.take .nil)) (.s (.s .z))<|zj<|ze<|zi<|zc<|r_u rfl rfl (zh 3 ty43 rfl rfl (.take (.take .nil)))<|r_u rfl rfl (zh 2 ty43 rfl rfl (.take (.take .nil)))<|r_pv rfl rfl (zK zr45 rfl Try.underlying45 (.c sz43 (.c sz43 .n)) (.c rfl (.c rfl .n)) (.c rfl rfl rfl (.take (.take .nil)) (.c rfl rfl rfl (.skip (.skip (.take (.take .nil)))) .n)))<|zo 1 rfl rfl rfl rfl rfl sz45 rfl (.take (.take (.take (.take .nil)))) (.s .z)<|zj<|ze<|zI<|zpb (qF true w314 w316 (Rat.divInt x1 x2)) (qF_close 2 0 rfl rfl (by exact ⟨hr1,hr2,Nat.le_trans (Big.hq_divInt hd) (by omega)⟩)) ?_
  exact zC Try.results89 (w314,w316) trivial (zu 1 ty45 rfl rfl (.take (.take (.take (.take .nil))))) rfl (ho:=(.n:PickO _ _ _)) ((.c (j:=0) rfl .n):SelR _ _ _)
theorem zic {w1:Wd} {x1:Int}:Con Try.prog 87 [.agg #[w1.b,w1.l]] [] [zF w1 x1] (Y:=Wd) (fun y=>True) (fun y=> .agg #[y.b,y.l]) (fun y=>[]) (fun y=>[zF y x1]):=by
 refine zr Try.func87 rfl rfl rfl (fun c=> ?_)
 show RunC _ _ _ _ _ [(0,.agg #[w1.b,w1.l])] [] [zF w1 x1]
 refine zi<|zc<|zS rfl rfl (zX rfl rfl) (fun b1=> ?_)
 refine zS rfl rfl (zG zr43 rfl) (fun b2=> ?_)
 refine zj<|ze<|zi<|zi<|zc<|r_u rfl rfl (zh 1 ty43 rfl rfl (.take (.take .nil)))<|zO rfl rfl (.c rfl .n) ce96 (zWd (w1:=w1) (x1:=x1)) (.c (j:=0) rfl .n)<|zj<|ze<|zub rfl rfl<|zi<|zc<|r_u rfl rfl (zh 1 ty43 rfl rfl (.take (.take .nil)))<|zo 0 rfl rfl rfl rfl rfl sz43 rfl (.take (.take .nil)) .z<|zj<|ze<|zI<|zt ?_
 exact zC Try.results87 w1 trivial (zu 0 ty43 rfl rfl (.take (.take .nil))) rfl (ho:=(.n:PickO _ _ _)) ((.c (j:=0) rfl .n):SelR _ _ _)
theorem zwf {w1:Wd} {w2:Wd} {x1:Int} {x2:Int} (hl1:Big.ln x1≤1048576) (hl2:Big.ln x2≤1048576):Con Try.prog 76 [.agg #[w1.b,w1.l],.agg #[w2.b,w2.l]] [] [zF w1 x1,zF w2 x2] (Y:=Wd×Wd) (fun y=>True) (fun y=> .tuple #[.agg #[y.1.b,y.1.l,y.2.b,y.2.l],.int .i64 (if x2=0 then 14 else 0)]) (fun y=>[]) (fun y=>[qF (decide (x2≠0)) y.1 y.2 (Rat.divInt x1 x2)]):=by
 refine zr Try.func76 rfl rfl rfl (fun c=> ?_)
 show RunC _ _ _ _ _ [(0,.agg #[w1.b,w1.l]),(1,.agg #[w2.b,w2.l])] [] [zF w1 x1,zF w2 x2]
 refine zi<|zc<|zS rfl rfl (zX rfl rfl) (fun b1=> ?_)
 refine zS rfl rfl (zX rfl rfl) (fun b2=> ?_)
 refine zS rfl rfl (zG zr45 rfl) (fun b3=> ?_)
 refine r_pv rfl rfl (zd rfl)<|zj<|ze<|zi<|zza (.c (i:=2) rfl (.c (i:=1) rfl (.c (i:=0) rfl .n)))<|zja (OW:=[boxA b1 43 [w1.b,w1.l],boxA b2 43 [w2.b,w2.l]]) (O:=[boxA b3 45 (cw [wz,wz])]) 4 mixed (.then .ret) (by kernel_rfl)<|d_uw 0 rfl rfl (by kernel_rfl) (by kernel_rfl) (by kernel_rfl) rfl rfl (zh 0 ty43 rfl rfl (.take (.take .nil)))<|d_uw 2 rfl rfl (by kernel_rfl) (by kernel_rfl) (by kernel_rfl) rfl rfl (zh 1 ty43 rfl rfl (.take (.take .nil)))<|zV 1 (by kernel_rfl) (zT rfl rfl rfl rfl (.c rfl .n) ce87 (zic (w1:=w1) (x1:=x1)) (.c (j:=0) rfl .n) ?_)
 rintro w34 -
 dsimp only [List.append_eq,List.nil_append,List.cons_append]
 refine zV 3 (by kernel_rfl) (zT rfl rfl rfl rfl (.c rfl .n) ce87 (zic (w1:=w2) (x1:=x2)) (.c (j:=2) rfl .n) ?_)
 rintro w35 -
 dsimp only [List.append_eq,List.nil_append,List.cons_append]
 refine zV 4 (by kernel_rfl) (zL (by kernel_rfl) rfl rfl rfl rfl rfl sz43 rfl (.take (.take .nil)) ?_)
 refine zMa (zna (i:=1) rfl)<|zV 5 (by kernel_rfl) (zL (by kernel_rfl) rfl rfl rfl rfl rfl sz43 rfl (.take (.take .nil)) ?_)
 refine zga (by kernel_rfl)<|ze<|zi<|zi<|zc<|r_u rfl rfl (zh 0 ty43 rfl rfl (.take (.take .nil)))<|zO rfl rfl (.c rfl .n) ce88 (zed (w1:=w35) (x1:=x2)) (.c (j:=0) rfl .n)<|r_pv rfl rfl (zua rfl rfl)<|zj<|ze<|zD rfl (fun hz0=> ?_) (fun hz0=> ?_)
 ·
  have hx0:x2=0:=Big.sign_zero.1 hz0
  refine zi<|zc<|r_pv rfl rfl (zK zr45 rfl Try.underlying45 (.c sz43 (.c sz43 .n)) .n .n)<|zo 2 rfl rfl rfl rfl rfl sz45 rfl (.take (.take (.take (.take .nil)))) (.s (.s .z))<|r_pv rfl rfl (zd rfl)<|zj<|ze<|zI<|zt<|zpb (qF false wz wz 0) (fun g _=>qF_none g) ?_
  exact zva Try.results76 (wz,wz) trivial (zu 2 ty45 rfl rfl (.take (.take (.take (.take .nil))))) (zq rfl) (by rw [if_pos hx0];rfl) (ho:=(.n:PickO _ _ _)) ((.e (j:=0) rfl (by rw [Big.divInt_nil hx0,decide_eq_false (not_not_intro hx0)]) .n):SelR _ _ _)
 ·
  have hx0:x2≠0:=fun e=>hz0 (Big.sign_zero.2 e)
  refine zA<|ze<|zi<|zc<|r_u rfl rfl (zh 1 ty43 rfl rfl (.take (.take .nil)))<|r_u rfl rfl (zh 0 ty43 rfl rfl (.take (.take .nil)))<|zB rfl rfl (.c rfl (.c rfl .n)) ce89 (zwd (w1:=w34) (w2:=w35) (x1:=x1) (x2:=x2) (hl1:=by assumption) (hl2:=by assumption) (hd:=by first|rfl|assumption|omega|(rw [Big.zY];omega)|(decide +kernel))) (.c (j:=1) rfl (.c (j:=0) rfl .n)) ?_
  rintro ⟨w36,w47⟩ -
  dsimp only [List.append_eq,List.nil_append,List.cons_append]
  refine zo 2 rfl rfl rfl rfl rfl sz45 rfl (.take (.take (.take (.take .nil)))) (.s (.s .z))<|r_pv rfl rfl (zd rfl)<|zj<|ze<|zI ?_
  exact zva Try.results76 (w36,w47) trivial (zu 2 ty45 rfl rfl (.take (.take (.take (.take .nil))))) (zq rfl) (by rw [if_neg hx0]) (ho:=(.n:PickO _ _ _)) ((.e (j:=0) rfl (by rw [decide_eq_true hx0]) .n):SelR _ _ _)
theorem zxf {z1:Int} {z2:Int} (hz1: -9223372036854775808≤z1∧z1≤9223372036854775807) (hz2: -9223372036854775808≤z2∧z2≤9223372036854775807):Con Try.prog 60 [.int .i64 z1,.int .i64 z2] [] [] (Y:=Wd×Wd) (fun y=>True) (fun y=> .tuple #[.agg #[y.1.b,y.1.l,y.2.b,y.2.l],.int .i64 (if z2=0 then 14 else 0)]) (fun y=>[]) (fun y=>[qF (decide (z2≠0)) y.1 y.2 (Rat.divInt z1 z2)]):=by
 refine zr Try.func60 rfl rfl rfl (fun c=> ?_)
 show RunC _ _ _ _ _ [(0,.int .i64 z1),(1,.int .i64 z2)] [] []
 have g1:=Big.zpe hz1.1 hz1.2
 have g2:=Big.zpe hz2.1 hz2.2
 refine zi<|zc<|zS rfl rfl (zG zr45 rfl) (fun b1=> ?_)
 refine r_pv rfl rfl (zd rfl)<|zj<|ze<|zi<|zc<|r_pv rfl rfl (zb rfl)<|zB rfl rfl (.c rfl .n) ce77 (zFe (z:=z1) (hz:=by assumption)) (.n) ?_
 rintro w32 -
 dsimp only [List.append_eq,List.nil_append,List.cons_append]
 refine r_pv rfl rfl (zb rfl)<|zB rfl rfl (.c rfl .n) ce77 (zFe (z:=z2) (hz:=by assumption)) (.n) ?_
 rintro w33 -
 dsimp only [List.append_eq,List.nil_append,List.cons_append]
 refine zB rfl rfl (.c rfl (.c rfl .n)) ce76 (zwf (w1:=w32) (w2:=w33) (x1:=z1) (x2:=z2) (hl1:=by first|rfl|assumption|omega|(rw [Big.zY];omega)|(decide +kernel)) (hl2:=by first|rfl|assumption|omega|(rw [Big.zY];omega)|(decide +kernel))) (.c (j:=1) rfl (.c (j:=0) rfl .n)) ?_
 rintro ⟨w34,w45⟩ -
 dsimp only [List.append_eq,List.nil_append,List.cons_append]
 refine r_pv rfl rfl (zp rfl rfl)<|r_pv rfl rfl (zp rfl rfl)<|zo 0 rfl rfl rfl rfl rfl sz45 rfl (.take (.take (.take (.take .nil)))) .z<|r_pv rfl rfl (zd rfl)<|zj<|ze<|zI ?_
 exact zva Try.results60 (w34,w45) trivial (zu 0 ty45 rfl rfl (.take (.take (.take (.take .nil))))) (zq rfl) rfl (ho:=(.n:PickO _ _ _)) ((.c (j:=0) rfl .n):SelR _ _ _)
theorem zKe {z1:Int} {z2:Int} (hz1: -9223372036854775808≤z1∧z1≤9223372036854775807) (hz2: -9223372036854775808≤z2∧z2≤9223372036854775807) (hy:z2≠0):Con Try.prog 60 [.int .i64 (z1),.int .i64 (z2)] [] [] (Y:=(Wd)×(Wd)) (fun y=>True) (fun y=> .tuple #[.agg #[y.1.b,y.1.l,y.2.b,y.2.l],.int .i64 (0)]) (fun y=>[]) (fun y=>[qF true y.1 y.2 (Rat.divInt z1 z2)]):=by
  have h:=zxf hz1 hz2
  rw [if_neg hy,decide_eq_true hy] at h
  exact h
end Go.Proofs.Ytefbbhiaalcjfaa.Sp
namespace Go.Proofs.Ytefbbhiaalcjfaa.Sp
open Go
set_option linter.unusedVariables false
set_option maxRecDepth 100000
set_option maxHeartbeats 8000000
theorem zyc {z:Int} (hz: -9223372036854775808≤z∧z≤9223372036854775807):Con Try.prog 55 [.int .i64 z] [] [] (Y:=(Option Addr)×Nat) (fun y=>True) (fun y=> .agg #[.bool (decide (z<0)),.slice (y.1) ((Big.digs ((z).natAbs)).length) (y.2)]) (fun y=>[]) (fun y=>[slF (rI .u32) (y.1) (y.2) (Big.digs ((z).natAbs))]):=by
 refine zr Try.func55 rfl rfl rfl (fun c=> ?_)
 show RunC _ _ _ _ _ [(0,.int .i64 z)] [] []
 refine zi<|zc<|zS rfl rfl (zG zr43 rfl) (fun b1=> ?_)
 refine zj<|ze<|zi<|zc<|r_pv rfl rfl (zb rfl)<|zB rfl rfl (.c rfl .n) ce72 (zxe (z:=z) (hz:=by assumption)) (.n) ?_
 rintro ⟨p22,c23⟩ -
 dsimp only [List.append_eq,List.nil_append,List.cons_append]
 refine zo 0 rfl rfl rfl rfl rfl sz43 rfl (.take (.take .nil)) .z<|zj<|ze<|zI ?_
 exact zC Try.results55 (p22,c23) trivial (zu 0 ty43 rfl rfl (.take (.take .nil))) rfl (ho:=(.n:PickO _ _ _)) ((.c (j:=0) rfl .n):SelR _ _ _)
theorem znb {z:Int} (hz: -9223372036854775808≤z∧z≤9223372036854775807):Con Try.prog 55 [.int .i64 (z)] [] [] (Y:=(Wd)) (fun y=>True) (fun y=> .agg #[y.b,y.l]) (fun y=>[]) (fun y=>[zF y (z)]):=by
  exact zPb (zyc hz)
theorem zYd {z:Int} (hz: -9223372036854775808≤z∧z≤9223372036854775807):Con Try.prog 47 [.int .i64 z] [] [] (Y:=Wd×Wd) (fun y=>True) (fun y=> .agg #[y.1.b,y.1.l,y.2.b,y.2.l]) (fun y=>[]) (fun y=>[qF true y.1 y.2 ((z:Int):Rat)]):=by
 refine zr Try.func47 rfl rfl rfl (fun c=> ?_)
 show RunC _ _ _ _ _ [(0,.int .i64 z)] [] []
 refine zi<|zc<|zS rfl rfl (zG zr45 rfl) (fun b1=> ?_)
 refine zj<|ze<|zi<|zc<|r_pv rfl rfl (zb rfl)<|zB rfl rfl (.c rfl .n) ce55 (znb (z:=z) (hz:=by assumption)) (.n) ?_
 rintro w32 -
 dsimp only [List.append_eq,List.nil_append,List.cons_append]
 refine zB rfl rfl (.c rfl .n) ce55 (znb (z:=1) (hz:=by first|rfl|assumption|omega|(rw [Big.zY];omega)|(decide +kernel))) (.n) ?_
 rintro w33 -
 dsimp only [List.append_eq,List.nil_append,List.cons_append]
 refine r_pv rfl rfl (zK zr45 rfl Try.underlying45 (.c sz43 (.c sz43 .n)) (.c rfl (.c rfl .n)) (.c rfl rfl rfl (.take (.take .nil)) (.c rfl rfl rfl (.skip (.skip (.take (.take .nil)))) .n)))<|zo 0 rfl rfl rfl rfl rfl sz45 rfl (.take (.take (.take (.take .nil)))) .z<|zj<|ze<|zI<|zpb (qF true w32 w33 ((z:Int):Rat)) (qF_close 1 0 rfl rfl (by exact ⟨(Rat.num_intCast z).symm,by rw [Rat.den_intCast];rfl,Nat.le_trans (Big.hq_64 hz.1 hz.2) (by decide)⟩)) ?_
 exact zC Try.results47 (w32,w33) trivial (zu 0 ty45 rfl rfl (.take (.take (.take (.take .nil))))) rfl (ho:=(.n:PickO _ _ _)) ((.c (j:=0) rfl .n):SelR _ _ _)
theorem zjc {s:Bool} {p1:Option Addr} {n1:Nat} {c1:Nat} {l1:List Int} {t:Bool} {p2:Option Addr} {n2:Nat} {c2:Nat} {l2:List Int} (hn1:l1.length=n1) (hn2:l2.length=n2) (hm1:n1≤1048576) (hm2:n2≤1048576):Con Try.prog 61 [.agg #[.bool s,.slice p1 n1 c1,.bool t,.slice p2 n2 c2]] [] [slF (rI .u32) p1 c1 l1,slF (rI .u32) p2 c2 l2] (Y:=Unit) (fun y=>True) (fun y=> .bool (decide (Big.qok ((s,l1),(t,l2))))) (fun y=>[]) (fun y=>[]):=by
 refine zr Try.func61 rfl rfl rfl (fun c=> ?_)
 show RunC _ _ _ _ _ [(0,.agg #[.bool s,.slice p1 n1 c1,.bool t,.slice p2 n2 c2])] [] [slF (rI .u32) p1 c1 l1,slF (rI .u32) p2 c2 l2]
 refine zca 0 rfl (fun hL0=> ?_)
 refine zbb 0 rfl (fun hE0=> ?_)
 refine zca 1 rfl (fun hL1=> ?_)
 refine zbb 1 rfl (fun hE1=> ?_)
 have hnn1:Big.nn l1:=fun g hg=>(zw.1 (hE0 g hg)).1
 have hnn2:Big.nn l2:=fun g hg=>(zw.1 (hE1 g hg)).1
 have hb1:Big.ln (Big.raw s l1)≤n1:=by have:=Big.zab (s:=s) hnn1;omega
 have hb2:Big.ln (Big.raw t l2)≤n2:=by have:=Big.zab (s:=t) hnn2;omega
 refine zi<|zc<|zS rfl rfl (zX rfl rfl) (fun b1=> ?_)
 refine r_pv rfl rfl (zd rfl)<|zj<|ze<|zi<|zFa (X:=Unit) (fun x=>True) (fun x=>[(18,.bool (decide (¬(Big.canon s l1∧Big.canon t l2∧0<Big.raw t l2)))),(2,.bool false),(1,.pointer (some ⟨b1,0,none⟩))]) (fun x=>[boxA b1 45 [.bool s,.slice p1 n1 c1,.bool t,.slice p2 n2 c2]]) (fun x=>[slF (rI .u32) p1 c1 l1,slF (rI .u32) p2 c2 l2]) ?_ ?_
 ·
  refine zc<|r_pv rfl rfl (zg Try.underlying45 rfl sz43 rfl rfl)<|r_u rfl rfl (zh 0 ty43 rfl rfl (.take (.take .nil)))<|zO rfl rfl (.c rfl .n) ce78 (zKb (s:=s) (p:=p1) (n:=n1) (cap:=c1) (l:=l1) (hn:=by assumption)) (.c (j:=0) rfl .n)<|r_pv rfl rfl (zjb rfl)<|zP rfl rfl (zb rfl) (fun h2=> ?_) (fun h2=> ?_)
  ·
   refine za rfl rfl<|za rfl rfl<|za rfl rfl<|za rfl rfl<|r_pv rfl rfl (zk rfl rfl)<|r_pv rfl rfl (zb rfl)<|za rfl rfl<|za rfl rfl<|za rfl rfl<|za rfl rfl<|r_pv rfl rfl (zk rfl rfl)<|zj ?_
   exact zZ () (show True from by first|trivial|omega|simp_all) ((.e rfl (congrArg Value.bool (by simp_all)) (.c rfl (.c rfl .n))):SubM _ _) (ho:=((.c (i:=0) rfl .n):PickO _ _ _)) ((.of [0,1] rfl):SelR _ _ _)
  ·
   refine r_pv rfl rfl (zg Try.underlying45 rfl sz43 rfl rfl)<|r_u rfl rfl (zh 0 ty43 rfl rfl (.skip (.skip (.take (.take .nil)))))<|zO rfl rfl (.c rfl .n) ce78 (zKb (s:=t) (p:=p2) (n:=n2) (cap:=c2) (l:=l2) (hn:=by assumption)) (.c (j:=1) rfl .n)<|r_pv rfl rfl (zjb rfl)<|r_pv rfl rfl (zk rfl rfl)<|zP rfl rfl (zb rfl) (fun h3=> ?_) (fun h3=> ?_)
   ·
    refine za rfl rfl<|za rfl rfl<|za rfl rfl<|za rfl rfl<|r_pv rfl rfl (zk rfl rfl)<|zj ?_
    exact zZ () (show True from by first|trivial|omega|simp_all) ((.e rfl (congrArg Value.bool (by simp_all)) (.c rfl (.c rfl .n))):SubM _ _) (ho:=((.c (i:=0) rfl .n):PickO _ _ _)) ((.of [0,1] rfl):SelR _ _ _)
   ·
    refine r_pv rfl rfl (zg Try.underlying45 rfl sz43 rfl rfl)<|r_u rfl rfl (zh 0 ty43 rfl rfl (.skip (.skip (.take (.take .nil)))))<|zO rfl rfl (.c rfl .n) ce64 (zYc (s:=t) (p:=p2) (n:=n2) (cap:=c2) (l:=l2) (hn:=by assumption) (hln:=by first|rfl|assumption|omega|(rw [Big.zY];omega)|(decide +kernel))) (.c (j:=1) rfl .n)<|r_pv rfl rfl (zqc rfl rfl)<|r_pv rfl rfl (zk rfl rfl)<|zj ?_
    exact zZ () (show True from by first|trivial|omega|simp_all) ((.e rfl (congrArg Value.bool (by exact decide_eq_decide.2 (Big.sgn_le (Decidable.not_not.1 ‹_›) (Decidable.not_not.1 ‹_›)))) (.c rfl (.c rfl .n))):SubM _ _) (ho:=((.c (i:=0) rfl .n):PickO _ _ _)) ((.of [0,1] rfl):SelR _ _ _)
 ·
  rintro ⟨⟩ -
  try dsimp only
  refine zD rfl (fun hc=> ?_) (fun hc=> ?_)
  ·
   refine zi<|zc<|r_pv rfl rfl (zd rfl)<|zj<|ze<|zI<|zt ?_
   exact zC Try.results61 () trivial (zq rfl) (congrArg Value.bool (decide_eq_false (fun h=>hc ⟨h.1,h.2.1,h.2.2.1⟩))) (ho:=(.n:PickO _ _ _)) (.n:SelR _ _ _)
  ·
   have hcc:=Decidable.not_not.1 hc
   have hgl:=Big.zTc (n:=Big.raw s l1) (d:=Big.raw t l2) (by omega)
   refine zA<|ze<|zi<|zc<|r_pv rfl rfl (zg Try.underlying45 rfl sz43 rfl rfl)<|r_u rfl rfl (zh 0 ty43 rfl rfl (.take (.take .nil)))<|r_pv rfl rfl (zg Try.underlying45 rfl sz43 rfl rfl)<|r_u rfl rfl (zh 0 ty43 rfl rfl (.skip (.skip (.take (.take .nil)))))<|zB rfl rfl (.c rfl (.c rfl .n)) ce63 (zJd (s:=s) (p1:=p1) (n1:=n1) (c1:=c1) (l1:=l1) (t:=t) (p2:=p2) (n2:=n2) (c2:=c2) (l2:=l2) (hn1:=by assumption) (hn2:=by assumption) (hm1:=by first|rfl|assumption|omega|(rw [Big.zY];omega)|(decide +kernel)) (hm2:=by first|rfl|assumption|omega|(rw [Big.zY];omega)|(decide +kernel))) (.c (j:=0) rfl (.c (j:=1) rfl .n)) ?_
   rintro ⟨p34,c35⟩ -
   dsimp only [List.append_eq,List.nil_append,List.cons_append]
   refine zB rfl rfl (.c rfl .n) ce55 (zyc (z:=1) (hz:=by first|rfl|assumption|omega|(rw [Big.zY];omega)|(decide +kernel))) (.n) ?_
   rintro ⟨p26,c27⟩ -
   dsimp only [List.append_eq,List.nil_append,List.cons_append]
   refine zO rfl rfl (.c rfl (.c rfl .n)) ce79 (zFc (x1:=((Nat.gcd (Big.raw s l1).natAbs (Big.raw t l2).natAbs:Nat):Int)) (x2:=1) (p1:=p34) (c1:=c35) (p2:=p26) (c2:=c27) (hb1:=by first|rfl|assumption|omega|(rw [Big.zY];omega)|(decide +kernel)) (hb2:=by first|rfl|assumption|omega|(rw [Big.zY];omega)|(decide +kernel))) (.c (j:=1) rfl (.c (j:=0) rfl .n))<|r_pv rfl rfl (zua rfl rfl)<|r_pv rfl rfl (zd rfl)<|zj<|ze<|zI ?_
   exact zC Try.results61 () trivial (zq rfl) (congrArg Value.bool (decide_eq_decide.2 (Big.qok_sub (x:=((s,l1),(t,l2))) (Decidable.not_not.1 hc)).symm)) (ho:=(.n:PickO _ _ _)) (.n:SelR _ _ _)
theorem zRb {u1:Wd} {v1:Wd} {q1:Rat}:Con Try.prog 61 [.agg #[u1.b,u1.l,v1.b,v1.l]] [] [qF true u1 v1 (q1)] (Y:=Unit) (fun y=>True) (fun y=> .bool true) (fun y=>[]) (fun y=>[]):=by
  exact zif (fun x hx hk h1 h2=>by have h:= @zjc x.1.1 u1.p _ u1.c x.1.2 x.2.1 v1.p _ v1.c x.2.2 rfl rfl h1 h2;rw [decide_eq_true (hk rfl)] at h;exact h)
theorem zxd {s:Bool} {p1:Option Addr} {n1:Nat} {c1:Nat} {l1:List Int} {t:Bool} {p2:Option Addr} {n2:Nat} {c2:Nat} {l2:List Int} (hn1:l1.length=n1) (hn2:l2.length=n2) (hm1:n1≤1048576) (hm2:n2≤1048576):Con Try.prog 43 [.agg #[.bool s,.slice p1 n1 c1,.bool t,.slice p2 n2 c2]] [] [slF (rI .u32) p1 c1 l1,slF (rI .u32) p2 c2 l2] (Y:=Wd×Wd) (fun y=>True) (fun y=> .agg #[y.1.b,y.1.l,y.2.b,y.2.l]) (fun y=>[]) (fun y=>[qF true y.1 y.2 (Big.qv ((s,l1),(t,l2)))]):=by
 refine zr Try.func43 rfl rfl rfl (fun c=> ?_)
 show RunC _ _ _ _ _ [(0,.agg #[.bool s,.slice p1 n1 c1,.bool t,.slice p2 n2 c2])] [] [slF (rI .u32) p1 c1 l1,slF (rI .u32) p2 c2 l2]
 refine zca 0 rfl (fun hL0=> ?_)
 refine zbb 0 rfl (fun hE0=> ?_)
 refine zca 1 rfl (fun hL1=> ?_)
 refine zbb 1 rfl (fun hE1=> ?_)
 have hnn1:Big.nn l1:=fun g hg=>(zw.1 (hE0 g hg)).1
 have hnn2:Big.nn l2:=fun g hg=>(zw.1 (hE1 g hg)).1
 have hb1:Big.ln (Big.raw s l1)≤n1:=by have:=Big.zab (s:=s) hnn1;omega
 have hb2:Big.ln (Big.raw t l2)≤n2:=by have:=Big.zab (s:=t) hnn2;omega
 refine zi<|zc<|zS rfl rfl (zX rfl rfl) (fun b1=> ?_)
 refine zS rfl rfl (zG zr45 rfl) (fun b2=> ?_)
 refine zj<|ze<|zi<|zi<|zc<|r_u rfl rfl (zh 1 ty45 rfl rfl (.take (.take (.take (.take .nil)))))<|zO rfl rfl (.c rfl .n) ce61 (zjc (s:=s) (p1:=p1) (n1:=n1) (c1:=c1) (l1:=l1) (t:=t) (p2:=p2) (n2:=n2) (c2:=c2) (l2:=l2) (hn1:=by assumption) (hn2:=by assumption) (hm1:=by assumption) (hm2:=by assumption)) (.c (j:=0) rfl (.c (j:=1) rfl .n))<|zj<|ze<|zD rfl (fun hq=> ?_) (fun hq=> ?_)
 ·
  have hrp:=Big.raw_parts (x:=((s,l1),(t,l2))) hnn1 hnn2 hq
  have hqp:=Big.qv_parts (x:=((s,l1),(t,l2))) hq
  have hl:Big.hq (Big.qv ((s,l1),(t,l2)))≤1048576:=by unfold Big.hq;rw [hqp.1,hqp.2];dsimp only;omega
  refine zi<|zc<|r_u rfl rfl (zh 1 ty45 rfl rfl (.take (.take (.take (.take .nil)))))<|zo 0 rfl rfl rfl rfl rfl sz45 rfl (.take (.take (.take (.take .nil)))) .z<|zj<|ze<|zI<|zt<|zpb (qF true ⟨s,p1,n1,c1⟩ ⟨t,p2,n2,c2⟩ (Big.qv ((s,l1),(t,l2)))) (fun g r=>qF_rawI 0 1 rfl rfl hn1 hn2 hm1 hm2 hq g r) ?_
  exact zC Try.results43 (⟨s,p1,n1,c1⟩,⟨t,p2,n2,c2⟩) trivial (zu 0 ty45 rfl rfl (.take (.take (.take (.take .nil))))) rfl (ho:=(.n:PickO _ _ _)) ((.c (j:=0) rfl .n):SelR _ _ _)
 ·
  have hz:=Big.qv_not (x:=((s,l1),(t,l2))) hq
  refine zA<|ze<|zi<|zc<|zB rfl rfl (.c rfl .n) ce47 (zYd (z:=0) (hz:=by first|rfl|assumption|omega|(rw [Big.zY];omega)|(decide +kernel))) (.n) ?_
  rintro ⟨w33,w44⟩ -
  dsimp only [List.append_eq,List.nil_append,List.cons_append]
  refine zo 0 rfl rfl rfl rfl rfl sz45 rfl (.take (.take (.take (.take .nil)))) .z<|zj<|ze<|zI ?_
  exact zC Try.results43 (w33,w44) trivial (zu 0 ty45 rfl rfl (.take (.take (.take (.take .nil))))) rfl (ho:=(.n:PickO _ _ _)) ((.e (j:=0) rfl (by rw [hz];rfl) .n):SelR _ _ _)
theorem zdb {k1:Bool} {u1:Wd} {v1:Wd} {q1:Rat}:Con Try.prog 43 [.agg #[u1.b,u1.l,v1.b,v1.l]] [] [qF k1 u1 v1 (q1)] (Y:=(Wd)×(Wd)) (fun y=>True) (fun y=> .agg #[y.1.b,y.1.l,y.2.b,y.2.l]) (fun y=>[]) (fun y=>[qF true y.1 y.2 (q1)]):=by
  exact zrf (fun x hx hk h1 h2 hl=>by subst hx;exact zxd rfl rfl h1 h2)
theorem zSb {w1:Wd} {w2:Wd} {x1:Int} {x2:Int} (hl1:Big.ln x1≤1048576) (hl2:Big.ln x2≤1048576) (hd:x2≠0):Con Try.prog 44 [.agg #[w1.b,w1.l],.agg #[w2.b,w2.l]] [] [zF w1 x1,zF w2 x2] (Y:=Wd×Wd) (fun y=>True) (fun y=> .agg #[y.1.b,y.1.l,y.2.b,y.2.l]) (fun y=>[]) (fun y=>[qF true y.1 y.2 (Rat.divInt x1 x2)]):=by
 refine zr Try.func44 rfl rfl rfl (fun c=> ?_)
 show RunC _ _ _ _ _ [(0,.agg #[w1.b,w1.l]),(1,.agg #[w2.b,w2.l])] [] [zF w1 x1,zF w2 x2]
 refine zi<|zc<|zS rfl rfl (zX rfl rfl) (fun b1=> ?_)
 refine zS rfl rfl (zX rfl rfl) (fun b2=> ?_)
 refine zS rfl rfl (zG zr45 rfl) (fun b3=> ?_)
 refine zj<|ze<|zi<|zc<|r_u rfl rfl (zh 2 ty43 rfl rfl (.take (.take .nil)))<|r_u rfl rfl (zh 1 ty43 rfl rfl (.take (.take .nil)))<|zB rfl rfl (.c rfl (.c rfl .n)) ce63 (zDe (w1:=w1) (w2:=w2) (x1:=x1) (x2:=x2) (hb1:=by first|rfl|assumption|omega|(rw [Big.zY];omega)|(decide +kernel)) (hb2:=by first|rfl|assumption|omega|(rw [Big.zY];omega)|(decide +kernel))) (.c (j:=0) rfl (.c (j:=1) rfl .n)) ?_
 rintro w34 -
 dsimp only [List.append_eq,List.nil_append,List.cons_append]
 refine zS rfl rfl (zG zr43 rfl) (fun b5=> ?_)
 refine zo 0 rfl rfl rfl rfl rfl sz43 rfl (.take (.take .nil)) .z<|zj<|ze<|zi<|zi<|zc<|r_u rfl rfl (zh 2 ty43 rfl rfl (.take (.take .nil)))<|zO rfl rfl (.c rfl .n) ce64 (zLb (w1:=w2) (x1:=x2) (hln:=by first|rfl|assumption|omega|(rw [Big.zY];omega)|(decide +kernel))) (.c (j:=2) rfl .n)<|r_pv rfl rfl (zW rfl rfl)<|zj<|ze<|zD rfl (fun hneg=> ?_) (fun hneg=> ?_)
 ·
  have hs:x2<0:=by rcases Big.sign_le (x:=x2) with h|h|h <;> omega
  have hgp:=Big.gcd_pos_right (n:=x1) (d:=x2) (by omega)
  have hgl:=Big.zTc (n:=x1) (d:=x2) (by omega)
  obtain ⟨hr1,hr2⟩:=Big.red_neg (n:=x1) hs
  refine zc<|r_u rfl rfl (zh 0 ty43 rfl rfl (.take (.take .nil)))<|zB rfl rfl (.c rfl .n) ce65 (zXc (w1:=w34) (x1:=((Nat.gcd x1.natAbs x2.natAbs:Nat):Int)) (hln:=by first|rfl|assumption|omega|(rw [Big.zY];omega)|(decide +kernel))) (.c (j:=0) rfl .n) ?_
  rintro w36 -
  dsimp only [List.append_eq,List.nil_append,List.cons_append]
  refine zo 0 rfl rfl rfl rfl rfl sz43 rfl (.take (.take .nil)) .z<|zj<|ze<|zi<|zc<|r_u rfl rfl (zh 3 ty43 rfl rfl (.take (.take .nil)))<|r_u rfl rfl (zh 0 ty43 rfl rfl (.take (.take .nil)))<|zB rfl rfl (.c rfl (.c rfl .n)) ce66 (zcb (w1:=w1) (w2:=w36) (x1:=x1) (x2:= - ((Nat.gcd x1.natAbs x2.natAbs:Nat):Int)) (hb1:=by first|rfl|assumption|omega|(rw [Big.zY];omega)|(decide +kernel)) (hb2:=by first|rfl|assumption|omega|(rw [Big.zY];omega)|(decide +kernel)) (hy:=by first|rfl|assumption|omega|(rw [Big.zY];omega)|(decide +kernel))) (.c (j:=2) rfl (.c (j:=0) rfl .n)) ?_
  rintro ⟨w37,w48⟩ -
  dsimp only [List.append_eq,List.nil_append,List.cons_append]
  refine r_pv rfl rfl (zb rfl)<|r_pv rfl rfl (zp rfl rfl)<|r_pv rfl rfl (zp rfl rfl)<|r_pv rfl rfl (zp rfl rfl)<|zS rfl rfl (zG zr43 rfl) (fun b9=> ?_)
  refine zS rfl rfl (zG zr43 rfl) (fun b10=> ?_)
  refine zo 1 rfl rfl rfl rfl rfl sz43 rfl (.take (.take .nil)) (.s .z)<|zo 0 rfl rfl rfl rfl rfl sz43 rfl (.take (.take .nil)) .z<|r_pv rfl rfl (zd rfl)<|zj<|ze<|zi<|zc<|r_u rfl rfl (zh 4 ty43 rfl rfl (.take (.take .nil)))<|r_u rfl rfl (zh 2 ty43 rfl rfl (.take (.take .nil)))<|zB rfl rfl (.c rfl (.c rfl .n)) ce66 (zcb (w1:=w2) (w2:=w36) (x1:=x2) (x2:= - ((Nat.gcd x1.natAbs x2.natAbs:Nat):Int)) (hb1:=by first|rfl|assumption|omega|(rw [Big.zY];omega)|(decide +kernel)) (hb2:=by first|rfl|assumption|omega|(rw [Big.zY];omega)|(decide +kernel)) (hy:=by first|rfl|assumption|omega|(rw [Big.zY];omega)|(decide +kernel))) (.c (j:=5) rfl (.c (j:=2) rfl .n)) ?_
  rintro ⟨w311,w412⟩ -
  dsimp only [List.append_eq,List.nil_append,List.cons_append]
  refine r_pv rfl rfl (zb rfl)<|r_pv rfl rfl (zp rfl rfl)<|r_pv rfl rfl (zp rfl rfl)<|r_pv rfl rfl (zp rfl rfl)<|zS rfl rfl (zG zr43 rfl) (fun b13=> ?_)
  refine zS rfl rfl (zG zr43 rfl) (fun b14=> ?_)
  refine zo 1 rfl rfl rfl rfl rfl sz43 rfl (.take (.take .nil)) (.s .z)<|zo 0 rfl rfl rfl rfl rfl sz43 rfl (.take (.take .nil)) .z<|r_pv rfl rfl (zd rfl)<|zj<|ze<|zi<|zc<|r_u rfl rfl (zh 3 ty43 rfl rfl (.take (.take .nil)))<|r_u rfl rfl (zh 1 ty43 rfl rfl (.take (.take .nil)))<|r_pv rfl rfl (zK zr45 rfl Try.underlying45 (.c sz43 (.c sz43 .n)) (.c rfl (.c rfl .n)) (.c rfl rfl rfl (.take (.take .nil)) (.c rfl rfl rfl (.skip (.skip (.take (.take .nil)))) .n)))<|zo 5 rfl rfl rfl rfl rfl sz45 rfl (.take (.take (.take (.take .nil)))) (.s (.s (.s (.s (.s .z)))))<|zj<|ze<|zI<|zpb (qF true w37 w311 (Rat.divInt x1 x2)) (qF_close 2 0 rfl rfl (by exact ⟨hr1,hr2,Nat.le_trans (Big.hq_divInt hd) (by omega)⟩)) ?_
  exact zC Try.results44 (w37,w311) trivial (zu 5 ty45 rfl rfl (.take (.take (.take (.take .nil))))) rfl (ho:=(.n:PickO _ _ _)) ((.c (j:=0) rfl .n):SelR _ _ _)
 ·
  have hs:0<x2:=by rcases Big.sign_le (x:=x2) with h|h|h <;> omega
  have hgp:=Big.gcd_pos_right (n:=x1) (d:=x2) (by omega)
  have hgl:=Big.zTc (n:=x1) (d:=x2) (by omega)
  obtain ⟨hr1,hr2⟩:=Big.red_pos (n:=x1) hs
  refine zA<|ze<|zi<|zc<|r_u rfl rfl (zh 3 ty43 rfl rfl (.take (.take .nil)))<|r_u rfl rfl (zh 0 ty43 rfl rfl (.take (.take .nil)))<|zB rfl rfl (.c rfl (.c rfl .n)) ce66 (zcb (w1:=w1) (w2:=w34) (x1:=x1) (x2:=((Nat.gcd x1.natAbs x2.natAbs:Nat):Int)) (hb1:=by first|rfl|assumption|omega|(rw [Big.zY];omega)|(decide +kernel)) (hb2:=by first|rfl|assumption|omega|(rw [Big.zY];omega)|(decide +kernel)) (hy:=by first|rfl|assumption|omega|(rw [Big.zY];omega)|(decide +kernel))) (.c (j:=1) rfl (.c (j:=0) rfl .n)) ?_
  rintro ⟨w315,w416⟩ -
  dsimp only [List.append_eq,List.nil_append,List.cons_append]
  refine r_pv rfl rfl (zb rfl)<|r_pv rfl rfl (zp rfl rfl)<|r_pv rfl rfl (zp rfl rfl)<|r_pv rfl rfl (zp rfl rfl)<|zS rfl rfl (zG zr43 rfl) (fun b17=> ?_)
  refine zS rfl rfl (zG zr43 rfl) (fun b18=> ?_)
  refine zo 1 rfl rfl rfl rfl rfl sz43 rfl (.take (.take .nil)) (.s .z)<|zo 0 rfl rfl rfl rfl rfl sz43 rfl (.take (.take .nil)) .z<|r_pv rfl rfl (zd rfl)<|zj<|ze<|zi<|zc<|r_u rfl rfl (zh 4 ty43 rfl rfl (.take (.take .nil)))<|r_u rfl rfl (zh 2 ty43 rfl rfl (.take (.take .nil)))<|zB rfl rfl (.c rfl (.c rfl .n)) ce66 (zcb (w1:=w2) (w2:=w34) (x1:=x2) (x2:=((Nat.gcd x1.natAbs x2.natAbs:Nat):Int)) (hb1:=by first|rfl|assumption|omega|(rw [Big.zY];omega)|(decide +kernel)) (hb2:=by first|rfl|assumption|omega|(rw [Big.zY];omega)|(decide +kernel)) (hy:=by first|rfl|assumption|omega|(rw [Big.zY];omega)|(decide +kernel))) (.c (j:=4) rfl (.c (j:=2) rfl .n)) ?_
  rintro ⟨w319,w420⟩ -
  dsimp only [List.append_eq,List.nil_append,List.cons_append]
  refine r_pv rfl rfl (zb rfl)<|r_pv rfl rfl (zp rfl rfl)<|r_pv rfl rfl (zp rfl rfl)<|r_pv rfl rfl (zp rfl rfl)<|zS rfl rfl (zG zr43 rfl) (fun b21=> ?_)
  refine zS rfl rfl (zG zr43 rfl) (fun b22=> ?_)
  refine zo 1 rfl rfl rfl rfl rfl sz43 rfl (.take (.take .nil)) (.s .z)<|zo 0 rfl rfl rfl rfl rfl sz43 rfl (.take (.take .nil)) .z<|r_pv rfl rfl (zd rfl)<|zj<|ze<|zi<|zc<|r_u rfl rfl (zh 3 ty43 rfl rfl (.take (.take .nil)))<|r_u rfl rfl (zh 1 ty43 rfl rfl (.take (.take .nil)))<|r_pv rfl rfl (zK zr45 rfl Try.underlying45 (.c sz43 (.c sz43 .n)) (.c rfl (.c rfl .n)) (.c rfl rfl rfl (.take (.take .nil)) (.c rfl rfl rfl (.skip (.skip (.take (.take .nil)))) .n)))<|zo 5 rfl rfl rfl rfl rfl sz45 rfl (.take (.take (.take (.take .nil)))) (.s (.s (.s (.s (.s .z)))))<|zj<|ze<|zI<|zpb (qF true w315 w319 (Rat.divInt x1 x2)) (qF_close 2 0 rfl rfl (by exact ⟨hr1,hr2,Nat.le_trans (Big.hq_divInt hd) (by omega)⟩)) ?_
  exact zC Try.results44 (w315,w319) trivial (zu 5 ty45 rfl rfl (.take (.take (.take (.take .nil))))) rfl (ho:=(.n:PickO _ _ _)) ((.c (j:=0) rfl .n):SelR _ _ _)
theorem zef {w1:Wd} {w2:Wd} {x1:Int} {x2:Int} (hl1:Big.ln x1≤1048576) (hl2:Big.ln x2≤1048576):Con Try.prog 54 [.agg #[w1.b,w1.l],.agg #[w2.b,w2.l]] [] [zF w1 x1,zF w2 x2] (Y:=Wd×Wd) (fun y=>True) (fun y=> .tuple #[.agg #[y.1.b,y.1.l,y.2.b,y.2.l],.int .i64 (if x2=0 then 14 else 0)]) (fun y=>[]) (fun y=>[qF (decide (x2≠0)) y.1 y.2 (Rat.divInt x1 x2)]):=by
 refine zr Try.func54 rfl rfl rfl (fun c=> ?_)
 show RunC _ _ _ _ _ [(0,.agg #[w1.b,w1.l]),(1,.agg #[w2.b,w2.l])] [] [zF w1 x1,zF w2 x2]
 refine zi<|zc<|zS rfl rfl (zX rfl rfl) (fun b1=> ?_)
 refine zS rfl rfl (zX rfl rfl) (fun b2=> ?_)
 refine zS rfl rfl (zG zr45 rfl) (fun b3=> ?_)
 refine r_pv rfl rfl (zd rfl)<|zj<|ze<|zi<|zi<|zc<|r_u rfl rfl (zh 1 ty43 rfl rfl (.take (.take .nil)))<|zO rfl rfl (.c rfl .n) ce64 (zLb (w1:=w2) (x1:=x2) (hln:=by first|rfl|assumption|omega|(rw [Big.zY];omega)|(decide +kernel))) (.c (j:=1) rfl .n)<|r_pv rfl rfl (zua rfl rfl)<|zj<|ze<|zD rfl (fun hz0=> ?_) (fun hz0=> ?_)
 ·
  have hx0:x2=0:=Big.sign_zero.1 hz0
  refine zi<|zc<|r_pv rfl rfl (zK zr45 rfl Try.underlying45 (.c sz43 (.c sz43 .n)) .n .n)<|zo 0 rfl rfl rfl rfl rfl sz45 rfl (.take (.take (.take (.take .nil)))) .z<|r_pv rfl rfl (zd rfl)<|zj<|ze<|zI<|zt<|zpb (qF false wz wz 0) (fun g _=>qF_none g) ?_
  exact zva Try.results54 (wz,wz) trivial (zu 0 ty45 rfl rfl (.take (.take (.take (.take .nil))))) (zq rfl) (by rw [if_pos hx0];rfl) (ho:=(.n:PickO _ _ _)) ((.e (j:=0) rfl (by rw [Big.divInt_nil hx0,decide_eq_false (not_not_intro hx0)]) .n):SelR _ _ _)
 ·
  have hx0:x2≠0:=fun e=>hz0 (Big.sign_zero.2 e)
  refine zA<|ze<|zi<|zc<|r_u rfl rfl (zh 2 ty43 rfl rfl (.take (.take .nil)))<|r_u rfl rfl (zh 1 ty43 rfl rfl (.take (.take .nil)))<|zB rfl rfl (.c rfl (.c rfl .n)) ce44 (zSb (w1:=w1) (w2:=w2) (x1:=x1) (x2:=x2) (hl1:=by assumption) (hl2:=by assumption) (hd:=by first|rfl|assumption|omega|(rw [Big.zY];omega)|(decide +kernel))) (.c (j:=0) rfl (.c (j:=1) rfl .n)) ?_
  rintro ⟨w34,w45⟩ -
  dsimp only [List.append_eq,List.nil_append,List.cons_append]
  refine zo 0 rfl rfl rfl rfl rfl sz45 rfl (.take (.take (.take (.take .nil)))) .z<|r_pv rfl rfl (zd rfl)<|zj<|ze<|zI ?_
  exact zva Try.results54 (w34,w45) trivial (zu 0 ty45 rfl rfl (.take (.take (.take (.take .nil))))) (zq rfl) (by rw [if_neg hx0]) (ho:=(.n:PickO _ _ _)) ((.e (j:=0) rfl (by rw [decide_eq_true hx0]) .n):SelR _ _ _)
theorem zff {z1:Int} {z2:Int} (hz1: -9223372036854775808≤z1∧z1≤9223372036854775807) (hz2: -9223372036854775808≤z2∧z2≤9223372036854775807):Con Try.prog 32 [.int .i64 z1,.int .i64 z2] [] [] (Y:=Wd×Wd) (fun y=>True) (fun y=> .tuple #[.agg #[y.1.b,y.1.l,y.2.b,y.2.l],.int .i64 (if z2=0 then 14 else 0)]) (fun y=>[]) (fun y=>[qF (decide (z2≠0)) y.1 y.2 (Rat.divInt z1 z2)]):=by
 refine zr Try.func32 rfl rfl rfl (fun c=> ?_)
 show RunC _ _ _ _ _ [(0,.int .i64 z1),(1,.int .i64 z2)] [] []
 have g1:=Big.zpe hz1.1 hz1.2
 have g2:=Big.zpe hz2.1 hz2.2
 refine zi<|zc<|zS rfl rfl (zG zr45 rfl) (fun b1=> ?_)
 refine r_pv rfl rfl (zd rfl)<|zj<|ze<|zi<|zc<|r_pv rfl rfl (zb rfl)<|zB rfl rfl (.c rfl .n) ce55 (znb (z:=z1) (hz:=by assumption)) (.n) ?_
 rintro w32 -
 dsimp only [List.append_eq,List.nil_append,List.cons_append]
 refine r_pv rfl rfl (zb rfl)<|zB rfl rfl (.c rfl .n) ce55 (znb (z:=z2) (hz:=by assumption)) (.n) ?_
 rintro w33 -
 dsimp only [List.append_eq,List.nil_append,List.cons_append]
 refine zB rfl rfl (.c rfl (.c rfl .n)) ce54 (zef (w1:=w32) (w2:=w33) (x1:=z1) (x2:=z2) (hl1:=by first|rfl|assumption|omega|(rw [Big.zY];omega)|(decide +kernel)) (hl2:=by first|rfl|assumption|omega|(rw [Big.zY];omega)|(decide +kernel))) (.c (j:=1) rfl (.c (j:=0) rfl .n)) ?_
 rintro ⟨w34,w45⟩ -
 dsimp only [List.append_eq,List.nil_append,List.cons_append]
 refine r_pv rfl rfl (zp rfl rfl)<|r_pv rfl rfl (zp rfl rfl)<|zo 0 rfl rfl rfl rfl rfl sz45 rfl (.take (.take (.take (.take .nil)))) .z<|r_pv rfl rfl (zd rfl)<|zj<|ze<|zI ?_
 exact zva Try.results32 (w34,w45) trivial (zu 0 ty45 rfl rfl (.take (.take (.take (.take .nil))))) (zq rfl) rfl (ho:=(.n:PickO _ _ _)) ((.c (j:=0) rfl .n):SelR _ _ _)
theorem zzc {z1:Int} {z2:Int} (hz1: -9223372036854775808≤z1∧z1≤9223372036854775807) (hz2: -9223372036854775808≤z2∧z2≤9223372036854775807) (hy:z2≠0):Con Try.prog 32 [.int .i64 (z1),.int .i64 (z2)] [] [] (Y:=(Wd)×(Wd)) (fun y=>True) (fun y=> .tuple #[.agg #[y.1.b,y.1.l,y.2.b,y.2.l],.int .i64 (0)]) (fun y=>[]) (fun y=>[qF true y.1 y.2 (Rat.divInt z1 z2)]):=by
  have h:=zff hz1 hz2
  rw [if_neg hy,decide_eq_true hy] at h
  exact h
theorem zZd {k1:Bool} {u1:Wd} {v1:Wd} {q1:Rat} (hl:Big.hq q1≤1048576):Con Try.prog 80 [.agg #[u1.b,u1.l,v1.b,v1.l]] [] [qF k1 u1 v1 q1] (Y:=Unit) (fun y=>True) (fun y=> .int .i64 (Big.sgq q1)) (fun y=>[]) (fun y=>[]):=by
 refine zr Try.func80 rfl rfl rfl (fun c=> ?_)
 show RunC _ _ _ _ _ [(0,.agg #[u1.b,u1.l,v1.b,v1.l])] [] [qF k1 u1 v1 q1]
 have a1:=Big.hq_num q1
 have a2:=Big.hq_den q1
 refine zi<|zc<|zS rfl rfl (zX rfl rfl) (fun b1=> ?_)
 refine r_pv rfl rfl (zd rfl)<|zj<|ze<|zi<|zc<|r_u rfl rfl (zh 0 ty45 rfl rfl (.take (.take (.take (.take .nil)))))<|zB rfl rfl (.c rfl .n) ce43 (zdb (k1:=k1) (u1:=u1) (v1:=v1) (q1:=q1)) (.c (j:=0) rfl .n) ?_
 rintro ⟨w32,w43⟩ -
 dsimp only [List.append_eq,List.nil_append,List.cons_append]
 refine r_pv rfl rfl (zNc Try.underlying45 rfl ty43 rfl (.take (.take .nil)))<|zpc (qF_open 0 rfl) (fun _ _=> ?_)
 refine zO rfl rfl (.c rfl .n) ce64 (zLb (w1:=w32) (x1:=(q1).num) (hln:=by first|rfl|assumption|omega|(rw [Big.zY];omega)|(decide +kernel))) (.c (j:=0) rfl .n)<|r_pv rfl rfl (zd rfl)<|zj<|ze<|zI ?_
 exact zC Try.results80 () trivial (zq rfl) rfl (ho:=(.n:PickO _ _ _)) (.n:SelR _ _ _)
theorem zLe {k1:Bool} {u1:Wd} {v1:Wd} {q1:Rat} (hl:Big.hq q1≤1048576):Con Try.prog 92 [.agg #[u1.b,u1.l,v1.b,v1.l]] [] [qF k1 u1 v1 q1] (Y:=Wd×Wd) (fun y=>True) (fun y=> .agg #[y.1.b,y.1.l,y.2.b,y.2.l]) (fun y=>[]) (fun y=>[qF true y.1 y.2 (- q1)]):=by
 refine zr Try.func92 rfl rfl rfl (fun c=> ?_)
 show RunC _ _ _ _ _ [(0,.agg #[u1.b,u1.l,v1.b,v1.l])] [] [qF k1 u1 v1 q1]
 have a1:=Big.hq_num q1
 have a2:=Big.hq_den q1
 refine zi<|zc<|zS rfl rfl (zX rfl rfl) (fun b1=> ?_)
 refine zS rfl rfl (zG zr45 rfl) (fun b2=> ?_)
 refine zj<|ze<|zi<|zc<|r_u rfl rfl (zh 1 ty45 rfl rfl (.take (.take (.take (.take .nil)))))<|zB rfl rfl (.c rfl .n) ce43 (zdb (k1:=k1) (u1:=u1) (v1:=v1) (q1:=q1)) (.c (j:=0) rfl .n) ?_
 rintro ⟨w33,w44⟩ -
 dsimp only [List.append_eq,List.nil_append,List.cons_append]
 refine zS rfl rfl (zG zr45 rfl) (fun b5=> ?_)
 refine zo 0 rfl rfl rfl rfl rfl sz45 rfl (.take (.take (.take (.take .nil)))) .z<|zj<|ze<|zi<|zza (.c (i:=1) rfl (.c (i:=0) rfl (.c (i:=0) rfl .n)))<|zja (OW:=[boxA b2 45 (cw [wz,wz])]) (O:=[boxA b5 45 (cw [w33,w44]),boxA b1 45 (cw [u1,v1])]) 6 mixed (.then .ret) (by kernel_rfl)<|d_pv 0 rfl rfl (by kernel_rfl) (by kernel_rfl) rfl rfl (zg Try.underlying45 rfl sz43 rfl rfl)<|d_uw 1 rfl rfl (by kernel_rfl) (by kernel_rfl) (by kernel_rfl) rfl rfl (zh 1 ty43 rfl rfl (.take (.take .nil)))<|d_pv 3 rfl rfl (by kernel_rfl) (by kernel_rfl) rfl rfl (zg Try.underlying45 rfl sz43 rfl rfl)<|d_uw 4 rfl rfl (by kernel_rfl) (by kernel_rfl) (by kernel_rfl) rfl rfl (zh 1 ty43 rfl rfl (.skip (.skip (.take (.take .nil)))))<|zee (qF_open 0 rfl) (fun _ _=> ?_)
 refine zV 2 (by kernel_rfl) (zT rfl rfl rfl rfl (.c rfl .n) ce65 (zXc (w1:=w33) (x1:=(q1).num) (hln:=by first|rfl|assumption|omega|(rw [Big.zY];omega)|(decide +kernel))) (.c (j:=0) rfl .n) ?_)
 rintro w36 -
 dsimp only [List.append_eq,List.nil_append,List.cons_append]
 refine d_pv 5 rfl rfl (by kernel_rfl) (by kernel_rfl) rfl rfl (zK zr45 rfl Try.underlying45 (.c sz43 (.c sz43 .n)) (.c rfl (.c rfl .n)) (.c rfl rfl rfl (.take (.take .nil)) (.c rfl rfl rfl (.skip (.skip (.take (.take .nil)))) .n)))<|zV 6 (by kernel_rfl) (zL (by kernel_rfl) rfl rfl rfl rfl rfl sz45 rfl (.take (.take (.take (.take .nil)))) ?_)
 refine zga (by kernel_rfl)<|ze<|zI<|zpb (qF true w36 w44 (- q1)) (qF_close 0 2 rfl rfl (by exact ⟨(Rat.neg_num q1).symm,by rw [Rat.neg_den],by rw [Big.hq_neg];exact hl⟩)) ?_
 exact zC Try.results92 (w36,w44) trivial (zu 0 ty45 rfl rfl (.take (.take (.take (.take .nil))))) rfl (ho:=(.n:PickO _ _ _)) ((.c (j:=0) rfl .n):SelR _ _ _)
theorem zMe {k1:Bool} {u1:Wd} {v1:Wd} {q1:Rat} {k2:Bool} {u2:Wd} {v2:Wd} {q2:Rat} (hl:Big.hq q1+Big.hq q2+1≤1048576):Con Try.prog 21 [.agg #[u1.b,u1.l,v1.b,v1.l],.agg #[u2.b,u2.l,v2.b,v2.l]] [] [qF k1 u1 v1 q1,qF k2 u2 v2 q2] (Y:=Wd×Wd) (fun y=>True) (fun y=> .agg #[y.1.b,y.1.l,y.2.b,y.2.l]) (fun y=>[]) (fun y=>[qF true y.1 y.2 (q1+q2)]):=by
 refine zr Try.func21 rfl rfl rfl (fun c=> ?_)
 show RunC _ _ _ _ _ [(0,.agg #[u1.b,u1.l,v1.b,v1.l]),(1,.agg #[u2.b,u2.l,v2.b,v2.l])] [] [qF k1 u1 v1 q1,qF k2 u2 v2 q2]
 have a1:=Big.hq_num q1
 have a2:=Big.hq_den q1
 have a3:=Big.hq_num q2
 have a4:=Big.hq_den q2
 have b1:=Big.zOb q1.num q2.den
 have b2:=Big.zOb q2.num q1.den
 have b3:=Big.zFd (q1.num*q2.den) (q2.num*q1.den)
 have b4:=Big.zOb (q1.den:Int) q2.den
 have b5:=Big.zOb q1.num q2.num
 refine zi<|zc<|zS rfl rfl (zX rfl rfl) (fun b1=> ?_)
 refine zS rfl rfl (zX rfl rfl) (fun b2=> ?_)
 refine zS rfl rfl (zG zr45 rfl) (fun b3=> ?_)
 refine zj<|ze<|zi<|zc<|r_u rfl rfl (zh 2 ty45 rfl rfl (.take (.take (.take (.take .nil)))))<|zB rfl rfl (.c rfl .n) ce43 (zdb (k1:=k1) (u1:=u1) (v1:=v1) (q1:=q1)) (.c (j:=0) rfl .n) ?_
 rintro ⟨w34,w45⟩ -
 dsimp only [List.append_eq,List.nil_append,List.cons_append]
 refine zS rfl rfl (zG zr45 rfl) (fun b6=> ?_)
 refine zo 0 rfl rfl rfl rfl rfl sz45 rfl (.take (.take (.take (.take .nil)))) .z<|zj<|ze<|zi<|zc<|r_u rfl rfl (zh 2 ty45 rfl rfl (.take (.take (.take (.take .nil)))))<|zB rfl rfl (.c rfl .n) ce43 (zdb (k1:=k2) (u1:=u2) (v1:=v2) (q1:=q2)) (.c (j:=2) rfl .n) ?_
 rintro ⟨w37,w48⟩ -
 dsimp only [List.append_eq,List.nil_append,List.cons_append]
 refine zS rfl rfl (zG zr45 rfl) (fun b9=> ?_)
 refine zo 0 rfl rfl rfl rfl rfl sz45 rfl (.take (.take (.take (.take .nil)))) .z<|zj<|ze<|zi<|zza (.c (i:=2) rfl (.c (i:=0) rfl (.c (i:=0) rfl (.c (i:=0) rfl (.c (i:=0) rfl .n)))))<|zja (OW:=[boxA b3 45 (cw [wz,wz])]) (O:=[boxA b9 45 (cw [w37,w48]),boxA b6 45 (cw [w34,w45]),boxA b2 45 (cw [u2,v2]),boxA b1 45 (cw [u1,v1])]) 17 mixed (.then .ret) (by kernel_rfl)<|d_pv 0 rfl rfl (by kernel_rfl) (by kernel_rfl) rfl rfl (zg Try.underlying45 rfl sz43 rfl rfl)<|d_uw 1 rfl rfl (by kernel_rfl) (by kernel_rfl) (by kernel_rfl) rfl rfl (zh 2 ty43 rfl rfl (.take (.take .nil)))<|d_pv 2 rfl rfl (by kernel_rfl) (by kernel_rfl) rfl rfl (zg Try.underlying45 rfl sz43 rfl rfl)<|d_uw 3 rfl rfl (by kernel_rfl) (by kernel_rfl) (by kernel_rfl) rfl rfl (zh 1 ty43 rfl rfl (.skip (.skip (.take (.take .nil)))))<|d_pv 5 rfl rfl (by kernel_rfl) (by kernel_rfl) rfl rfl (zg Try.underlying45 rfl sz43 rfl rfl)<|d_uw 6 rfl rfl (by kernel_rfl) (by kernel_rfl) (by kernel_rfl) rfl rfl (zh 1 ty43 rfl rfl (.take (.take .nil)))<|d_pv 7 rfl rfl (by kernel_rfl) (by kernel_rfl) rfl rfl (zg Try.underlying45 rfl sz43 rfl rfl)<|d_uw 8 rfl rfl (by kernel_rfl) (by kernel_rfl) (by kernel_rfl) rfl rfl (zh 2 ty43 rfl rfl (.skip (.skip (.take (.take .nil)))))<|d_pv 11 rfl rfl (by kernel_rfl) (by kernel_rfl) rfl rfl (zg Try.underlying45 rfl sz43 rfl rfl)<|d_uw 12 rfl rfl (by kernel_rfl) (by kernel_rfl) (by kernel_rfl) rfl rfl (zh 2 ty43 rfl rfl (.skip (.skip (.take (.take .nil)))))<|d_pv 13 rfl rfl (by kernel_rfl) (by kernel_rfl) rfl rfl (zg Try.underlying45 rfl sz43 rfl rfl)<|d_uw 14 rfl rfl (by kernel_rfl) (by kernel_rfl) (by kernel_rfl) rfl rfl (zh 1 ty43 rfl rfl (.skip (.skip (.take (.take .nil)))))<|zee (qF_open 1 rfl) (fun _ _=> ?_)
 refine zee (qF_open 2 rfl) (fun _ _=> ?_)
 refine zV 4 (by kernel_rfl) (zT rfl rfl rfl rfl (.c rfl (.c rfl .n)) ce46 (zgc (w1:=w34) (w2:=w48) (x1:=(q1).num) (x2:=(((q2).den:Nat):Int)) (hb1:=by first|rfl|assumption|omega|(rw [Big.zY];omega)|(decide +kernel)) (hb2:=by first|rfl|assumption|omega|(rw [Big.zY];omega)|(decide +kernel))) (.c (j:=2) rfl (.c (j:=1) rfl .n)) ?_)
 rintro w310 -
 dsimp only [List.append_eq,List.nil_append,List.cons_append]
 refine zV 9 (by kernel_rfl) (zT rfl rfl rfl rfl (.c rfl (.c rfl .n)) ce46 (zgc (w1:=w37) (w2:=w45) (x1:=(q2).num) (x2:=(((q1).den:Nat):Int)) (hb1:=by first|rfl|assumption|omega|(rw [Big.zY];omega)|(decide +kernel)) (hb2:=by first|rfl|assumption|omega|(rw [Big.zY];omega)|(decide +kernel))) (.c (j:=1) rfl (.c (j:=4) rfl .n)) ?_)
 rintro w311 -
 dsimp only [List.append_eq,List.nil_append,List.cons_append]
 refine zV 10 (by kernel_rfl) (zT rfl rfl rfl rfl (.c rfl (.c rfl .n)) ce45 (zBe (w1:=w310) (w2:=w311) (x1:=((q1).num)*(((q2).den:Nat):Int)) (x2:=((q2).num)*(((q1).den:Nat):Int)) (hb1:=by first|rfl|assumption|omega|(rw [Big.zY];omega)|(decide +kernel)) (hb2:=by first|rfl|assumption|omega|(rw [Big.zY];omega)|(decide +kernel))) (.c (j:=1) rfl (.c (j:=0) rfl .n)) ?_)
 rintro w312 -
 dsimp only [List.append_eq,List.nil_append,List.cons_append]
 refine zV 15 (by kernel_rfl) (zT rfl rfl rfl rfl (.c rfl (.c rfl .n)) ce46 (zgc (w1:=w45) (w2:=w48) (x1:=(((q1).den:Nat):Int)) (x2:=(((q2).den:Nat):Int)) (hb1:=by first|rfl|assumption|omega|(rw [Big.zY];omega)|(decide +kernel)) (hb2:=by first|rfl|assumption|omega|(rw [Big.zY];omega)|(decide +kernel))) (.c (j:=6) rfl (.c (j:=4) rfl .n)) ?_)
 rintro w313 -
 dsimp only [List.append_eq,List.nil_append,List.cons_append]
 refine zV 16 (by kernel_rfl) (zT rfl rfl rfl rfl (.c rfl (.c rfl .n)) ce44 (zSb (w1:=w312) (w2:=w313) (x1:=(((q1).num)*(((q2).den:Nat):Int))+(((q2).num)*(((q1).den:Nat):Int))) (x2:=(((q1).den:Nat):Int)*(((q2).den:Nat):Int)) (hl1:=by first|rfl|assumption|omega|(rw [Big.zY];omega)|(decide +kernel)) (hl2:=by first|rfl|assumption|omega|(rw [Big.zY];omega)|(decide +kernel)) (hd:=by exact Int.mul_ne_zero (Big.den_ne q1) (Big.den_ne q2))) (.c (j:=1) rfl (.c (j:=0) rfl .n)) ?_)
 rintro ⟨w314,w415⟩ -
 dsimp only [List.append_eq,List.nil_append,List.cons_append]
 refine zV 17 (by kernel_rfl) (zL (by kernel_rfl) rfl rfl rfl rfl rfl sz45 rfl (.take (.take (.take (.take .nil)))) ?_)
 refine zga (by kernel_rfl)<|ze<|zI ?_
 exact zC Try.results21 (w314,w415) trivial (zu 0 ty45 rfl rfl (.take (.take (.take (.take .nil))))) rfl (ho:=(.n:PickO _ _ _)) ((.e (j:=0) rfl (by rw [Big.add_parts]) .n):SelR _ _ _)
theorem zNe {k1:Bool} {u1:Wd} {v1:Wd} {q1:Rat} {k2:Bool} {u2:Wd} {v2:Wd} {q2:Rat} (hl:Big.hq q1+Big.hq q2+1≤1048576):Con Try.prog 81 [.agg #[u1.b,u1.l,v1.b,v1.l],.agg #[u2.b,u2.l,v2.b,v2.l]] [] [qF k1 u1 v1 q1,qF k2 u2 v2 q2] (Y:=Wd×Wd) (fun y=>True) (fun y=> .agg #[y.1.b,y.1.l,y.2.b,y.2.l]) (fun y=>[]) (fun y=>[qF true y.1 y.2 (q1 - q2)]):=by
 refine zr Try.func81 rfl rfl rfl (fun c=> ?_)
 show RunC _ _ _ _ _ [(0,.agg #[u1.b,u1.l,v1.b,v1.l]),(1,.agg #[u2.b,u2.l,v2.b,v2.l])] [] [qF k1 u1 v1 q1,qF k2 u2 v2 q2]
 have a1:=Big.hq_num q1
 have a2:=Big.hq_den q1
 have a3:=Big.hq_num q2
 have a4:=Big.hq_den q2
 refine zi<|zc<|zS rfl rfl (zX rfl rfl) (fun b1=> ?_)
 refine zS rfl rfl (zX rfl rfl) (fun b2=> ?_)
 refine zS rfl rfl (zG zr45 rfl) (fun b3=> ?_)
 refine zj<|ze<|zi<|zja (OW:=[boxA b3 45 (cw [wz,wz])]) (O:=[boxA b2 45 (cw [u2,v2]),boxA b1 45 (cw [u1,v1])]) 4 mixed (.then .ret) (by kernel_rfl)<|d_uw 0 rfl rfl (by kernel_rfl) (by kernel_rfl) (by kernel_rfl) rfl rfl (zh 2 ty45 rfl rfl (.take (.take (.take (.take .nil)))))<|d_uw 1 rfl rfl (by kernel_rfl) (by kernel_rfl) (by kernel_rfl) rfl rfl (zh 1 ty45 rfl rfl (.take (.take (.take (.take .nil)))))<|zV 2 (by kernel_rfl) (zT rfl rfl rfl rfl (.c rfl .n) ce92 (zLe (k1:=k2) (u1:=u2) (v1:=v2) (q1:=q2) (hl:=by first|rfl|assumption|omega|(rw [Big.zY];omega)|(decide +kernel)|(rw [Big.hq_neg];omega))) (.c (j:=1) rfl .n) ?_)
 rintro ⟨w34,w45⟩ -
 dsimp only [List.append_eq,List.nil_append,List.cons_append]
 refine zV 3 (by kernel_rfl) (zT rfl rfl rfl rfl (.c rfl (.c rfl .n)) ce21 (zMe (k1:=k1) (u1:=u1) (v1:=v1) (q1:=q1) (k2:=true) (u2:=w34) (v2:=w45) (q2:= - q2) (hl:=by first|rfl|assumption|omega|(rw [Big.zY];omega)|(decide +kernel)|(rw [Big.hq_neg];omega))) (.c (j:=1) rfl (.c (j:=0) rfl .n)) ?_)
 rintro ⟨w36,w47⟩ -
 dsimp only [List.append_eq,List.nil_append,List.cons_append]
 refine zV 4 (by kernel_rfl) (zL (by kernel_rfl) rfl rfl rfl rfl rfl sz45 rfl (.take (.take (.take (.take .nil)))) ?_)
 refine zga (by kernel_rfl)<|ze<|zI ?_
 exact zC Try.results81 (w36,w47) trivial (zu 0 ty45 rfl rfl (.take (.take (.take (.take .nil))))) rfl (ho:=(.n:PickO _ _ _)) ((.e (j:=0) rfl (by rw [Rat.sub_eq_add_neg]) .n):SelR _ _ _)
theorem zHc {k1:Bool} {u1:Wd} {v1:Wd} {q1:Rat} {k2:Bool} {u2:Wd} {v2:Wd} {q2:Rat} (hl:Big.hq q1+Big.hq q2+1≤1048576):Con Try.prog 62 [.agg #[u1.b,u1.l,v1.b,v1.l],.agg #[u2.b,u2.l,v2.b,v2.l]] [] [qF k1 u1 v1 q1,qF k2 u2 v2 q2] (Y:=Unit) (fun y=>True) (fun y=> .int .i64 (Big.sgq (q1 - q2))) (fun y=>[]) (fun y=>[]):=by
 refine zr Try.func62 rfl rfl rfl (fun c=> ?_)
 show RunC _ _ _ _ _ [(0,.agg #[u1.b,u1.l,v1.b,v1.l]),(1,.agg #[u2.b,u2.l,v2.b,v2.l])] [] [qF k1 u1 v1 q1,qF k2 u2 v2 q2]
 have hsb:=Big.hq_sub q1 q2
 refine zi<|zc<|zS rfl rfl (zX rfl rfl) (fun b1=> ?_)
 refine zS rfl rfl (zX rfl rfl) (fun b2=> ?_)
 refine r_pv rfl rfl (zd rfl)<|zj<|ze<|zi<|zc<|r_u rfl rfl (zh 1 ty45 rfl rfl (.take (.take (.take (.take .nil)))))<|r_u rfl rfl (zh 0 ty45 rfl rfl (.take (.take (.take (.take .nil)))))<|zB rfl rfl (.c rfl (.c rfl .n)) ce81 (zNe (k1:=k1) (u1:=u1) (v1:=v1) (q1:=q1) (k2:=k2) (u2:=u2) (v2:=v2) (q2:=q2) (hl:=by assumption)) (.c (j:=0) rfl (.c (j:=1) rfl .n)) ?_
 rintro ⟨w33,w44⟩ -
 dsimp only [List.append_eq,List.nil_append,List.cons_append]
 refine zO rfl rfl (.c rfl .n) ce80 (zZd (k1:=true) (u1:=w33) (v1:=w44) (q1:=q1 - q2) (hl:=by first|rfl|assumption|omega|(rw [Big.zY];omega)|(decide +kernel))) (.c (j:=0) rfl .n)<|r_pv rfl rfl (zd rfl)<|zj<|ze<|zI ?_
 exact zC Try.results62 () trivial (zq rfl) rfl (ho:=(.n:PickO _ _ _)) (.n:SelR _ _ _)
theorem zae {u1:Wd} {v1:Wd} {q1:Rat} {u2:Wd} {v2:Wd} {q2:Rat} (hl:Big.hq q1+Big.hq q2+1≤1048576):Con Try.prog 42 [.agg #[u1.b,u1.l,v1.b,v1.l],.agg #[u2.b,u2.l,v2.b,v2.l]] [] [qF true u1 v1 q1,qF true u2 v2 q2] (Y:=Unit) (fun y=>True) (fun y=> .bool (decide (q1=q2))) (fun y=>[]) (fun y=>[]):=by
 refine zr Try.func42 rfl rfl rfl (fun c=> ?_)
 show RunC _ _ _ _ _ [(0,.agg #[u1.b,u1.l,v1.b,v1.l]),(1,.agg #[u2.b,u2.l,v2.b,v2.l])] [] [qF true u1 v1 q1,qF true u2 v2 q2]
 refine zi<|zc<|zS rfl rfl (zX rfl rfl) (fun b1=> ?_)
 refine zS rfl rfl (zX rfl rfl) (fun b2=> ?_)
 refine r_pv rfl rfl (zd rfl)<|zj<|ze<|zFa (X:=Unit) (fun x=>True) (fun x=>[(4,.bool (decide (Big.sgq (q1 - q2)=0)))]) (fun x=>[boxA b2 45 (cw [u2,v2]),boxA b1 45 (cw [u1,v1])]) (fun x=>[qF true u1 v1 q1,qF true u2 v2 q2]) ?_ ?_
 ·
  refine zc<|r_u rfl rfl (zh 1 ty45 rfl rfl (.take (.take (.take (.take .nil)))))<|zO rfl rfl (.c rfl .n) ce61 (zRb (u1:=u1) (v1:=v1) (q1:=q1)) (.c (j:=0) rfl .n)<|r_pv rfl rfl (zb rfl)<|r_u rfl rfl (zh 0 ty45 rfl rfl (.take (.take (.take (.take .nil)))))<|zO rfl rfl (.c rfl .n) ce61 (zRb (u1:=u2) (v1:=v2) (q1:=q2)) (.c (j:=1) rfl .n)<|r_pv rfl rfl (zk rfl rfl)<|r_pv rfl rfl (zb rfl)<|r_u rfl rfl (zh 1 ty45 rfl rfl (.take (.take (.take (.take .nil)))))<|r_u rfl rfl (zh 0 ty45 rfl rfl (.take (.take (.take (.take .nil)))))<|zO rfl rfl (.c rfl (.c rfl .n)) ce62 (zHc (k1:=true) (u1:=u1) (v1:=v1) (q1:=q1) (k2:=true) (u2:=u2) (v2:=v2) (q2:=q2) (hl:=by assumption)) (.c (j:=0) rfl (.c (j:=1) rfl .n))<|r_pv rfl rfl (zua rfl rfl)<|r_pv rfl rfl (zk rfl rfl)<|r_pv rfl rfl (zd rfl)<|zj ?_
  exact zZ () (show True from by first|trivial|omega|simp_all) ((.c rfl .n):SubM _ _) (ho:=((.of [0,0] rfl):PickO _ _ _)) ((.of [0,1] rfl):SelR _ _ _)
 ·
  rintro ⟨⟩ -
  try dsimp only [cw]
  refine zI ?_
  exact zC Try.results42 () trivial (zq rfl) (congrArg Value.bool (decide_eq_decide.2 Big.sgq_sub_zero.symm)) (ho:=(.n:PickO _ _ _)) (.n:SelR _ _ _)
theorem zob {u1:Wd} {v1:Wd} {q1:Rat} {u2:Wd} {v2:Wd} {q2:Rat} (hl:Big.hq q1+Big.hq q2+1≤1048576):Con Try.prog 20 [.agg #[u1.b,u1.l,v1.b,v1.l],.agg #[u2.b,u2.l,v2.b,v2.l]] [] [qF true u1 v1 q1,qF true u2 v2 q2] (Y:=Unit) (fun y=>True) (fun y=> .bool (decide (q1=q2))) (fun y=>[]) (fun y=>[]):=by
 refine zr Try.func20 rfl rfl rfl (fun c=> ?_)
 show RunC _ _ _ _ _ [(0,.agg #[u1.b,u1.l,v1.b,v1.l]),(1,.agg #[u2.b,u2.l,v2.b,v2.l])] [] [qF true u1 v1 q1,qF true u2 v2 q2]
 refine zi<|zc<|zS rfl rfl (zX rfl rfl) (fun b1=> ?_)
 refine zS rfl rfl (zX rfl rfl) (fun b2=> ?_)
 refine r_pv rfl rfl (zd rfl)<|zj<|ze<|zi<|zc<|r_u rfl rfl (zh 1 ty45 rfl rfl (.take (.take (.take (.take .nil)))))<|r_u rfl rfl (zh 0 ty45 rfl rfl (.take (.take (.take (.take .nil)))))<|zO rfl rfl (.c rfl (.c rfl .n)) ce42 (zae (u1:=u1) (v1:=v1) (q1:=q1) (u2:=u2) (v2:=v2) (q2:=q2) (hl:=by assumption)) (.c (j:=0) rfl (.c (j:=1) rfl .n))<|r_pv rfl rfl (zd rfl)<|zj<|ze<|zI ?_
 exact zC Try.results20 () trivial (zq rfl) rfl (ho:=(.n:PickO _ _ _)) (.n:SelR _ _ _)
end Go.Proofs.Ytefbbhiaalcjfaa.Sp
namespace Go.Proofs.Ytefbbhiaalcjfaa.Sp
open Go
set_option linter.unusedVariables false
set_option maxRecDepth 100000
set_option maxHeartbeats 8000000
theorem zkc {z1:Int} {z2:Int} (hz1: -9223372036854775808≤z1∧z1≤9223372036854775807) (hz2: -9223372036854775808≤z2∧z2≤9223372036854775807) (hy:z2≠0):Con Try.prog 41 [.int .i64 z1,.int .i64 z2] [] [] (Y:=Wd×Wd) (fun y=>True) (fun y=> .agg #[y.1.b,y.1.l,y.2.b,y.2.l]) (fun y=>[]) (fun y=>[qF true y.1 y.2 (Rat.divInt z1 z2)]):=by
 refine zr Try.func41 rfl rfl rfl (fun c=> ?_)
 show RunC _ _ _ _ _ [(0,.int .i64 z1),(1,.int .i64 z2)] [] []
 refine zi<|zc<|zS rfl rfl (zG zr45 rfl) (fun b1=> ?_)
 refine zj<|ze<|zi<|zc<|r_pv rfl rfl (zb rfl)<|r_pv rfl rfl (zb rfl)<|zB rfl rfl (.c rfl (.c rfl .n)) ce60 (zKe (z1:=z1) (z2:=z2) (hz1:=by assumption) (hz2:=by assumption) (hy:=by assumption)) (.n) ?_
 rintro ⟨w32,w43⟩ -
 dsimp only [List.append_eq,List.nil_append,List.cons_append]
 refine r_pv rfl rfl (zb rfl)<|r_pv rfl rfl (zp rfl rfl)<|r_pv rfl rfl (zp rfl rfl)<|zS rfl rfl (zG zr45 rfl) (fun b4=> ?_)
 refine zo 0 rfl rfl rfl rfl rfl sz45 rfl (.take (.take (.take (.take .nil)))) .z<|r_pv rfl rfl (zd rfl)<|zj<|ze<|zi<|zc<|r_u rfl rfl (zh 0 ty45 rfl rfl (.take (.take (.take (.take .nil)))))<|zo 1 rfl rfl rfl rfl rfl sz45 rfl (.take (.take (.take (.take .nil)))) (.s .z)<|zj<|ze<|zI ?_
 exact zC Try.results41 (w32,w43) trivial (zu 1 ty45 rfl rfl (.take (.take (.take (.take .nil))))) rfl (ho:=(.n:PickO _ _ _)) ((.c (j:=0) rfl .n):SelR _ _ _)
theorem ztb {ar:Int} {le:Int} {tp:Int} {rt:Int} {bt:Int} {sx:Int} {sy:Int} {xx:Int} {xy:Int} {yy:Int} {ms:Int} {mx:Int} {my:Int} {bb:Nat} {u:Int} {v:Int} {w:Int} (ho:1≤ar∧ar≤4096) (hp:0≤u∧u≤16257024) (hs:0≤v∧v≤258048) (ht:0≤w∧w≤258048):Con Try.prog 48 [.int .i64 u,.int .i64 v,.int .i64 w,.pointer (some ⟨bb,0,none⟩)] [] [atF bb 0 [.int .i64 ar,.int .i64 le,.int .i64 tp,.int .i64 rt,.int .i64 bt,.int .i64 sx,.int .i64 sy,.int .i64 xx,.int .i64 xy,.int .i64 yy,.int .i64 ms,.int .i64 mx,.int .i64 my]] (Y:=Wd×Wd) (fun y=>True) (fun y=> .agg #[y.1.b,y.1.l,y.2.b,y.2.l]) (fun y=>[]) (fun y=>[qF true y.1 y.2 (Rat.divInt (u*ar - v*w) (ar*ar))]):=by
 refine zr Try.func48 rfl rfl rfl (fun c=> ?_)
 show RunC _ _ _ _ _ [(0,.int .i64 u),(1,.int .i64 v),(2,.int .i64 w),(3,.pointer (some ⟨bb,0,none⟩))] [] [atF bb 0 [.int .i64 ar,.int .i64 le,.int .i64 tp,.int .i64 rt,.int .i64 bt,.int .i64 sx,.int .i64 sy,.int .i64 xx,.int .i64 xy,.int .i64 yy,.int .i64 ms,.int .i64 mx,.int .i64 my]]
 have p1:=Bl.mul_b (m:=16257024) (n:=4096) hp (show 0≤ar∧ar≤4096 by omega)
 have p2:=Bl.mul_b hs ht
 have p3:=Bl.mul_b (m:=4096) (n:=4096) (show 0≤ar∧ar≤4096 by omega) (show 0≤ar∧ar≤4096 by omega)
 have p4:ar*ar≠0:=Int.mul_ne_zero (by omega) (by omega)
 refine zi<|zc<|zS rfl rfl (zG zr45 rfl) (fun b1=> ?_)
 refine zj<|ze<|zi<|zc<|r_pv rfl rfl (zb rfl)<|r_pv rfl rfl (zg Try.underlying51 rfl sz3 rfl rfl)<|r_u rfl rfl (zl (j:=0) 0 ty3 rfl rfl rfl rfl)<|r_pv rfl rfl (zla (z:=(u*ar)) rfl rfl (w64 (by omega)))<|r_pv rfl rfl (zb rfl)<|r_pv rfl rfl (zb rfl)<|r_pv rfl rfl (zla (z:=(v*w)) rfl rfl (w64 (by omega)))<|r_pv rfl rfl (zda (z:=((u*ar) - (v*w))) rfl rfl (w64 (by omega)))<|r_pv rfl rfl (zg Try.underlying51 rfl sz3 rfl rfl)<|r_u rfl rfl (zl (j:=0) 0 ty3 rfl rfl rfl rfl)<|r_pv rfl rfl (zg Try.underlying51 rfl sz3 rfl rfl)<|r_u rfl rfl (zl (j:=0) 0 ty3 rfl rfl rfl rfl)<|r_pv rfl rfl (zla (z:=(ar*ar)) rfl rfl (w64 (by omega)))<|zB rfl rfl (.c rfl (.c rfl .n)) ce41 (zkc (z1:=((u*ar) - (v*w))) (z2:=(ar*ar)) (hz1:=by first|rfl|assumption|omega) (hz2:=by first|rfl|assumption|omega) (hy:=by first|rfl|assumption|omega)) (.n) ?_
 rintro ⟨w32,w43⟩ -
 dsimp only [List.append_eq,List.nil_append,List.cons_append]
 refine zo 0 rfl rfl rfl rfl rfl sz45 rfl (.take (.take (.take (.take .nil)))) .z<|zj<|ze<|zI ?_
 exact zC Try.results48 (w32,w43) trivial (zu 0 ty45 rfl rfl (.take (.take (.take (.take .nil))))) rfl (ho:=(.n:PickO _ _ _)) ((.c (j:=0) rfl .n):SelR _ _ _)
end Go.Proofs.Ytefbbhiaalcjfaa.Sp
