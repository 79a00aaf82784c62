/- Lemmas on the walk and plain lemmas that the claim of this folder uses; each states its own conditions. Lines were printed by a program of ours. -/
import Derived.Test.YtkamccndgblheaaGreatZ6C
set_option linter.unusedVariables false
set_option linter.unusedSimpArgs false
set_option linter.unusedSectionVars false
namespace Go.Proofs.YtkamccndgblheaaGreat.Sp
open Go
set_option linter.unusedVariables false
set_option maxRecDepth 100000
set_option maxHeartbeats 1000000
theorem zHa {s:Bool} {p:Option Addr} {n:Nat} {cap:Nat} {l:List Int} (hn:l.length=n) (ho:Big.okL l) (hln:n≤4398046511104):Con Tryz.prog 92 [.bool s,.slice p n cap] [] [slF (rI .u32) p cap l] (Y:=(Option Addr)×Nat) (fun y=>True) (fun y=> .agg #[.bool (decide ((Big.sg s (Big.valL l))<0)),.slice (y.1) ((Big.digs ((Big.sg s (Big.valL l)).natAbs)).length) (y.2)]) (fun y=>[]) (fun y=>[slF (rI .u32) (y.1) (y.2) (Big.digs ((Big.sg s (Big.valL l)).natAbs))]):=by
 refine zq Tryz.func92 rfl rfl rfl (fun c=> ?_)
 show RunC _ _ _ _ _ [(0,.bool s),(1,.slice p n cap)] [] [slF (rI .u32) p cap l]
 refine zY 0 rfl (fun hL0=> ?_)
 refine zi<|zc<|zJ rfl rfl (zw zr30 rfl) (fun b1=> ?_)
 refine zj<|ze<|zi<|zc<|r_pv rfl rfl (za rfl)<|r_pv rfl rfl (zM Tryz.underlying28 rfl)<|r_pv rfl rfl (zd rfl)<|zj<|ze<|zi<|zA<|zka (X:=Nat) (fun x:Nat=>x≤n∧Big.trimL (l.take x)=Big.trimL l) (fun x=>[(5,.int .i64 ((x:Nat):Int)),(4,.pointer (some ⟨b1,0,none⟩)),(0,.bool s),(1,.slice p n cap)]) (fun x=>[boxA b1 30 [.bool false,.slice none 0 0]]) (fun x=>[slF (rI .u32) p cap l]) (fun x:Nat=>x) n (show n≤n∧Big.trimL (l.take n)=Big.trimL l from by exact ⟨by omega,by rw [List.take_of_length_le (by omega)]⟩) ((.of rfl):SubM _ _) (ho:=((.c (i:=0) rfl .n):PickO _ _ _)) ((.c (j:=0) rfl .n):SelR _ _ _) ?_
 rintro k hI
 replace hI:k≤n∧Big.trimL (l.take k)=Big.trimL l:=hI
 try dsimp only
 obtain ⟨hk,hT⟩:=hI
 refine zi<|zGa (X:=Unit) (fun x=>True) (fun x=>[(17,.bool (decide (0<k∧l.getD (k - 1) 0=0))),(5,.int .i64 ((k:Nat):Int)),(4,.pointer (some ⟨b1,0,none⟩)),(0,.bool s),(1,.slice p n cap)]) (fun x=>[boxA b1 30 [.bool false,.slice none 0 0]]) (fun x=>[slF (rI .u32) p cap l]) ?_ ?_
 ·
  refine zc<|r_pv rfl rfl (za rfl)<|r_pv rfl rfl (zoa rfl rfl)<|zP rfl rfl (za rfl) (fun h2=> ?_) (fun h2=> ?_)
  ·
   refine r_pv rfl rfl (za rfl)<|r_pv rfl rfl (za rfl)<|r_pv rfl rfl (zaa (z:=(((k:Nat):Int) - 1)) rfl rfl (w64 (by omega)))<|zU (x0:=(l.getD ((((k:Nat):Int) - 1).toNat) 0)) 0 ((((k:Nat):Int) - 1).toNat) rfl Tryz.underlying28 sz111 rfl rfl rfl (by first|rfl|assumption|(simp_all;done)|omega) rfl (by omega) (gD (d:=0) (by omega)) (fun b3 o4 hok5=> ?_)
   replace hok5:=zv.1 hok5
   refine r_u rfl rfl (zk (j:=0) 0 ty111 rfl rfl rfl rfl)<|r_pv rfl rfl (zva rfl rfl)<|r_pv rfl rfl (zm rfl rfl)<|zj ?_
   exact zca () (show True from by first|trivial|omega|simp_all) ((.e rfl (congrArg Value.bool (by have h1:0<k:=(by omega);have h2:((k:Int) - 1).toNat=k - 1:=(by omega);simp [h1,h2])) (.of rfl)):SubM _ _) (ho:=((.c (i:=0) rfl .n):PickO _ _ _)) ((.c (j:=1) rfl .n):SelR _ _ _)
  ·
   refine zb rfl rfl<|zb rfl rfl<|zb rfl rfl<|zb rfl rfl<|zb rfl rfl<|zb rfl rfl<|r_pv rfl rfl (zm rfl rfl)<|zj ?_
   exact zca () (show True from by first|trivial|omega|simp_all) ((.e rfl (congrArg Value.bool (by have h1:¬0<k:=(by omega);simp [h1])) (.of rfl)):SubM _ _) (ho:=((.c (i:=0) rfl .n):PickO _ _ _)) ((.c (j:=0) rfl .n):SelR _ _ _)
 ·
  rintro ⟨⟩ -
  try dsimp only
  refine zG rfl (fun hc=> ?_) (fun hc=> ?_)
  ·
   refine zB<|ze<|zA<|zc<|r_pv rfl rfl (za rfl)<|r_pv rfl rfl (zaa (z:=(((k - 1):Nat):Int)) rfl rfl (w64 (by omega)))<|r_pv rfl rfl (zd rfl)<|zj<|zT<|zha (k - 1) (show (k - 1)≤n∧Big.trimL (l.take (k - 1))=Big.trimL l from by exact ⟨by omega,by rw [← hT,Big.trim_go l hc.1 (by omega) hc.2]⟩) (by show k - 1<k;omega) ((.e rfl (by first|rfl|(congr 1;omega)|simp_all) (.of rfl)):SubM _ _) (ho:=((.c (i:=0) rfl .n):PickO _ _ _)) ((.c (j:=0) rfl .n):SelR _ _ _)
  ·
   have htr:l.take k=Big.digs (Big.sg s (Big.valL l)).natAbs:=by rw [Big.sg_abs (Big.valL_nonneg ho),←Big.digs_valL ho,←hT];exact (Big.trim_stop l (by omega) hc).symm
   have hlt:(l.take k).length=k:=by rw [List.length_take];omega
   have hsg:=Big.made_sign (s:=s) ho htr hlt
   refine zja<|zl<|zl<|zu<|ze<|zi<|zc<|r_pv rfl rfl (za rfl)<|zYd rfl rfl (za rfl) (fun hs=> ?_) (fun hs=> ?_)
   ·
    refine r_pv rfl rfl (za rfl)<|r_pv rfl rfl (zoa rfl rfl)<|r_pv rfl rfl (zm rfl rfl)<|zza rfl rfl (zua (rI .u32) Tryz.underlying28 inf111) (fun b6 _=> ?_)
    refine r_pv rfl rfl (za rfl)<|r_pv rfl rfl (za rfl)<|r_pv rfl rfl (zBb (hi:=k) Tryz.underlying28 sz111 rfl (.s rfl) (.inr ⟨_,rfl⟩) (by omega))<|zkc (zfc 0 rfl k (by omega)) (fun _ _=> ?_)
    refine zDa 0 rfl rfl rfl (zxa 0 rfl Tryz.underlying28 inf111 (by decide) rfl rfl (by first|rfl|assumption|(simp_all;done)|omega) rfl (by first|rfl|assumption|(simp_all;done)|omega) (by omega) (by omega)) (fun _=> .z) ?_
    rintro ⟨p7,c8⟩ -
    dsimp only [List.append_eq,List.nil_append,List.cons_append]
    refine r_pv rfl rfl (zK zr30 rfl Tryz.underlying30 (.c sz4 (.c sz28 .n)) (.c rfl (.c rfl .n)) (.c rfl rfl rfl (.take .nil) (.c rfl rfl rfl (.skip (.take .nil)) .n)))<|zn 1 rfl rfl rfl rfl rfl sz30 rfl (.take (.take .nil)) (.s .z)<|zj<|ze<|zI ?_
    subst hs
    refine zta 0 rfl .z ?_
    exact zE Tryz.results92 (p7,c8) trivial (zt 1 ty30 rfl rfl (.take (.take .nil))) (by rw [hsg,←htr,hlt,Nat.zero_add] <;> simp) (ho:=(.n:PickO _ _ _)) ((.e (j:=0) rfl (by rw [htr] <;> rfl) .n):SelR _ _ _)
   ·
    refine zb rfl rfl<|zb rfl rfl<|r_pv rfl rfl (zm rfl rfl)<|zza rfl rfl (zua (rI .u32) Tryz.underlying28 inf111) (fun b9 _=> ?_)
    refine r_pv rfl rfl (za rfl)<|r_pv rfl rfl (za rfl)<|r_pv rfl rfl (zBb (hi:=k) Tryz.underlying28 sz111 rfl (.s rfl) (.inr ⟨_,rfl⟩) (by omega))<|zkc (zfc 0 rfl k (by omega)) (fun _ _=> ?_)
    refine zDa 0 rfl rfl rfl (zxa 0 rfl Tryz.underlying28 inf111 (by decide) rfl rfl (by first|rfl|assumption|(simp_all;done)|omega) rfl (by first|rfl|assumption|(simp_all;done)|omega) (by omega) (by omega)) (fun _=> .z) ?_
    rintro ⟨p10,c11⟩ -
    dsimp only [List.append_eq,List.nil_append,List.cons_append]
    refine r_pv rfl rfl (zK zr30 rfl Tryz.underlying30 (.c sz4 (.c sz28 .n)) (.c rfl (.c rfl .n)) (.c rfl rfl rfl (.take .nil) (.c rfl rfl rfl (.skip (.take .nil)) .n)))<|zn 1 rfl rfl rfl rfl rfl sz30 rfl (.take (.take .nil)) (.s .z)<|zj<|ze<|zI ?_
    subst hs
    refine zta 0 rfl .z ?_
    exact zE Tryz.results92 (p10,c11) trivial (zt 1 ty30 rfl rfl (.take (.take .nil))) (by rw [hsg,←htr,hlt,Nat.zero_add] <;> simp) (ho:=(.n:PickO _ _ _)) ((.e (j:=0) rfl (by rw [htr] <;> rfl) .n):SelR _ _ _)
theorem zcb {s:Bool} {a:Nat} {p:Option Addr} {cap:Nat} (hln:(Big.digs (a)).length≤4398046511104):Con Tryz.prog 92 [.bool (s),.slice (p) ((Big.digs (a)).length) (cap)] [] [slF (rI .u32) (p) (cap) (Big.digs (a))] (Y:=(Option Addr)×(Nat)) (fun y=>True) (fun y=> .agg #[.bool (decide ((Big.sg s (a:Int))<0)),.slice (y.1) ((Big.digs ((Big.sg s (a:Int)).natAbs)).length) (y.2)]) (fun y=>[]) (fun y=>[slF (rI .u32) (y.1) (y.2) (Big.digs ((Big.sg s (a:Int)).natAbs))]):=by
  have h:= @zHa s p (Big.digs a).length cap (Big.digs a) rfl (Big.digs_ok a) hln
  rw [Big.valL_digs] at h
  exact h
theorem zSa {p:Option Addr} {n:Nat} {cap:Nat} {l:List Int} {i:Nat} (hn:l.length=n) (hi:i≤4611686018427387904):Con Tryz.prog 118 [.slice p n cap,.int .i64 ((i:Nat):Int)] [] [slF (rI .u32) p cap l] (Y:=Unit) (fun y=>True) (fun y=> .int .u64 (l.getD i 0)) (fun y=>[]) (fun y=>[]):=by
 refine zq Tryz.func118 rfl rfl rfl (fun c=> ?_)
 show RunC _ _ _ _ _ [(0,.slice p n cap),(1,.int .i64 ((i:Nat):Int))] [] [slF (rI .u32) p cap l]
 refine zY 0 rfl (fun hL0=> ?_)
 refine zi<|zc<|r_pv rfl rfl (zd rfl)<|zj<|ze<|zi<|zi<|zc<|r_pv rfl rfl (za rfl)<|r_pv rfl rfl (za rfl)<|r_pv rfl rfl (zM Tryz.underlying28 rfl)<|r_pv rfl rfl (zda rfl rfl)<|zj<|ze<|zG rfl (fun h1=> ?_) (fun h1=> ?_)
 ·
  refine zi<|zc<|r_pv rfl rfl (za rfl)<|r_pv rfl rfl (za rfl)<|zU (x0:=(l.getD i 0)) 0 i rfl Tryz.underlying28 sz111 rfl rfl rfl (by first|rfl|assumption|(simp_all;done)|omega) rfl rfl (gD (d:=0) (by omega)) (fun b2 o3 hok4=> ?_)
  replace hok4:=zv.1 hok4
  refine r_u rfl rfl (zk (j:=0) 0 ty111 rfl rfl rfl rfl)<|r_pv rfl rfl (zC (z:=(l.getD i 0)) rfl (by rw [Tryz.underlying111];rfl) Tryz.underlying115 (wu64 (by omega)))<|r_pv rfl rfl (zd rfl)<|zj<|ze<|zI<|zp ?_
  exact zE Tryz.results118 () trivial (zo rfl) rfl (ho:=(.n:PickO _ _ _)) (.n:SelR _ _ _)
 ·
  refine zB<|ze<|zi<|zc<|r_pv rfl rfl (zd rfl)<|zj<|ze<|zI ?_
  exact zE Tryz.results118 () trivial (zo rfl) (by rw [show l.getD i 0=0 by simp [List.getD,List.getElem?_eq_none (show l.length≤i by omega)]]) (ho:=(.n:PickO _ _ _)) (.n:SelR _ _ _)
theorem zYb {s:Bool} {p:Option Addr} {n:Nat} {cap:Nat} {l:List Int} (hn:l.length=n):Con Tryz.prog 55 [.agg #[.bool s,.slice p n cap]] [] [slF (rI .u32) p cap l] (Y:=Unit) (fun y=>True) (fun y=> .bool (decide (Big.canon s l))) (fun y=>[]) (fun y=>[]):=by
 refine zq Tryz.func55 rfl rfl rfl (fun c=> ?_)
 show RunC _ _ _ _ _ [(0,.agg #[.bool s,.slice p n cap])] [] [slF (rI .u32) p cap l]
 refine zY 0 rfl (fun hL0=> ?_)
 refine zi<|zc<|zJ rfl rfl (zQ rfl rfl) (fun b1=> ?_)
 refine r_pv rfl rfl (zd rfl)<|zj<|ze<|zi<|zc<|r_pv rfl rfl (zg Tryz.underlying30 rfl sz28 rfl rfl)<|r_u rfl rfl (zh 0 ty28 rfl rfl rfl)<|r_pv rfl rfl (zM Tryz.underlying28 rfl)<|r_pv rfl rfl (zd rfl)<|zj<|ze<|zi<|zi<|zc<|r_pv rfl rfl (zd rfl)<|zj<|ze<|zA<|zka (X:=Nat) (fun x:Nat=>x≤n∧∀j,j<x→l.getD j 0<1000000000) (fun x=>[(4,.int .i64 ((x:Nat):Int)),(3,.int .i64 ((n:Nat):Int)),(1,.pointer (some ⟨b1,0,none⟩))]) (fun x=>[boxA b1 30 [.bool s,.slice p n cap]]) (fun x=>[slF (rI .u32) p cap l]) (fun x:Nat=>n - x) 0 (show 0≤n∧∀j,j<0→l.getD j 0<1000000000 from by exact ⟨by omega,fun j h=>by omega⟩) ((.e rfl (by first|rfl|(congr 1;omega)|simp_all) (.c rfl (.c rfl .n))):SubM _ _) (ho:=((.c (i:=0) rfl .n):PickO _ _ _)) ((.c (j:=0) rfl .n):SelR _ _ _) ?_
 rintro i hI
 replace hI:i≤n∧∀j,j<i→l.getD j 0<1000000000:=hI
 try dsimp only
 obtain ⟨hi,hall⟩:=hI
 refine zi<|zi<|zc<|r_pv rfl rfl (za rfl)<|r_pv rfl rfl (za rfl)<|r_pv rfl rfl (zda rfl rfl)<|zj<|ze<|zG rfl (fun h2=> ?_) (fun h2=> ?_)
 ·
  refine zB<|ze<|zi<|zA<|zi<|zc<|r_pv rfl rfl (zg Tryz.underlying30 rfl sz28 rfl rfl)<|r_u rfl rfl (zh 0 ty28 rfl rfl rfl)<|r_pv rfl rfl (za rfl)<|zU (x0:=(l.getD i 0)) 0 i rfl Tryz.underlying28 sz111 rfl rfl rfl (by first|rfl|assumption|(simp_all;done)|omega) rfl rfl (gD (d:=0) (by omega)) (fun b3 o4 hok5=> ?_)
  replace hok5:=zv.1 hok5
  refine r_u rfl rfl (zk (j:=0) 0 ty111 rfl rfl rfl rfl)<|r_pv rfl rfl (zMa rfl rfl)<|zj<|ze<|zG rfl (fun hb=> ?_) (fun hb=> ?_)
  ·
   refine zi<|zc<|r_pv rfl rfl (zd rfl)<|zj<|ze<|zI<|zZ<|zp<|zp<|zZ<|zp ?_
   exact zE Tryz.results55 () trivial (zo rfl) (congrArg Value.bool (decide_eq_false (fun h=>((Big.canon_more (by omega)).1 h).2 ⟨_,Big.getD_mem (by omega),hb⟩))) (ho:=(.n:PickO _ _ _)) (.n:SelR _ _ _)
  ·
   refine zB<|zT<|ze<|zc<|r_pv rfl rfl (za rfl)<|r_pv rfl rfl (zx (z:=(((i+1):Nat):Int)) rfl rfl (w64 (by omega)))<|r_pv rfl rfl (zd rfl)<|zj<|zha (i+1) (show (i+1)≤n∧∀j,j<(i+1)→l.getD j 0<1000000000 from by refine ⟨by omega,fun j hj=> ?_⟩;by_cases e:j=i;subst e;omega;exact hall j (by omega)) (by show n - (i+1)<n - i;omega) ((.of rfl):SubM _ _) (ho:=((.c (i:=0) rfl .n):PickO _ _ _)) ((.c (j:=1) rfl .n):SelR _ _ _)
 ·
  refine zja<|zl<|zl<|zu<|ze<|zi<|zi<|zc<|r_pv rfl rfl (za rfl)<|r_pv rfl rfl (zva rfl rfl)<|zj<|ze<|zG rfl (fun h0=> ?_) (fun h0=> ?_)
  ·
   refine zi<|zc<|r_pv rfl rfl (zg Tryz.underlying30 rfl sz4 rfl rfl)<|r_u rfl rfl (zh 0 ty4 rfl rfl rfl)<|r_pv rfl rfl (zjb rfl)<|r_pv rfl rfl (zd rfl)<|zj<|ze<|zI<|zp ?_
   exact zE Tryz.results55 () trivial (zo rfl) (congrArg Value.bool (by have:l.length=0:=(by omega);cases s <;> simp [Big.canon,this])) (ho:=(.n:PickO _ _ _)) (.n:SelR _ _ _)
  ·
   refine zB<|ze<|zi<|zc<|r_pv rfl rfl (zg Tryz.underlying30 rfl sz28 rfl rfl)<|r_u rfl rfl (zh 0 ty28 rfl rfl rfl)<|r_pv rfl rfl (za rfl)<|r_pv rfl rfl (zaa (z:=(((n:Nat):Int) - 1)) rfl rfl (w64 (by omega)))<|zU (x0:=(l.getD ((((n:Nat):Int) - 1).toNat) 0)) 0 ((((n:Nat):Int) - 1).toNat) rfl Tryz.underlying28 sz111 rfl rfl rfl (by first|rfl|assumption|(simp_all;done)|omega) rfl (by omega) (gD (d:=0) (by omega)) (fun b6 o7 hok8=> ?_)
   replace hok8:=zv.1 hok8
   refine r_u rfl rfl (zk (j:=0) 0 ty111 rfl rfl rfl rfl)<|r_pv rfl rfl (zKa rfl rfl)<|r_pv rfl rfl (zd rfl)<|zj<|ze<|zI ?_
   exact zE Tryz.results55 () trivial (zo rfl) (congrArg Value.bool (decide_eq_decide.2 (by rw [Big.canon_more (by omega),hn];have e:((n:Int) - 1).toNat=n - 1:=(by omega);rw [e];exact ⟨fun h=>h.1,fun h=>⟨h,fun ⟨g,hg,hb⟩=>by obtain ⟨j,hj,e⟩:=Big.mem_getD hg;have:=hall j (by omega);omega⟩⟩))) (ho:=(.n:PickO _ _ _)) (.n:SelR _ _ _)
theorem zLa {s:Bool} {p:Option Addr} {n:Nat} {cap:Nat} {l:List Int} (hn:l.length=n) (hln:n≤1099511627776):Con Tryz.prog 89 [.agg #[.bool s,.slice p n cap]] [] [slF (rI .u32) p cap l] (Y:=(Option Addr)×Nat) (fun y=>True) (fun y=> .agg #[.bool (decide ((Big.raw s l)<0)),.slice (y.1) ((Big.digs ((Big.raw s l).natAbs)).length) (y.2)]) (fun y=>[]) (fun y=>[slF (rI .u32) (y.1) (y.2) (Big.digs ((Big.raw s l).natAbs))]):=by
 refine zq Tryz.func89 rfl rfl rfl (fun c=> ?_)
 show RunC _ _ _ _ _ [(0,.agg #[.bool s,.slice p n cap])] [] [slF (rI .u32) p cap l]
 refine zY 0 rfl (fun hL0=> ?_)
 refine zNa 0 rfl (fun hE0=> ?_)
 have hnn:Big.nn l:=fun g hg=>(zv.1 (hE0 g hg)).1
 refine zi<|zc<|zJ rfl rfl (zQ rfl rfl) (fun b1=> ?_)
 refine zJ rfl rfl (zw zr30 rfl) (fun b2=> ?_)
 refine zj<|ze<|zi<|zi<|zc<|r_u rfl rfl (zf 1 ty30 rfl rfl (.take (.take .nil)))<|zN rfl rfl (.c rfl .n) ce55 (zYb (s:=s) (p:=p) (n:=n) (cap:=cap) (l:=l) (hn:=by assumption)) (.c (j:=0) rfl .n)<|r_pv rfl rfl (zXa rfl)<|zj<|ze<|zG rfl (fun hc=> ?_) (fun hc=> ?_)
 ·
  refine zi<|zc<|r_pv rfl rfl (zK zr30 rfl Tryz.underlying30 (.c sz4 (.c sz28 .n)) .n .n)<|zn 0 rfl rfl rfl rfl rfl sz30 rfl (.take (.take .nil)) .z<|zj<|ze<|zI<|zp ?_
  have hz:Big.raw s l=0:=by unfold Big.raw;rw [if_neg hc]
  refine zdd (rI .u32) ?_
  exact zE Tryz.results89 (none,0) trivial (zt 0 ty30 rfl rfl (.take (.take .nil))) (by rw [hz];rfl) (ho:=(.n:PickO _ _ _)) ((.e (j:=0) rfl (by rw [hz];rfl) .n):SelR _ _ _)
 ·
  refine zB<|ze<|zi<|zea (OW:=[boxA b2 30 [.bool false,.slice none 0 0]]) (O:=[boxA b1 30 [.bool s,.slice p n cap]]) 5 mixed (.then .ret) (by kernel_rfl)<|d_pv 0 rfl rfl (by kernel_rfl) (by kernel_rfl) rfl rfl (zg Tryz.underlying30 rfl sz4 rfl rfl)<|d_u 1 rfl rfl (by kernel_rfl) (by kernel_rfl) rfl rfl (zh 0 ty4 rfl rfl rfl)<|d_pv 3 rfl rfl (by kernel_rfl) (by kernel_rfl) rfl rfl (zg Tryz.underlying30 rfl sz28 rfl rfl)<|d_uw 4 rfl rfl (by kernel_rfl) (by kernel_rfl) (by kernel_rfl) rfl rfl (zh 1 ty28 rfl rfl rfl)<|zL 2 (by kernel_rfl) (zgb rfl rfl rfl rfl (zua (rI .u32) Tryz.underlying28 inf111) (fun b3 _=> ?_))
  refine zL 5 (by kernel_rfl) (zBd (A':=fun v:Option Addr×Nat=>rowA 111 (rI .u32) v.1 v.2 (([])++l)) (by kernel_rfl) rfl rfl rfl (zxa 0 rfl Tryz.underlying28 inf111 (by decide) rfl rfl (by first|rfl|assumption|(simp_all;done)|omega) rfl (by first|rfl|assumption|(simp_all;done)|omega) (by omega) (by omega)) ?_)
  rintro ⟨p4,c5⟩ -
  dsimp only [List.append_eq,List.nil_append,List.cons_append]
  refine d_pv 6 rfl rfl (by kernel_rfl) (by kernel_rfl) rfl rfl (zK zr30 rfl Tryz.underlying30 (.c sz4 (.c sz28 .n)) (.c rfl (.c rfl .n)) (.c rfl rfl rfl (.take .nil) (.c rfl rfl rfl (.skip (.take .nil)) .n)))<|zJa (zma (i:=1) rfl)<|zL 7 (by kernel_rfl) (zD (by kernel_rfl) rfl rfl rfl rfl rfl sz30 rfl (.take (.take .nil)) ?_)
  refine zba (by kernel_rfl)<|ze<|zI ?_
  have hcc:Big.canon s l:=Decidable.not_not.1 hc
  have hd:Big.digs (Big.raw s l).natAbs=l:=by rw [Big.raw_digs hnn,if_pos hcc]
  have hs:=Big.raw_sign hnn hcc
  refine zta 1 rfl (.s .z) ?_
  exact zE Tryz.results89 (p4,c5) trivial (zt 0 ty30 rfl rfl (.take (.take .nil))) (by rw [hs,hd,hn,Nat.zero_add]) (ho:=(.n:PickO _ _ _)) ((.e (j:=0) rfl (by rw [hd] <;> rfl) .n):SelR _ _ _)
theorem zvc {z:Int} {p:Option Addr} {cap:Nat} (hln:Big.ln z≤1099511627776):Con Tryz.prog 89 [.agg #[.bool (decide ((z)<0)),.slice (p) ((Big.digs ((z).natAbs)).length) (cap)]] [] [slF (rI .u32) (p) (cap) (Big.digs ((z).natAbs))] (Y:=(Option Addr)×(Nat)) (fun y=>True) (fun y=> .agg #[.bool (decide ((z)<0)),.slice (y.1) ((Big.digs ((z).natAbs)).length) (y.2)]) (fun y=>[]) (fun y=>[slF (rI .u32) (y.1) (y.2) (Big.digs ((z).natAbs))]):=by
  have h:= @zLa (decide ((z)<0)) p (Big.digs (z).natAbs).length cap (Big.digs (z).natAbs) rfl hln
  rw [Big.raw_big] at h
  exact h
theorem zSe {z:Int} (hz: -9223372036854775808≤z∧z≤9223372036854775807):Con Tryz.prog 72 [.int .i64 z] [] [] (Y:=(Option Addr)×Nat) (fun y=>True) (fun y=> .agg #[.bool (decide (z<0)),.slice (y.1) ((Big.digs ((z).natAbs)).length) (y.2)]) (fun y=>[]) (fun y=>[slF (rI .u32) (y.1) (y.2) (Big.digs ((z).natAbs))]):=by
 refine zq Tryz.func72 rfl rfl rfl (fun c=> ?_)
 show RunC _ _ _ _ _ [(0,.int .i64 z)] [] []
 refine zi<|zc<|zJ rfl rfl (zw zr30 rfl) (fun b1=> ?_)
 refine zj<|ze<|zi<|zc<|r_pv rfl rfl (za rfl)<|r_pv rfl rfl (zC (z:=(z%18446744073709551616)) rfl (by rw [Tryz.underlying3];rfl) Tryz.underlying115 (wu64m (by omega)))<|r_pv rfl rfl (zd rfl)<|zj<|ze<|zGa (X:=Unit) (fun x=>True) (fun x=>[(3,.int .u64 ((z.natAbs:Nat):Int)),(2,.pointer (some ⟨b1,0,none⟩)),(0,.int .i64 z)]) (fun x=>[boxA b1 30 [.bool false,.slice none 0 0]]) (fun x=>[]) ?_ ?_
 ·
  refine zi<|zc<|r_pv rfl rfl (za rfl)<|r_pv rfl rfl (zda rfl rfl)<|zj<|ze<|zG rfl (fun hs=> ?_) (fun hs=> ?_)
  ·
   refine zc<|r_pv rfl rfl (za rfl)<|r_pv rfl rfl (zx (z:=(z+1)) rfl rfl (w64 (by omega)))<|r_pv rfl rfl (zBc (z:=(-(z+1))) rfl (w64 (by omega)))<|r_pv rfl rfl (zC (z:=(-(z+1))) rfl (by rw [Tryz.underlying3];rfl) Tryz.underlying115 (wu64 (by omega)))<|r_pv rfl rfl (zx (z:=((z.natAbs:Nat):Int)) rfl rfl (wu64 (by omega)))<|r_pv rfl rfl (zd rfl)<|zj ?_
   exact zca () (show True from by first|trivial|omega|simp_all) ((.of rfl):SubM _ _) (ho:=((.c (i:=0) rfl .n):PickO _ _ _)) (.n:SelR _ _ _)
  ·
   have e2:((z%18446744073709551616):Int)=((z.natAbs:Nat):Int):=by omega
   rw [e2]
   refine zB ?_
   exact zca () (show True from by first|trivial|omega|simp_all) ((.of rfl):SubM _ _) (ho:=((.c (i:=0) rfl .n):PickO _ _ _)) (.n:SelR _ _ _)
 ·
  rintro ⟨⟩ -
  try dsimp only
  refine zi<|zc<|zza rfl rfl (zua (rI .u32) Tryz.underlying28 inf111) (fun b3 _=> ?_)
  refine r_pv rfl rfl (zd rfl)<|zj<|ze<|zi<|zA<|zka (X:=Nat×(Option Addr)×Nat×(List Int)) (fun x:Nat×(Option Addr)×Nat×(List Int)=>x.1≤z.natAbs∧x.2.2.2++Big.digs x.1=Big.digs z.natAbs) (fun x=>[(4,.slice (x.2.1) (x.2.2.2.length) (x.2.2.1)),(3,.int .u64 ((x.1:Nat):Int)),(2,.pointer (some ⟨b1,0,none⟩)),(0,.int .i64 z)]) (fun x=>[rowA 111 (rI .u32) (x.2.1) (x.2.2.1) (x.2.2.2),boxA b1 30 [.bool false,.slice none 0 0]]) (fun x=>[]) (fun x:Nat×(Option Addr)×Nat×(List Int)=>x.1) (z.natAbs,some ⟨b3,0,none⟩,0,[]) (show z.natAbs≤z.natAbs∧([])++Big.digs z.natAbs=Big.digs z.natAbs from by exact ⟨Nat.le_refl _,rfl⟩) ((.e rfl (by first|rfl|(congr 1;omega)|simp_all) (.of rfl)):SubM _ _) (ho:=((.of [0,0] rfl):PickO _ _ _)) (.n:SelR _ _ _) ?_
  rintro ⟨m,p,c,os⟩ hI
  replace hI:m≤z.natAbs∧os++Big.digs m=Big.digs z.natAbs:=hI
  try dsimp only
  obtain ⟨hnn,hos⟩:=hI
  have hlen0:os.length+(Big.digs m).length≤3:=by have:=congrArg List.length hos;rw [List.length_append] at this;have:=Big.zGe (show z.natAbs<18446744073709551616 by omega);omega
  refine zi<|zi<|zc<|r_pv rfl rfl (za rfl)<|r_pv rfl rfl (zoa rfl rfl)<|zj<|ze<|zG rfl (fun h4=> ?_) (fun h4=> ?_)
  ·
   refine zB<|ze<|zA<|zi<|zc<|r_pv rfl rfl (za rfl)<|r_pv rfl rfl (za rfl)<|r_pv rfl rfl (zWa (z:=(((m%1000000000):Nat):Int)) rfl rfl (by omega) (remN (by omega) (by omega)))<|r_pv rfl rfl (zC (z:=(((m%1000000000):Nat):Int)) rfl (by rw [Tryz.underlying115];rfl) Tryz.underlying111 (wu32 (by omega)))<|zza rfl rfl (zV (enc:=fun z:Int=>[.int .u32 z]) (ok:=InK .u32) (h1:=fun _=>rfl) (h2:=fun _=>rfl) (k:=1) Tryz.underlying28 inf111 rfl (by decide) (by decide) (by decide) (.c (x:=(((m%1000000000):Nat):Int)) rfl rfl (fun _ _=>by exact zv.2 (by omega)) .n)) (fun b5 _=> ?_)
   refine zna 0 rfl .z<|zDa 1 rfl rfl rfl (zxa 0 rfl Tryz.underlying28 inf111 (by decide) rfl rfl (by first|rfl|assumption|(simp_all;done)|omega) rfl (by first|rfl|assumption|(simp_all;done)|omega) (by omega) (by omega)) (fun _=>(.s .z)) ?_
   rintro ⟨p6,c7⟩ -
   dsimp only [List.append_eq,List.nil_append,List.cons_append]
   refine r_pv rfl rfl (zd rfl)<|zj<|ze<|zc<|r_pv rfl rfl (za rfl)<|r_pv rfl rfl (zVa (z:=(((m / 1000000000):Nat):Int)) rfl rfl (by omega) (by rw [quoN (z:=(((m / 1000000000):Nat):Int)) (by omega) (by omega)];exact wu64 (by omega)))<|r_pv rfl rfl (zd rfl)<|zj<|zT<|zha ((m / 1000000000),p6,c7,os++[((m%1000000000:Nat):Int)]) (show (m / 1000000000)≤z.natAbs∧(os++[((m%1000000000:Nat):Int)])++Big.digs (m / 1000000000)=Big.digs z.natAbs from by exact ⟨by omega,Big.split_step (by omega) hos⟩) (by show m / 1000000000<m;omega) ((.e rfl (by simp) (.of rfl)):SubM _ _) (ho:=((.e (i:=1) rfl (by first|rfl|(congr 1;omega)|simp_all) (.c (i:=1) rfl .n)):PickO _ _ _)) (.n:SelR _ _ _)
  ·
   have hm0:m=0:=by omega
   subst hm0
   have hd:os=Big.digs z.natAbs:=by simpa [Big.digs_zero] using hos
   have hok:Big.okL os:=by rw [hd];exact Big.digs_ok _
   have hlen:os.length≤3:=by rw [hd];exact Big.zGe (by omega)
   have hsg:Big.sg (decide (z<0)) (Big.valL os)=z:=by rw [hd,Big.valL_digs];exact Big.sg_big z
   refine zja<|zl<|zl<|zu<|ze<|zi<|zc<|r_pv rfl rfl (za rfl)<|r_pv rfl rfl (zda rfl rfl)<|r_pv rfl rfl (za rfl)<|zna 0 rfl .z<|zy rfl rfl (.c rfl (.c rfl .n)) ce92 (zHa (s:=decide (z<0)) (p:=p) (n:=os.length) (cap:=c) (l:=os) (hn:=by first|rfl|omega) (ho:=by exact hok) (hln:=by first|rfl|omega)) (.c (j:=0) rfl .n) ?_
   rintro ⟨p28,c29⟩ -
   dsimp only [List.append_eq,List.nil_append,List.cons_append]
   refine zn 1 rfl rfl rfl rfl rfl sz30 rfl (.take (.take .nil)) (.s .z)<|zj<|ze<|zI ?_
   exact zE Tryz.results72 (p28,c29) trivial (zt 1 ty30 rfl rfl (.take (.take .nil))) (by rw [hsg]) (ho:=(.n:PickO _ _ _)) ((.e (j:=0) rfl (by rw [hsg]) .n):SelR _ _ _)
theorem zTe {a:Nat} {b:Nat} {p1:Option Addr} {c1:Nat} {p2:Option Addr} {c2:Nat} (hb1:(Big.digs a).length≤1099511627776) (hb2:(Big.digs b).length≤1099511627776):Con Tryz.prog 121 [.slice p1 ((Big.digs a).length) c1,.slice p2 ((Big.digs b).length) c2] [] [slF (rI .u32) p1 c1 (Big.digs a),slF (rI .u32) p2 c2 (Big.digs b)] (Y:=(Option Addr)×Nat) (fun y=>True) (fun y=> .slice (y.1) ((Big.digs (a+b)).length) (y.2)) (fun y=>[]) (fun y=>[slF (rI .u32) (y.1) (y.2) (Big.digs (a+b))]):=by
 refine zq Tryz.func121 rfl rfl rfl (fun c=> ?_)
 show RunC _ _ _ _ _ [(0,.slice p1 ((Big.digs a).length) c1),(1,.slice p2 ((Big.digs b).length) c2)] [] [slF (rI .u32) p1 c1 (Big.digs a),slF (rI .u32) p2 c2 (Big.digs b)]
 refine zY 0 rfl (fun hL0=> ?_)
 refine zY 1 rfl (fun hL1=> ?_)
 refine zi<|zc<|r_pv rfl rfl (zd rfl)<|zj<|ze<|zi<|zc<|zza rfl rfl (zua (rI .u32) Tryz.underlying28 inf111) (fun b1 _=> ?_)
 refine r_pv rfl rfl (zd rfl)<|zj<|ze<|zi<|zc<|r_pv rfl rfl (zd rfl)<|zj<|ze<|zi<|zi<|zc<|r_pv rfl rfl (zd rfl)<|zj<|ze<|zA<|zka (X:=Nat×(Option Addr)×Nat×(List Int)×Int) (fun x:Nat×(Option Addr)×Nat×(List Int)×Int=>x.1≤max (Big.digs a).length (Big.digs b).length∧x.2.2.2.1.length=x.1∧0≤x.2.2.2.2∧x.2.2.2.2≤1∧Big.okL x.2.2.2.1∧Big.valL x.2.2.2.1+Big.pw x.1*x.2.2.2.2=Big.valL ((Big.digs a).take x.1)+Big.valL ((Big.digs b).take x.1)) (fun x=>[(6,.int .u64 (x.2.2.2.2)),(5,.slice (x.2.1) (x.2.2.2.1.length) (x.2.2.1)),(7,.int .i64 ((x.1:Nat):Int)),(4,.slice none 0 0),(0,.slice p1 ((Big.digs a).length) c1),(1,.slice p2 ((Big.digs b).length) c2)]) (fun x=>[rowA 111 (rI .u32) (x.2.1) (x.2.2.1) (x.2.2.2.1)]) (fun x=>[slF (rI .u32) p1 c1 (Big.digs a),slF (rI .u32) p2 c2 (Big.digs b)]) (fun x:Nat×(Option Addr)×Nat×(List Int)×Int=>max (Big.digs a).length (Big.digs b).length - x.1) (0,some ⟨b1,0,none⟩,0,[],0) (show 0≤max (Big.digs a).length (Big.digs b).length∧([]).length=0∧0≤0∧0≤1∧Big.okL ([])∧Big.valL ([])+Big.pw 0*0=Big.valL ((Big.digs a).take 0)+Big.valL ((Big.digs b).take 0) from by exact ⟨by omega,rfl,by decide,by decide,Big.okL_nil,by simp [Big.valL]⟩) ((.c rfl (.e rfl (by first|rfl|(congr 1;omega)|simp_all) (.e rfl (by first|rfl|(congr 1;omega)|simp_all) (.of rfl)))):SubM _ _) (ho:=((.c (i:=0) rfl .n):PickO _ _ _)) ((.of [0,1] rfl):SelR _ _ _) ?_
 rintro ⟨i,p,c,os,cy⟩ hI
 replace hI:i≤max (Big.digs a).length (Big.digs b).length∧os.length=i∧0≤cy∧cy≤1∧Big.okL os∧Big.valL os+Big.pw i*cy=Big.valL ((Big.digs a).take i)+Big.valL ((Big.digs b).take i):=hI
 try dsimp only
 obtain ⟨hi,hol,hc0,hc1,hok,hv⟩:=hI
 have hg1:=Big.okL_getD (Big.digs_ok a) i
 have hg2:=Big.okL_getD (Big.digs_ok b) i
 refine zi<|zGa (X:=Unit) (fun x=>True) (fun x=>[(19,.bool (decide (i<(Big.digs a).length∨i<(Big.digs b).length))),(6,.int .u64 cy),(5,.slice p (os.length) c),(7,.int .i64 ((i:Nat):Int)),(4,.slice none 0 0),(0,.slice p1 ((Big.digs a).length) c1),(1,.slice p2 ((Big.digs b).length) c2)]) (fun x=>[rowA 111 (rI .u32) p c os]) (fun x=>[slF (rI .u32) p1 c1 (Big.digs a),slF (rI .u32) p2 c2 (Big.digs b)]) ?_ ?_
 ·
  refine zc<|r_pv rfl rfl (za rfl)<|r_pv rfl rfl (za rfl)<|r_pv rfl rfl (zM Tryz.underlying28 rfl)<|r_pv rfl rfl (zda rfl rfl)<|zP rfl rfl (za rfl) (fun h2=> ?_) (fun h2=> ?_)
  ·
   refine zb rfl rfl<|zb rfl rfl<|zb rfl rfl<|zb rfl rfl<|r_pv rfl rfl (zm rfl rfl)<|zj ?_
   exact zca () (show True from by first|trivial|omega|simp_all) ((.e rfl (congrArg Value.bool (by simp;omega)) (.of rfl)):SubM _ _) (ho:=((.c (i:=0) rfl .n):PickO _ _ _)) ((.of [0,1] rfl):SelR _ _ _)
  ·
   refine r_pv rfl rfl (za rfl)<|r_pv rfl rfl (za rfl)<|r_pv rfl rfl (zM Tryz.underlying28 rfl)<|r_pv rfl rfl (zda rfl rfl)<|r_pv rfl rfl (zm rfl rfl)<|zj ?_
   exact zca () (show True from by first|trivial|omega|simp_all) ((.e rfl (congrArg Value.bool (by simp;omega)) (.of rfl)):SubM _ _) (ho:=((.c (i:=0) rfl .n):PickO _ _ _)) ((.of [0,1] rfl):SelR _ _ _)
 ·
  rintro ⟨⟩ -
  try dsimp only
  refine zG rfl (fun hc=> ?_) (fun hc=> ?_)
  ·
   refine zB<|ze<|zi<|zA<|zi<|zc<|r_pv rfl rfl (za rfl)<|r_pv rfl rfl (za rfl)<|zN rfl rfl (.c rfl (.c rfl .n)) ce118 (zSa (p:=p1) (n:=(Big.digs a).length) (cap:=c1) (l:=Big.digs a) (i:=i) (hn:=by first|rfl|assumption|omega|(simp;done)|(simp;omega)|(simp_all;done)) (hi:=by first|rfl|assumption|omega|(simp;done)|(simp;omega)|(simp_all;done))) (.c (j:=0) rfl .n)<|r_pv rfl rfl (za rfl)<|r_pv rfl rfl (za rfl)<|zN rfl rfl (.c rfl (.c rfl .n)) ce118 (zSa (p:=p2) (n:=(Big.digs b).length) (cap:=c2) (l:=Big.digs b) (i:=i) (hn:=by first|rfl|assumption|omega|(simp;done)|(simp;omega)|(simp_all;done)) (hi:=by first|rfl|assumption|omega|(simp;done)|(simp;omega)|(simp_all;done))) (.c (j:=1) rfl .n)<|r_pv rfl rfl (zx (z:=((Big.digs a).getD i 0+(Big.digs b).getD i 0)) rfl rfl (wu64 (by omega)))<|r_pv rfl rfl (za rfl)<|r_pv rfl rfl (zx (z:=(((Big.digs a).getD i 0+(Big.digs b).getD i 0)+cy)) rfl rfl (wu64 (by omega)))<|r_pv rfl rfl (zd rfl)<|zj<|ze<|zi<|zc<|r_pv rfl rfl (za rfl)<|r_pv rfl rfl (za rfl)<|r_pv rfl rfl (zWa (z:=((((Big.digs a).getD i 0+(Big.digs b).getD i 0)+cy)%1000000000)) rfl rfl (by omega) (remN (by omega) (by omega)))<|r_pv rfl rfl (zC (z:=((((Big.digs a).getD i 0+(Big.digs b).getD i 0)+cy)%1000000000)) rfl (by rw [Tryz.underlying115];rfl) Tryz.underlying111 (wu32 (by omega)))<|zza rfl rfl (zV (enc:=fun z:Int=>[.int .u32 z]) (ok:=InK .u32) (h1:=fun _=>rfl) (h2:=fun _=>rfl) (k:=1) Tryz.underlying28 inf111 rfl (by decide) (by decide) (by decide) (.c (x:=((((Big.digs a).getD i 0+(Big.digs b).getD i 0)+cy)%1000000000)) rfl rfl (fun _ _=>by exact zv.2 (by omega)) .n)) (fun b3 _=> ?_)
   refine zna 0 rfl .z<|zDa 1 rfl rfl rfl (zxa 0 rfl Tryz.underlying28 inf111 (by decide) rfl rfl (by first|rfl|assumption|(simp_all;done)|omega) rfl (by first|rfl|assumption|(simp_all;done)|omega) (by omega) (by omega)) (fun _=>(.s .z)) ?_
   rintro ⟨p4,c5⟩ -
   dsimp only [List.append_eq,List.nil_append,List.cons_append]
   refine r_pv rfl rfl (zd rfl)<|zj<|ze<|zc<|r_pv rfl rfl (za rfl)<|r_pv rfl rfl (zVa (z:=((((Big.digs a).getD i 0+(Big.digs b).getD i 0)+cy) / 1000000000)) rfl rfl (by omega) (by rw [quoN (z:=((((Big.digs a).getD i 0+(Big.digs b).getD i 0)+cy) / 1000000000)) (by omega) (by omega)];exact wu64 (by omega)))<|r_pv rfl rfl (zd rfl)<|zj<|zT<|ze<|zc<|r_pv rfl rfl (za rfl)<|r_pv rfl rfl (zx (z:=(((i+1):Nat):Int)) rfl rfl (w64 (by omega)))<|r_pv rfl rfl (zd rfl)<|zj<|zha ((i+1),p4,c5,os++[((Big.digs a).getD i 0+(Big.digs b).getD i 0+cy)%1000000000],((Big.digs a).getD i 0+(Big.digs b).getD i 0+cy) / 1000000000) (show (i+1)≤max (Big.digs a).length (Big.digs b).length∧(os++[((Big.digs a).getD i 0+(Big.digs b).getD i 0+cy)%1000000000]).length=(i+1)∧0≤(((Big.digs a).getD i 0+(Big.digs b).getD i 0+cy) / 1000000000)∧(((Big.digs a).getD i 0+(Big.digs b).getD i 0+cy) / 1000000000)≤1∧Big.okL (os++[((Big.digs a).getD i 0+(Big.digs b).getD i 0+cy)%1000000000])∧Big.valL (os++[((Big.digs a).getD i 0+(Big.digs b).getD i 0+cy)%1000000000])+Big.pw (i+1)*(((Big.digs a).getD i 0+(Big.digs b).getD i 0+cy) / 1000000000)=Big.valL ((Big.digs a).take (i+1))+Big.valL ((Big.digs b).take (i+1)) from by exact ⟨by omega,by simp [hol],by omega,by omega,Big.okL_snoc hok (by omega) (by omega),Big.plus_step hol hv (by omega)⟩) (by show max (Big.digs a).length (Big.digs b).length - (i+1)<max (Big.digs a).length (Big.digs b).length - i;omega) ((.e rfl (by first|rfl|(congr 1;omega)|simp_all) (.e rfl (by simp) (.of rfl))):SubM _ _) (ho:=((.e (i:=1) rfl (by first|rfl|(congr 1;omega)|simp_all) .n):PickO _ _ _)) ((.of [1,2] rfl):SelR _ _ _)
  ·
   have hok2:=Big.okL_snoc hok hc0 (show cy<1000000000 by omega)
   have hfin:=Big.plus_end (a:=a) (b:=b) hol (by omega) (by omega) hv
   refine zja<|zl<|zl<|zu<|ze<|zi<|zc<|r_pv rfl rfl (za rfl)<|r_pv rfl rfl (za rfl)<|r_pv rfl rfl (zC (z:=cy) rfl (by rw [Tryz.underlying115];rfl) Tryz.underlying111 (wu32 (by omega)))<|zza rfl rfl (zV (enc:=fun z:Int=>[.int .u32 z]) (ok:=InK .u32) (h1:=fun _=>rfl) (h2:=fun _=>rfl) (k:=1) Tryz.underlying28 inf111 rfl (by decide) (by decide) (by decide) (.c (x:=cy) rfl rfl (fun _ _=>by exact zv.2 (by omega)) .n)) (fun b6 _=> ?_)
   refine zna 0 rfl .z<|zDa 1 rfl rfl rfl (zxa 0 rfl Tryz.underlying28 inf111 (by decide) rfl rfl (by first|rfl|assumption|(simp_all;done)|omega) rfl (by first|rfl|assumption|(simp_all;done)|omega) (by omega) (by omega)) (fun _=>(.s .z)) ?_
   rintro ⟨p7,c8⟩ -
   dsimp only [List.append_eq,List.nil_append,List.cons_append]
   refine zna 1 rfl (.s .z)<|zy rfl rfl (.c rfl (.c rfl .n)) ce92 (zHa (s:=false) (p:=p7) (n:=os.length+1) (cap:=c8) (l:=(os++([cy]))) (hn:=by first|rfl|omega|(simp;done)|(simp;omega)) (ho:=by exact hok2) (hln:=by first|rfl|omega|(simp;done)|(simp;omega))) (.c (j:=0) rfl .n) ?_
   rintro ⟨p29,c210⟩ -
   dsimp only [List.append_eq,List.nil_append,List.cons_append]
   refine r_pv rfl rfl (zwa Tryz.underlying30 rfl ty28 rfl rfl)<|r_pv rfl rfl (zd rfl)<|zj<|ze<|zI ?_
   exact zE Tryz.results121 (p29,c210) trivial (zo rfl) (by rw [hfin]) (ho:=(.n:PickO _ _ _)) ((.e (j:=0) rfl (by rw [hfin]) .n):SelR _ _ _)
theorem zHb {a:Nat} {b:Nat} {p1:Option Addr} {c1:Nat} {p2:Option Addr} {c2:Nat} (hb1:(Big.digs a).length≤1099511627776) (hb2:(Big.digs b).length≤1099511627776) (hab:b≤a):Con Tryz.prog 119 [.slice p1 ((Big.digs a).length) c1,.slice p2 ((Big.digs b).length) c2] [] [slF (rI .u32) p1 c1 (Big.digs a),slF (rI .u32) p2 c2 (Big.digs b)] (Y:=(Option Addr)×Nat) (fun y=>True) (fun y=> .slice (y.1) ((Big.digs (a - b)).length) (y.2)) (fun y=>[]) (fun y=>[slF (rI .u32) (y.1) (y.2) (Big.digs (a - b))]):=by
 refine zq Tryz.func119 rfl rfl rfl (fun c=> ?_)
 show RunC _ _ _ _ _ [(0,.slice p1 ((Big.digs a).length) c1),(1,.slice p2 ((Big.digs b).length) c2)] [] [slF (rI .u32) p1 c1 (Big.digs a),slF (rI .u32) p2 c2 (Big.digs b)]
 refine zY 0 rfl (fun hL0=> ?_)
 refine zY 1 rfl (fun hL1=> ?_)
 refine zi<|zc<|r_pv rfl rfl (zd rfl)<|zj<|ze<|zi<|zc<|zza rfl rfl (zua (rI .u32) Tryz.underlying28 inf111) (fun b1 _=> ?_)
 refine r_pv rfl rfl (zd rfl)<|zj<|ze<|zi<|zc<|r_pv rfl rfl (zd rfl)<|zj<|ze<|zi<|zi<|zc<|r_pv rfl rfl (zd rfl)<|zj<|ze<|zA<|zka (X:=Nat×(Option Addr)×Nat×(List Int)×Int) (fun x:Nat×(Option Addr)×Nat×(List Int)×Int=>x.1≤(Big.digs a).length∧x.2.2.2.1.length=x.1∧0≤x.2.2.2.2∧x.2.2.2.2≤1∧Big.okL x.2.2.2.1∧Big.valL x.2.2.2.1+Big.valL ((Big.digs b).take x.1)=Big.valL ((Big.digs a).take x.1)+Big.pw x.1*x.2.2.2.2) (fun x=>[(6,.int .u64 (x.2.2.2.2)),(5,.slice (x.2.1) (x.2.2.2.1.length) (x.2.2.1)),(7,.int .i64 ((x.1:Nat):Int)),(4,.slice none 0 0),(0,.slice p1 ((Big.digs a).length) c1),(1,.slice p2 ((Big.digs b).length) c2)]) (fun x=>[rowA 111 (rI .u32) (x.2.1) (x.2.2.1) (x.2.2.2.1)]) (fun x=>[slF (rI .u32) p1 c1 (Big.digs a),slF (rI .u32) p2 c2 (Big.digs b)]) (fun x:Nat×(Option Addr)×Nat×(List Int)×Int=>(Big.digs a).length - x.1) (0,some ⟨b1,0,none⟩,0,[],0) (show 0≤(Big.digs a).length∧([]).length=0∧0≤0∧0≤1∧Big.okL ([])∧Big.valL ([])+Big.valL ((Big.digs b).take 0)=Big.valL ((Big.digs a).take 0)+Big.pw 0*0 from by exact ⟨by omega,rfl,by decide,by decide,Big.okL_nil,by simp [Big.valL]⟩) ((.c rfl (.e rfl (by first|rfl|(congr 1;omega)|simp_all) (.e rfl (by first|rfl|(congr 1;omega)|simp_all) (.of rfl)))):SubM _ _) (ho:=((.c (i:=0) rfl .n):PickO _ _ _)) ((.of [0,1] rfl):SelR _ _ _) ?_
 rintro ⟨i,p,c,os,bo⟩ hI
 replace hI:i≤(Big.digs a).length∧os.length=i∧0≤bo∧bo≤1∧Big.okL os∧Big.valL os+Big.valL ((Big.digs b).take i)=Big.valL ((Big.digs a).take i)+Big.pw i*bo:=hI
 try dsimp only
 obtain ⟨hi,hol,hc0,hc1,hok,hv⟩:=hI
 have hg1:=Big.okL_getD (Big.digs_ok a) i
 have hg2:=Big.okL_getD (Big.digs_ok b) i
 refine zi<|zi<|zc<|r_pv rfl rfl (za rfl)<|r_pv rfl rfl (za rfl)<|r_pv rfl rfl (zM Tryz.underlying28 rfl)<|r_pv rfl rfl (zda rfl rfl)<|zj<|ze<|zG rfl (fun h2=> ?_) (fun h2=> ?_)
 ·
  refine zB<|ze<|zi<|zA<|zi<|zc<|r_pv rfl rfl (za rfl)<|r_pv rfl rfl (za rfl)<|zN rfl rfl (.c rfl (.c rfl .n)) ce118 (zSa (p:=p1) (n:=(Big.digs a).length) (cap:=c1) (l:=Big.digs a) (i:=i) (hn:=by first|rfl|assumption|omega|(simp;done)|(simp;omega)|(simp_all;done)) (hi:=by first|rfl|assumption|omega|(simp;done)|(simp;omega)|(simp_all;done))) (.c (j:=0) rfl .n)<|r_pv rfl rfl (zx (z:=(1000000000+(Big.digs a).getD i 0)) rfl rfl (wu64 (by omega)))<|r_pv rfl rfl (za rfl)<|r_pv rfl rfl (za rfl)<|zN rfl rfl (.c rfl (.c rfl .n)) ce118 (zSa (p:=p2) (n:=(Big.digs b).length) (cap:=c2) (l:=Big.digs b) (i:=i) (hn:=by first|rfl|assumption|omega|(simp;done)|(simp;omega)|(simp_all;done)) (hi:=by first|rfl|assumption|omega|(simp;done)|(simp;omega)|(simp_all;done))) (.c (j:=1) rfl .n)<|r_pv rfl rfl (zaa (z:=((1000000000+(Big.digs a).getD i 0) - (Big.digs b).getD i 0)) rfl rfl (wu64 (by omega)))<|r_pv rfl rfl (za rfl)<|r_pv rfl rfl (zaa (z:=(((1000000000+(Big.digs a).getD i 0) - (Big.digs b).getD i 0) - bo)) rfl rfl (wu64 (by omega)))<|r_pv rfl rfl (zd rfl)<|zj<|ze<|zi<|zc<|r_pv rfl rfl (za rfl)<|r_pv rfl rfl (za rfl)<|r_pv rfl rfl (zWa (z:=((((1000000000+(Big.digs a).getD i 0) - (Big.digs b).getD i 0) - bo)%1000000000)) rfl rfl (by omega) (remN (by omega) (by omega)))<|r_pv rfl rfl (zC (z:=((((1000000000+(Big.digs a).getD i 0) - (Big.digs b).getD i 0) - bo)%1000000000)) rfl (by rw [Tryz.underlying115];rfl) Tryz.underlying111 (wu32 (by omega)))<|zza rfl rfl (zV (enc:=fun z:Int=>[.int .u32 z]) (ok:=InK .u32) (h1:=fun _=>rfl) (h2:=fun _=>rfl) (k:=1) Tryz.underlying28 inf111 rfl (by decide) (by decide) (by decide) (.c (x:=((((1000000000+(Big.digs a).getD i 0) - (Big.digs b).getD i 0) - bo)%1000000000)) rfl rfl (fun _ _=>by exact zv.2 (by omega)) .n)) (fun b3 _=> ?_)
  refine zna 0 rfl .z<|zDa 1 rfl rfl rfl (zxa 0 rfl Tryz.underlying28 inf111 (by decide) rfl rfl (by first|rfl|assumption|(simp_all;done)|omega) rfl (by first|rfl|assumption|(simp_all;done)|omega) (by omega) (by omega)) (fun _=>(.s .z)) ?_
  rintro ⟨p4,c5⟩ -
  dsimp only [List.append_eq,List.nil_append,List.cons_append]
  refine r_pv rfl rfl (zd rfl)<|zj<|ze<|zc<|r_pv rfl rfl (za rfl)<|r_pv rfl rfl (zVa (z:=((((1000000000+(Big.digs a).getD i 0) - (Big.digs b).getD i 0) - bo) / 1000000000)) rfl rfl (by omega) (by rw [quoN (z:=((((1000000000+(Big.digs a).getD i 0) - (Big.digs b).getD i 0) - bo) / 1000000000)) (by omega) (by omega)];exact wu64 (by omega)))<|r_pv rfl rfl (zaa (z:=(1 - ((((1000000000+(Big.digs a).getD i 0) - (Big.digs b).getD i 0) - bo) / 1000000000))) rfl rfl (wu64 (by omega)))<|r_pv rfl rfl (zd rfl)<|zj<|zT<|ze<|zc<|r_pv rfl rfl (za rfl)<|r_pv rfl rfl (zx (z:=(((i+1):Nat):Int)) rfl rfl (w64 (by omega)))<|r_pv rfl rfl (zd rfl)<|zj<|zha ((i+1),p4,c5,os++[(1000000000+(Big.digs a).getD i 0 - (Big.digs b).getD i 0 - bo)%1000000000],1 - (1000000000+(Big.digs a).getD i 0 - (Big.digs b).getD i 0 - bo) / 1000000000) (show (i+1)≤(Big.digs a).length∧(os++[(1000000000+(Big.digs a).getD i 0 - (Big.digs b).getD i 0 - bo)%1000000000]).length=(i+1)∧0≤(1 - (1000000000+(Big.digs a).getD i 0 - (Big.digs b).getD i 0 - bo) / 1000000000)∧(1 - (1000000000+(Big.digs a).getD i 0 - (Big.digs b).getD i 0 - bo) / 1000000000)≤1∧Big.okL (os++[(1000000000+(Big.digs a).getD i 0 - (Big.digs b).getD i 0 - bo)%1000000000])∧Big.valL (os++[(1000000000+(Big.digs a).getD i 0 - (Big.digs b).getD i 0 - bo)%1000000000])+Big.valL ((Big.digs b).take (i+1))=Big.valL ((Big.digs a).take (i+1))+Big.pw (i+1)*(1 - (1000000000+(Big.digs a).getD i 0 - (Big.digs b).getD i 0 - bo) / 1000000000) from by exact ⟨by omega,by simp [hol],by omega,by omega,Big.okL_snoc hok (by omega) (by omega),Big.minus_step hol hv (by omega)⟩) (by show (Big.digs a).length - (i+1)<(Big.digs a).length - i;omega) ((.e rfl (by first|rfl|(congr 1;omega)|simp_all) (.e rfl (by simp) (.of rfl))):SubM _ _) (ho:=((.e (i:=1) rfl (by first|rfl|(congr 1;omega)|simp_all) .n):PickO _ _ _)) ((.of [1,2] rfl):SelR _ _ _)
 ·
  have htr:Big.trimL os=Big.digs (a - b):=Big.minus_fin hab hok hc0 hol (by omega) hv
  have hfin:(Big.sg false (Big.valL os)).natAbs=a - b:=by rw [Big.sg_abs (Big.valL_nonneg hok)];have:=congrArg Big.valL htr;rw [Big.valL_trim,Big.valL_digs] at this;omega
  refine zja<|zl<|zl<|zu<|ze<|zi<|zc<|r_pv rfl rfl (za rfl)<|zna 0 rfl .z<|zy rfl rfl (.c rfl (.c rfl .n)) ce92 (zHa (s:=false) (p:=p) (n:=os.length) (cap:=c) (l:=os) (hn:=by first|rfl|omega|(simp;done)|(simp;omega)) (ho:=by exact hok) (hln:=by first|rfl|omega|(simp;done)|(simp;omega))) (.c (j:=0) rfl .n) ?_
  rintro ⟨p26,c27⟩ -
  dsimp only [List.append_eq,List.nil_append,List.cons_append]
  refine r_pv rfl rfl (zwa Tryz.underlying30 rfl ty28 rfl rfl)<|r_pv rfl rfl (zd rfl)<|zj<|ze<|zI ?_
  exact zE Tryz.results119 (p26,c27) trivial (zo rfl) (by rw [hfin]) (ho:=(.n:PickO _ _ _)) ((.e (j:=0) rfl (by rw [hfin]) .n):SelR _ _ _)
theorem zwc {a:Nat} {b:Nat} {p1:Option Addr} {c1:Nat} {p2:Option Addr} {c2:Nat}:Con Tryz.prog 115 [.slice p1 ((Big.digs a).length) c1,.slice p2 ((Big.digs b).length) c2] [] [slF (rI .u32) p1 c1 (Big.digs a),slF (rI .u32) p2 c2 (Big.digs b)] (Y:=Unit) (fun y=>True) (fun y=> .int .i64 (Big.cmp (a:Int) (b:Int))) (fun y=>[]) (fun y=>[]):=by
 refine zq Tryz.func115 rfl rfl rfl (fun c=> ?_)
 show RunC _ _ _ _ _ [(0,.slice p1 ((Big.digs a).length) c1),(1,.slice p2 ((Big.digs b).length) c2)] [] [slF (rI .u32) p1 c1 (Big.digs a),slF (rI .u32) p2 c2 (Big.digs b)]
 refine zY 0 rfl (fun hL0=> ?_)
 refine zY 1 rfl (fun hL1=> ?_)
 refine zi<|zc<|r_pv rfl rfl (zd rfl)<|zj<|ze<|zi<|zi<|zc<|r_pv rfl rfl (za rfl)<|r_pv rfl rfl (zM Tryz.underlying28 rfl)<|r_pv rfl rfl (za rfl)<|r_pv rfl rfl (zM Tryz.underlying28 rfl)<|r_pv rfl rfl (zKa rfl rfl)<|zj<|ze<|zG rfl (fun hlen=> ?_) (fun hlen=> ?_)
 ·
  refine zi<|zi<|zc<|r_pv rfl rfl (za rfl)<|r_pv rfl rfl (zM Tryz.underlying28 rfl)<|r_pv rfl rfl (za rfl)<|r_pv rfl rfl (zM Tryz.underlying28 rfl)<|r_pv rfl rfl (zda rfl rfl)<|zj<|ze<|zG rfl (fun hll=> ?_) (fun hll=> ?_)
  ·
   refine zi<|zc<|r_pv rfl rfl (zd rfl)<|zj<|ze<|zI<|zp<|zp ?_
   exact zE Tryz.results115 () trivial (zo rfl) (by rw [← Big.cmp_len (by omega),Big.cmp_lt (by omega)]) (ho:=(.n:PickO _ _ _)) (.n:SelR _ _ _)
  ·
   refine zB<|ze<|zi<|zc<|r_pv rfl rfl (zd rfl)<|zj<|ze<|zI<|zp ?_
   exact zE Tryz.results115 () trivial (zo rfl) (by rw [← Big.cmp_len (by omega),Big.cmp_gt (by omega)]) (ho:=(.n:PickO _ _ _)) (.n:SelR _ _ _)
 ·
  replace hlen:(Big.digs a).length=(Big.digs b).length:=by omega
  refine zB<|ze<|zi<|zi<|zc<|r_pv rfl rfl (za rfl)<|r_pv rfl rfl (zM Tryz.underlying28 rfl)<|r_pv rfl rfl (zaa (z:=((((Big.digs a).length:Nat):Int) - 1)) rfl rfl (w64 (by omega)))<|r_pv rfl rfl (zd rfl)<|zj<|ze<|zA<|zka (X:=Nat) (fun x:Nat=>x≤(Big.digs a).length∧(Big.digs a).drop x=(Big.digs b).drop x) (fun x=>[(5,.int .i64 (((x:Nat):Int) - 1)),(0,.slice p1 ((Big.digs a).length) c1),(1,.slice p2 ((Big.digs b).length) c2)]) (fun x=>[]) (fun x=>[slF (rI .u32) p1 c1 (Big.digs a),slF (rI .u32) p2 c2 (Big.digs b)]) (fun x:Nat=>x) ((Big.digs a).length) (show ((Big.digs a).length)≤(Big.digs a).length∧(Big.digs a).drop ((Big.digs a).length)=(Big.digs b).drop ((Big.digs a).length) from by exact ⟨Nat.le_refl _,by rw [List.drop_length,hlen,List.drop_length]⟩) ((.e rfl (by first|rfl|(congr 1;omega)|simp_all) (.c rfl (.c rfl .n))):SubM _ _) (ho:=(.n:PickO _ _ _)) ((.of [0,1] rfl):SelR _ _ _) ?_
  rintro j hI
  replace hI:j≤(Big.digs a).length∧(Big.digs a).drop j=(Big.digs b).drop j:=hI
  try dsimp only
  obtain ⟨hj,hd⟩:=hI
  refine zi<|zi<|zc<|r_pv rfl rfl (za rfl)<|r_pv rfl rfl (zMa rfl rfl)<|zj<|ze<|zG rfl (fun h1=> ?_) (fun h1=> ?_)
  ·
   obtain ⟨k,rfl⟩:∃k,j=k+1:=⟨j - 1,by omega⟩
   have e2:(((((k+1):Nat):Int) - 1):Int)=((k:Nat):Int):=by omega
   rw [e2]
   refine zB<|ze<|zi<|zA<|zi<|zi<|zea (OW:=[]) (O:=[]) 100000 mixed (.then (.then (.block (.then (.then (.block (.then .ret))))))) (by kernel_rfl)<|d_pv 0 rfl rfl (by kernel_rfl) (by kernel_rfl) rfl rfl (za rfl)<|d_pv 1 rfl rfl (by kernel_rfl) (by kernel_rfl) rfl rfl (za rfl)<|zga (x0:=((Big.digs a).getD k 0)) 2 rfl rfl (by kernel_rfl) (by kernel_rfl) 0 k rfl Tryz.underlying28 sz111 rfl rfl rfl (by first|rfl|assumption|(simp_all;done)|omega) rfl rfl (gD (d:=0) (by omega)) (fun b3 o4 hok5=> ?_)
   replace hok5:=zv.1 hok5
   refine d_u 3 rfl rfl (by kernel_rfl) (by kernel_rfl) rfl rfl (zk (j:=0) 0 ty111 rfl rfl rfl rfl)<|d_pv 4 rfl rfl (by kernel_rfl) (by kernel_rfl) rfl rfl (za rfl)<|d_pv 5 rfl rfl (by kernel_rfl) (by kernel_rfl) rfl rfl (za rfl)<|zga (x0:=((Big.digs b).getD k 0)) 6 rfl rfl (by kernel_rfl) (by kernel_rfl) 2 k rfl Tryz.underlying28 sz111 rfl rfl rfl (by first|rfl|assumption|(simp_all;done)|omega) rfl rfl (gD (d:=0) (by omega)) (fun b6 o7 hok8=> ?_)
   replace hok8:=zv.1 hok8
   refine d_u 7 rfl rfl (by kernel_rfl) (by kernel_rfl) rfl rfl (zk (j:=0) 0 ty111 rfl rfl rfl rfl)<|d_pv 8 rfl rfl (by kernel_rfl) (by kernel_rfl) rfl rfl (zda rfl rfl)<|zba (by kernel_rfl)<|ze<|zG rfl (fun hlt=> ?_) (fun hlt=> ?_)
   ·
    refine zi<|zc<|r_pv rfl rfl (zd rfl)<|zj<|ze<|zI<|zp<|zZ<|zp<|zp<|zZ<|zp ?_
    exact zE Tryz.results115 () trivial (zo rfl) (by rw [← Big.cmp_at hlen (by omega) hd (by omega),Big.cmp_lt (by omega)]) (ho:=(.n:PickO _ _ _)) (.n:SelR _ _ _)
   ·
    refine zB<|ze<|zi<|zea (OW:=[]) (O:=[]) 100000 mixed (.then (.block (.then (.then (.block (.then .ret)))))) (by kernel_rfl)<|d_pv 0 rfl rfl (by kernel_rfl) (by kernel_rfl) rfl rfl (za rfl)<|d_pv 1 rfl rfl (by kernel_rfl) (by kernel_rfl) rfl rfl (za rfl)<|zga (x0:=((Big.digs a).getD k 0)) 2 rfl rfl (by kernel_rfl) (by kernel_rfl) 2 k rfl Tryz.underlying28 sz111 rfl rfl rfl (by first|rfl|assumption|(simp_all;done)|omega) rfl rfl (gD (d:=0) (by omega)) (fun b9 o10 hok11=> ?_)
    replace hok11:=zv.1 hok11
    refine d_u 3 rfl rfl (by kernel_rfl) (by kernel_rfl) rfl rfl (zk (j:=0) 0 ty111 rfl rfl rfl rfl)<|d_pv 4 rfl rfl (by kernel_rfl) (by kernel_rfl) rfl rfl (za rfl)<|d_pv 5 rfl rfl (by kernel_rfl) (by kernel_rfl) rfl rfl (za rfl)<|zga (x0:=((Big.digs b).getD k 0)) 6 rfl rfl (by kernel_rfl) (by kernel_rfl) 4 k rfl Tryz.underlying28 sz111 rfl rfl rfl (by first|rfl|assumption|(simp_all;done)|omega) rfl rfl (gD (d:=0) (by omega)) (fun b12 o13 hok14=> ?_)
    replace hok14:=zv.1 hok14
    refine d_u 7 rfl rfl (by kernel_rfl) (by kernel_rfl) rfl rfl (zk (j:=0) 0 ty111 rfl rfl rfl rfl)<|d_pv 8 rfl rfl (by kernel_rfl) (by kernel_rfl) rfl rfl (zoa rfl rfl)<|zba (by kernel_rfl)<|ze<|zG rfl (fun hgt=> ?_) (fun hgt=> ?_)
    ·
     refine zi<|zc<|r_pv rfl rfl (zd rfl)<|zj<|ze<|zI<|zZ<|zp<|zp<|zZ<|zp ?_
     exact zE Tryz.results115 () trivial (zo rfl) (by rw [← Big.cmp_at hlen (by omega) hd (by omega),Big.cmp_gt (by omega)]) (ho:=(.n:PickO _ _ _)) (.n:SelR _ _ _)
    ·
     refine zB<|zT<|ze<|zc<|r_pv rfl rfl (za rfl)<|r_pv rfl rfl (zaa (z:=(((k:Nat):Int) - 1)) rfl rfl (w64 (by omega)))<|r_pv rfl rfl (zd rfl)<|zj<|zha k (show k≤(Big.digs a).length∧(Big.digs a).drop k=(Big.digs b).drop k from by exact ⟨by omega,Big.drop_more (by omega) (by omega) hd (by omega)⟩) (by show k<k+1;omega) ((.of rfl):SubM _ _) (ho:=(.n:PickO _ _ _)) ((.of [4,5] rfl):SelR _ _ _)
  ·
   refine zja<|zl<|zl<|zu<|ze<|zi<|zc<|r_pv rfl rfl (zd rfl)<|zj<|ze<|zI ?_
   have hj0:j=0:=by omega
   subst hj0
   have heq:=Big.cmp_eq (show Big.digs a=Big.digs b by simpa using hd)
   exact zE Tryz.results115 () trivial (zo rfl) (by rw [heq] <;> simp [Big.cmp]) (ho:=(.n:PickO _ _ _)) (.n:SelR _ _ _)
theorem zie {s:Bool} {p:Option Addr} {n:Nat} {cap:Nat} {l:List Int} (hn:l.length=n) (hln:n≤1099511627776):Con Tryz.prog 71 [.agg #[.bool s,.slice p n cap]] [] [slF (rI .u32) p cap l] (Y:=(Option Addr)×Nat) (fun y=>True) (fun y=> .agg #[.bool (decide ((- Big.raw s l)<0)),.slice (y.1) ((Big.digs ((- Big.raw s l).natAbs)).length) (y.2)]) (fun y=>[]) (fun y=>[slF (rI .u32) (y.1) (y.2) (Big.digs ((- Big.raw s l).natAbs))]):=by
 refine zq Tryz.func71 rfl rfl rfl (fun c=> ?_)
 show RunC _ _ _ _ _ [(0,.agg #[.bool s,.slice p n cap])] [] [slF (rI .u32) p cap l]
 refine zY 0 rfl (fun hL0=> ?_)
 refine zNa 0 rfl (fun hE0=> ?_)
 have hnn:Big.nn l:=fun g hg=>(zv.1 (hE0 g hg)).1
 have hb:Big.ln (Big.raw s l)≤n:=by have:=Big.zOa (s:=s) hnn;omega
 unfold Big.ln at hb
 refine zi<|zc<|zJ rfl rfl (zQ rfl rfl) (fun b1=> ?_)
 refine zJ rfl rfl (zw zr30 rfl) (fun b2=> ?_)
 refine zj<|ze<|zi<|zc<|r_u rfl rfl (zf 1 ty30 rfl rfl (.take (.take .nil)))<|zy rfl rfl (.c rfl .n) ce89 (zLa (s:=s) (p:=p) (n:=n) (cap:=cap) (l:=l) (hn:=by assumption) (hln:=by assumption)) (.c (j:=0) rfl .n) ?_
 rintro ⟨p23,c24⟩ -
 dsimp only [List.append_eq,List.nil_append,List.cons_append]
 refine zn 1 rfl rfl rfl rfl rfl sz30 rfl (.take (.take .nil)) (.s .z)<|zj<|ze<|zi<|zc<|r_pv rfl rfl (zg Tryz.underlying30 rfl sz4 rfl rfl)<|r_u rfl rfl (zh 1 ty4 rfl rfl rfl)<|r_pv rfl rfl (zjb rfl)<|r_pv rfl rfl (zg Tryz.underlying30 rfl sz28 rfl rfl)<|r_u rfl rfl (zh 1 ty28 rfl rfl rfl)<|zy rfl rfl (.c rfl (.c rfl .n)) ce92 (zcb (s:= !(decide ((Big.raw s l)<0))) (a:=(Big.raw s l).natAbs) (p:=p23) (cap:=c24) (hln:=by first|rfl|assumption|omega|(simp;done)|(simp;omega)|(simp_all;done))) (.c (j:=0) rfl .n) ?_
 rintro ⟨p25,c26⟩ -
 dsimp only [List.append_eq,List.nil_append,List.cons_append]
 refine zn 0 rfl rfl rfl rfl rfl sz30 rfl (.take (.take .nil)) .z<|zj<|ze<|zI ?_
 have hz:Big.sg (!decide (Big.raw s l<0)) ((Big.raw s l).natAbs:Int)= - Big.raw s l:=by rw [Big.sg_not,Big.sg_big]
 exact zE Tryz.results71 (p25,c26) trivial (zt 0 ty30 rfl rfl (.take (.take .nil))) (by rw [hz]) (ho:=(.n:PickO _ _ _)) ((.e (j:=0) rfl (by rw [hz]) .n):SelR _ _ _)
theorem zUe {z:Int} {p:Option Addr} {cap:Nat} (hln:Big.ln z≤1099511627776):Con Tryz.prog 71 [.agg #[.bool (decide ((z)<0)),.slice (p) ((Big.digs ((z).natAbs)).length) (cap)]] [] [slF (rI .u32) (p) (cap) (Big.digs ((z).natAbs))] (Y:=(Option Addr)×(Nat)) (fun y=>True) (fun y=> .agg #[.bool (decide ((- z)<0)),.slice (y.1) ((Big.digs ((- z).natAbs)).length) (y.2)]) (fun y=>[]) (fun y=>[slF (rI .u32) (y.1) (y.2) (Big.digs ((- z).natAbs))]):=by
  have h:= @zie (decide ((z)<0)) p (Big.digs (z).natAbs).length cap (Big.digs (z).natAbs) rfl hln
  rw [Big.raw_big] at h
  exact h
theorem zrd {w1:Wd} {x1:Int} (hln:Big.ln x1≤1099511627776):Con Tryz.prog 71 [.agg #[w1.b,w1.l]] [] [zF w1 (x1)] (Y:=(Wd)) (fun y=>True) (fun y=> .agg #[y.b,y.l]) (fun y=>[]) (fun y=>[zF y (- x1)]):=by
  exact zJb (zid (fun p c=>zUe hln))
theorem zsd {s:Bool} {p:Option Addr} {n:Nat} {cap:Nat} {l:List Int} (hn:l.length=n) (hln:n≤1099511627776):Con Tryz.prog 56 [.agg #[.bool s,.slice p n cap]] [] [slF (rI .u32) p cap l] (Y:=Unit) (fun y=>True) (fun y=> .int .i64 ((Big.raw s l).sign)) (fun y=>[]) (fun y=>[]):=by
 refine zq Tryz.func56 rfl rfl rfl (fun c=> ?_)
 show RunC _ _ _ _ _ [(0,.agg #[.bool s,.slice p n cap])] [] [slF (rI .u32) p cap l]
 refine zY 0 rfl (fun hL0=> ?_)
 refine zNa 0 rfl (fun hE0=> ?_)
 have hnn:Big.nn l:=fun g hg=>(zv.1 (hE0 g hg)).1
 refine zi<|zc<|zJ rfl rfl (zQ rfl rfl) (fun b1=> ?_)
 refine r_pv rfl rfl (zd rfl)<|zj<|ze<|zi<|zc<|r_u rfl rfl (zf 0 ty30 rfl rfl (.take (.take .nil)))<|zy rfl rfl (.c rfl .n) ce89 (zLa (s:=s) (p:=p) (n:=n) (cap:=cap) (l:=l) (hn:=by assumption) (hln:=by assumption)) (.c (j:=0) rfl .n) ?_
 rintro ⟨p22,c23⟩ -
 dsimp only [List.append_eq,List.nil_append,List.cons_append]
 refine zn 0 rfl rfl rfl rfl rfl sz30 rfl (.take (.take .nil)) .z<|zj<|ze<|zi<|zi<|zc<|r_pv rfl rfl (zg Tryz.underlying30 rfl sz28 rfl rfl)<|r_u rfl rfl (zh 0 ty28 rfl rfl rfl)<|r_pv rfl rfl (zM Tryz.underlying28 rfl)<|r_pv rfl rfl (zva rfl rfl)<|zj<|ze<|zG rfl (fun h0=> ?_) (fun h0=> ?_)
 ·
  refine zi<|zc<|r_pv rfl rfl (zd rfl)<|zj<|ze<|zI<|zp ?_
  exact zE Tryz.results56 () trivial (zo rfl) (by rw [show Big.raw s l=0 by have:=Big.len_digs_nil.1 (show (Big.digs (Big.raw s l).natAbs).length=0 by omega);omega];rfl) (ho:=(.n:PickO _ _ _)) (.n:SelR _ _ _)
 ·
  refine zB<|ze<|zi<|zi<|zc<|r_pv rfl rfl (zg Tryz.underlying30 rfl sz4 rfl rfl)<|r_u rfl rfl (zh 0 ty4 rfl rfl rfl)<|zj<|ze<|zyb rfl (fun hs=> ?_) (fun hs=> ?_)
  ·
   refine zi<|zc<|r_pv rfl rfl (zd rfl)<|zj<|ze<|zI<|zp ?_
   exact zE Tryz.results56 () trivial (zo rfl) (by rw [Int.sign_eq_neg_one_of_neg (by simpa using hs)]) (ho:=(.n:PickO _ _ _)) (.n:SelR _ _ _)
  ·
   refine zB<|ze<|zi<|zc<|r_pv rfl rfl (zd rfl)<|zj<|ze<|zI ?_
   exact zE Tryz.results56 () trivial (zo rfl) (by rw [Int.sign_eq_one_of_pos (by have h2:¬Big.raw s l<0:=(by simpa using hs);have:(Big.raw s l).natAbs≠0:=(fun e=>h0 (by rw [e];rfl));omega)]) (ho:=(.n:PickO _ _ _)) (.n:SelR _ _ _)
theorem zFc {z:Int} {p:Option Addr} {cap:Nat} (hln:Big.ln z≤1099511627776):Con Tryz.prog 56 [.agg #[.bool (decide ((z)<0)),.slice (p) ((Big.digs ((z).natAbs)).length) (cap)]] [] [slF (rI .u32) (p) (cap) (Big.digs ((z).natAbs))] (Y:=Unit) (fun y=>True) (fun y=> .int .i64 ((z).sign)) (fun y=>[]) (fun y=>[]):=by
  have h:= @zsd (decide ((z)<0)) p (Big.digs (z).natAbs).length cap (Big.digs (z).natAbs) rfl hln
  rw [Big.raw_big] at h
  exact h
theorem zZb {w1:Wd} {x1:Int} (hln:Big.ln x1≤1099511627776):Con Tryz.prog 56 [.agg #[w1.b,w1.l]] [] [zF w1 (x1)] (Y:=Unit) (fun y=>True) (fun y=> .int .i64 ((x1).sign)) (fun y=>[]) (fun y=>[]):=by
  exact zid (fun p c=>zFc hln)
theorem zje {s:Bool} {p1:Option Addr} {n1:Nat} {c1:Nat} {l1:List Int} {t:Bool} {p2:Option Addr} {n2:Nat} {c2:Nat} {l2:List Int} (hn1:l1.length=n1) (hn2:l2.length=n2) (hm1:n1≤1099511627776) (hm2:n2≤1099511627776):Con Tryz.prog 98 [.agg #[.bool s,.slice p1 n1 c1],.agg #[.bool t,.slice p2 n2 c2]] [] [slF (rI .u32) p1 c1 l1,slF (rI .u32) p2 c2 l2] (Y:=(Option Addr)×Nat) (fun y=>True) (fun y=> .agg #[.bool (decide ((Big.raw s l1+Big.raw t l2)<0)),.slice (y.1) ((Big.digs ((Big.raw s l1+Big.raw t l2).natAbs)).length) (y.2)]) (fun y=>[]) (fun y=>[slF (rI .u32) (y.1) (y.2) (Big.digs ((Big.raw s l1+Big.raw t l2).natAbs))]):=by
 refine zq Tryz.func98 rfl rfl rfl (fun c=> ?_)
 show RunC _ _ _ _ _ [(0,.agg #[.bool s,.slice p1 n1 c1]),(1,.agg #[.bool t,.slice p2 n2 c2])] [] [slF (rI .u32) p1 c1 l1,slF (rI .u32) p2 c2 l2]
 refine zY 0 rfl (fun hL0=> ?_)
 refine zNa 0 rfl (fun hE0=> ?_)
 refine zY 1 rfl (fun hL1=> ?_)
 refine zNa 1 rfl (fun hE1=> ?_)
 have hnn1:Big.nn l1:=fun g hg=>(zv.1 (hE0 g hg)).1
 have hnn2:Big.nn l2:=fun g hg=>(zv.1 (hE1 g hg)).1
 have hb1:Big.ln (Big.raw s l1)≤n1:=by have:=Big.zOa (s:=s) hnn1;omega
 have hb2:Big.ln (Big.raw t l2)≤n2:=by have:=Big.zOa (s:=t) hnn2;omega
 unfold Big.ln at hb1 hb2
 refine zi<|zc<|zJ rfl rfl (zQ rfl rfl) (fun b1=> ?_)
 refine zJ rfl rfl (zQ rfl rfl) (fun b2=> ?_)
 refine zJ rfl rfl (zw zr30 rfl) (fun b3=> ?_)
 refine zj<|ze<|zi<|zsa (.c (i:=2) rfl (.c (i:=1) rfl (.c (i:=0) rfl .n)))<|zea (OW:=[boxA b1 30 [.bool s,.slice p1 n1 c1],boxA b2 30 [.bool t,.slice p2 n2 c2]]) (O:=[boxA b3 30 [.bool false,.slice none 0 0]]) 4 mixed (.then .ret) (by kernel_rfl)<|d_uw 0 rfl rfl (by kernel_rfl) (by kernel_rfl) (by kernel_rfl) rfl rfl (zf 0 ty30 rfl rfl (.take (.take .nil)))<|d_uw 2 rfl rfl (by kernel_rfl) (by kernel_rfl) (by kernel_rfl) rfl rfl (zf 1 ty30 rfl rfl (.take (.take .nil)))<|zL 1 (by kernel_rfl) (zH rfl rfl rfl rfl (.c rfl .n) ce89 (zLa (s:=s) (p:=p1) (n:=n1) (cap:=c1) (l:=l1) (hn:=by assumption) (hln:=by assumption)) (.c (j:=0) rfl .n) ?_)
 rintro ⟨p24,c25⟩ -
 dsimp only [List.append_eq,List.nil_append,List.cons_append]
 refine zL 3 (by kernel_rfl) (zH rfl rfl rfl rfl (.c rfl .n) ce89 (zLa (s:=t) (p:=p2) (n:=n2) (cap:=c2) (l:=l2) (hn:=by assumption) (hln:=by assumption)) (.c (j:=2) rfl .n) ?_)
 rintro ⟨p26,c27⟩ -
 dsimp only [List.append_eq,List.nil_append,List.cons_append]
 refine zL 4 (by kernel_rfl) (zD (by kernel_rfl) rfl rfl rfl rfl rfl sz30 rfl (.take (.take .nil)) ?_)
 refine zJa (zma (i:=1) rfl)<|zL 5 (by kernel_rfl) (zD (by kernel_rfl) rfl rfl rfl rfl rfl sz30 rfl (.take (.take .nil)) ?_)
 refine zba (by kernel_rfl)<|ze<|zi<|zi<|zc<|r_pv rfl rfl (zg Tryz.underlying30 rfl sz4 rfl rfl)<|r_u rfl rfl (zh 1 ty4 rfl rfl rfl)<|r_pv rfl rfl (zg Tryz.underlying30 rfl sz4 rfl rfl)<|r_u rfl rfl (zh 0 ty4 rfl rfl rfl)<|r_pv rfl rfl (zAd Tryz.underlying4 rfl rfl)<|zj<|ze<|zG rfl (fun hst=> ?_) (fun hst=> ?_)
 ·
  refine zi<|zsa (.c (i:=2) rfl (.c (i:=0) rfl (.c (i:=0) rfl .n)))<|zea (OW:=[boxA b3 30 [.bool false,.slice none 0 0]]) (O:=[boxA b2 30 [.bool (decide ((Big.raw t l2)<0)),.slice p26 ((Big.digs ((Big.raw t l2).natAbs)).length) c27],boxA b1 30 [.bool (decide ((Big.raw s l1)<0)),.slice p24 ((Big.digs ((Big.raw s l1).natAbs)).length) c25]]) 8 mixed (.then (.then .ret)) (by kernel_rfl)<|d_pv 0 rfl rfl (by kernel_rfl) (by kernel_rfl) rfl rfl (zg Tryz.underlying30 rfl sz4 rfl rfl)<|d_uw 1 rfl rfl (by kernel_rfl) (by kernel_rfl) (by kernel_rfl) rfl rfl (zh 2 ty4 rfl rfl rfl)<|d_pv 2 rfl rfl (by kernel_rfl) (by kernel_rfl) rfl rfl (zg Tryz.underlying30 rfl sz28 rfl rfl)<|d_uw 3 rfl rfl (by kernel_rfl) (by kernel_rfl) (by kernel_rfl) rfl rfl (zh 2 ty28 rfl rfl rfl)<|d_pv 4 rfl rfl (by kernel_rfl) (by kernel_rfl) rfl rfl (zg Tryz.underlying30 rfl sz28 rfl rfl)<|d_uw 5 rfl rfl (by kernel_rfl) (by kernel_rfl) (by kernel_rfl) rfl rfl (zh 1 ty28 rfl rfl rfl)<|zL 6 (by kernel_rfl) (zH rfl rfl rfl rfl (.c rfl (.c rfl .n)) ce121 (zTe (a:=(Big.raw s l1).natAbs) (b:=(Big.raw t l2).natAbs) (p1:=p24) (c1:=c25) (p2:=p26) (c2:=c27) (hb1:=by first|rfl|assumption|omega|(unfold Big.ln;omega)|(simp;done)|(simp;omega)|(simp_all;done)) (hb2:=by first|rfl|assumption|omega|(unfold Big.ln;omega)|(simp;done)|(simp;omega)|(simp_all;done))) (.c (j:=1) rfl (.c (j:=0) rfl .n)) ?_)
  rintro ⟨p38,c39⟩ -
  dsimp only [List.append_eq,List.nil_append,List.cons_append]
  refine zL 7 (by kernel_rfl) (zH rfl rfl rfl rfl (.c rfl (.c rfl .n)) ce92 (zcb (s:=decide ((Big.raw s l1)<0)) (a:=((Big.raw s l1).natAbs)+((Big.raw t l2).natAbs)) (p:=p38) (cap:=c39) (hln:=by have:=Big.len_add (Big.raw s l1).natAbs (Big.raw t l2).natAbs;omega)) (.c (j:=0) rfl .n) ?_)
  rintro ⟨p210,c211⟩ -
  dsimp only [List.append_eq,List.nil_append,List.cons_append]
  refine zL 8 (by kernel_rfl) (zD (by kernel_rfl) rfl rfl rfl rfl rfl sz30 rfl (.take (.take .nil)) ?_)
  refine zba (by kernel_rfl)<|ze<|zI<|zp ?_
  have hz:=Big.add_same hst
  exact zE Tryz.results98 (p210,c211) trivial (zt 0 ty30 rfl rfl (.take (.take .nil))) (by rw [hz]) (ho:=(.n:PickO _ _ _)) ((.e (j:=0) rfl (by rw [hz]) .n):SelR _ _ _)
 ·
  refine zB<|ze<|zi<|zi<|zc<|r_pv rfl rfl (zg Tryz.underlying30 rfl sz28 rfl rfl)<|r_u rfl rfl (zh 1 ty28 rfl rfl rfl)<|r_pv rfl rfl (zg Tryz.underlying30 rfl sz28 rfl rfl)<|r_u rfl rfl (zh 0 ty28 rfl rfl rfl)<|zN rfl rfl (.c rfl (.c rfl .n)) ce115 (zwc (a:=(Big.raw s l1).natAbs) (b:=(Big.raw t l2).natAbs) (p1:=p24) (c1:=c25) (p2:=p26) (c2:=c27)) (.c (j:=1) rfl (.c (j:=0) rfl .n))<|r_pv rfl rfl (zMa rfl rfl)<|zj<|ze<|zG rfl (fun hcmp=> ?_) (fun hcmp=> ?_)
  ·
   have hab:(Big.raw t l2).natAbs≤(Big.raw s l1).natAbs:=by have:=Big.cmp_ge.1 hcmp;omega
   refine zi<|zsa (.c (i:=2) rfl (.c (i:=0) rfl (.c (i:=0) rfl .n)))<|zea (OW:=[boxA b3 30 [.bool false,.slice none 0 0]]) (O:=[boxA b2 30 [.bool (decide ((Big.raw t l2)<0)),.slice p26 ((Big.digs ((Big.raw t l2).natAbs)).length) c27],boxA b1 30 [.bool (decide ((Big.raw s l1)<0)),.slice p24 ((Big.digs ((Big.raw s l1).natAbs)).length) c25]]) 8 mixed (.then (.then .ret)) (by kernel_rfl)<|d_pv 0 rfl rfl (by kernel_rfl) (by kernel_rfl) rfl rfl (zg Tryz.underlying30 rfl sz4 rfl rfl)<|d_uw 1 rfl rfl (by kernel_rfl) (by kernel_rfl) (by kernel_rfl) rfl rfl (zh 2 ty4 rfl rfl rfl)<|d_pv 2 rfl rfl (by kernel_rfl) (by kernel_rfl) rfl rfl (zg Tryz.underlying30 rfl sz28 rfl rfl)<|d_uw 3 rfl rfl (by kernel_rfl) (by kernel_rfl) (by kernel_rfl) rfl rfl (zh 2 ty28 rfl rfl rfl)<|d_pv 4 rfl rfl (by kernel_rfl) (by kernel_rfl) rfl rfl (zg Tryz.underlying30 rfl sz28 rfl rfl)<|d_uw 5 rfl rfl (by kernel_rfl) (by kernel_rfl) (by kernel_rfl) rfl rfl (zh 1 ty28 rfl rfl rfl)<|zL 6 (by kernel_rfl) (zH rfl rfl rfl rfl (.c rfl (.c rfl .n)) ce119 (zHb (a:=(Big.raw s l1).natAbs) (b:=(Big.raw t l2).natAbs) (p1:=p24) (c1:=c25) (p2:=p26) (c2:=c27) (hb1:=by first|rfl|assumption|omega|(unfold Big.ln;omega)|(simp;done)|(simp;omega)|(simp_all;done)) (hb2:=by first|rfl|assumption|omega|(unfold Big.ln;omega)|(simp;done)|(simp;omega)|(simp_all;done)) (hab:=by first|rfl|assumption|omega|(unfold Big.ln;omega)|(simp;done)|(simp;omega)|(simp_all;done))) (.c (j:=1) rfl (.c (j:=0) rfl .n)) ?_)
   rintro ⟨p312,c313⟩ -
   dsimp only [List.append_eq,List.nil_append,List.cons_append]
   refine zL 7 (by kernel_rfl) (zH rfl rfl rfl rfl (.c rfl (.c rfl .n)) ce92 (zcb (s:=decide ((Big.raw s l1)<0)) (a:=((Big.raw s l1).natAbs) - ((Big.raw t l2).natAbs)) (p:=p312) (cap:=c313) (hln:=by have:=Big.len_sub (Big.raw s l1).natAbs (Big.raw t l2).natAbs;omega)) (.c (j:=0) rfl .n) ?_)
   rintro ⟨p214,c215⟩ -
   dsimp only [List.append_eq,List.nil_append,List.cons_append]
   refine zL 8 (by kernel_rfl) (zD (by kernel_rfl) rfl rfl rfl rfl rfl sz30 rfl (.take (.take .nil)) ?_)
   refine zba (by kernel_rfl)<|ze<|zI<|zp ?_
   have hz:=Big.add_ge hst hab
   exact zE Tryz.results98 (p214,c215) trivial (zt 0 ty30 rfl rfl (.take (.take .nil))) (by rw [hz]) (ho:=(.n:PickO _ _ _)) ((.e (j:=0) rfl (by rw [hz]) .n):SelR _ _ _)
  ·
   have hab:(Big.raw s l1).natAbs≤(Big.raw t l2).natAbs:=by have:¬((Big.raw t l2).natAbs:Int)≤(Big.raw s l1).natAbs:=fun h=>hcmp (Big.cmp_ge.2 h);omega
   refine zB<|ze<|zi<|zsa (.c (i:=2) rfl (.c (i:=0) rfl (.c (i:=0) rfl .n)))<|zea (OW:=[boxA b3 30 [.bool false,.slice none 0 0]]) (O:=[boxA b2 30 [.bool (decide ((Big.raw t l2)<0)),.slice p26 ((Big.digs ((Big.raw t l2).natAbs)).length) c27],boxA b1 30 [.bool (decide ((Big.raw s l1)<0)),.slice p24 ((Big.digs ((Big.raw s l1).natAbs)).length) c25]]) 8 mixed (.then .ret) (by kernel_rfl)<|d_pv 0 rfl rfl (by kernel_rfl) (by kernel_rfl) rfl rfl (zg Tryz.underlying30 rfl sz4 rfl rfl)<|d_uw 1 rfl rfl (by kernel_rfl) (by kernel_rfl) (by kernel_rfl) rfl rfl (zh 1 ty4 rfl rfl rfl)<|d_pv 2 rfl rfl (by kernel_rfl) (by kernel_rfl) rfl rfl (zg Tryz.underlying30 rfl sz28 rfl rfl)<|d_uw 3 rfl rfl (by kernel_rfl) (by kernel_rfl) (by kernel_rfl) rfl rfl (zh 1 ty28 rfl rfl rfl)<|d_pv 4 rfl rfl (by kernel_rfl) (by kernel_rfl) rfl rfl (zg Tryz.underlying30 rfl sz28 rfl rfl)<|d_uw 5 rfl rfl (by kernel_rfl) (by kernel_rfl) (by kernel_rfl) rfl rfl (zh 2 ty28 rfl rfl rfl)<|zL 6 (by kernel_rfl) (zH rfl rfl rfl rfl (.c rfl (.c rfl .n)) ce119 (zHb (a:=(Big.raw t l2).natAbs) (b:=(Big.raw s l1).natAbs) (p1:=p26) (c1:=c27) (p2:=p24) (c2:=c25) (hb1:=by first|rfl|assumption|omega|(unfold Big.ln;omega)|(simp;done)|(simp;omega)|(simp_all;done)) (hb2:=by first|rfl|assumption|omega|(unfold Big.ln;omega)|(simp;done)|(simp;omega)|(simp_all;done)) (hab:=by first|rfl|assumption|omega|(unfold Big.ln;omega)|(simp;done)|(simp;omega)|(simp_all;done))) (.c (j:=0) rfl (.c (j:=1) rfl .n)) ?_)
   rintro ⟨p316,c317⟩ -
   dsimp only [List.append_eq,List.nil_append,List.cons_append]
   refine zL 7 (by kernel_rfl) (zH rfl rfl rfl rfl (.c rfl (.c rfl .n)) ce92 (zcb (s:=decide ((Big.raw t l2)<0)) (a:=((Big.raw t l2).natAbs) - ((Big.raw s l1).natAbs)) (p:=p316) (cap:=c317) (hln:=by have:=Big.len_sub (Big.raw t l2).natAbs (Big.raw s l1).natAbs;omega)) (.c (j:=0) rfl .n) ?_)
   rintro ⟨p218,c219⟩ -
   dsimp only [List.append_eq,List.nil_append,List.cons_append]
   refine zL 8 (by kernel_rfl) (zD (by kernel_rfl) rfl rfl rfl rfl rfl sz30 rfl (.take (.take .nil)) ?_)
   refine zba (by kernel_rfl)<|ze<|zI ?_
   have hz:=Big.add_lt hst hab
   exact zE Tryz.results98 (p218,c219) trivial (zt 0 ty30 rfl rfl (.take (.take .nil))) (by rw [hz]) (ho:=(.n:PickO _ _ _)) ((.e (j:=0) rfl (by rw [hz]) .n):SelR _ _ _)
theorem zVe {x1:Int} {x2:Int} {p1:Option Addr} {c1:Nat} {p2:Option Addr} {c2:Nat} (hb1:Big.ln x1≤1099511627776) (hb2:Big.ln x2≤1099511627776):Con Tryz.prog 98 [.agg #[.bool (decide ((x1)<0)),.slice (p1) ((Big.digs ((x1).natAbs)).length) (c1)],.agg #[.bool (decide ((x2)<0)),.slice (p2) ((Big.digs ((x2).natAbs)).length) (c2)]] [] [slF (rI .u32) (p1) (c1) (Big.digs ((x1).natAbs)),slF (rI .u32) (p2) (c2) (Big.digs ((x2).natAbs))] (Y:=(Option Addr)×(Nat)) (fun y=>True) (fun y=> .agg #[.bool (decide ((x1+x2)<0)),.slice (y.1) ((Big.digs ((x1+x2).natAbs)).length) (y.2)]) (fun y=>[]) (fun y=>[slF (rI .u32) (y.1) (y.2) (Big.digs ((x1+x2).natAbs))]):=by
  have h:= @zje (decide ((x1)<0)) p1 (Big.digs (x1).natAbs).length c1 (Big.digs (x1).natAbs) (decide ((x2)<0)) p2 (Big.digs (x2).natAbs).length c2 (Big.digs (x2).natAbs) rfl rfl hb1 hb2
  rw [Big.raw_big,Big.raw_big] at h
  exact h
theorem zWe {w1:Wd} {w2:Wd} {x1:Int} {x2:Int} (hb1:Big.ln x1≤1099511627776) (hb2:Big.ln x2≤1099511627776):Con Tryz.prog 98 [.agg #[w1.b,w1.l],.agg #[w2.b,w2.l]] [] [zF w1 (x1),zF w2 (x2)] (Y:=(Wd)) (fun y=>True) (fun y=> .agg #[y.b,y.l]) (fun y=>[]) (fun y=>[zF y (x1+x2)]):=by
  exact zJb (zcc (fun p1 c1 p2 c2=>zVe hb1 hb2))
theorem zke {s:Bool} {p1:Option Addr} {n1:Nat} {c1:Nat} {l1:List Int} {t:Bool} {p2:Option Addr} {n2:Nat} {c2:Nat} {l2:List Int} (hn1:l1.length=n1) (hn2:l2.length=n2) (hm1:n1≤1099511627776) (hm2:n2≤1099511627776):Con Tryz.prog 90 [.agg #[.bool s,.slice p1 n1 c1],.agg #[.bool t,.slice p2 n2 c2]] [] [slF (rI .u32) p1 c1 l1,slF (rI .u32) p2 c2 l2] (Y:=(Option Addr)×Nat) (fun y=>True) (fun y=> .agg #[.bool (decide ((Big.raw s l1 - Big.raw t l2)<0)),.slice (y.1) ((Big.digs ((Big.raw s l1 - Big.raw t l2).natAbs)).length) (y.2)]) (fun y=>[]) (fun y=>[slF (rI .u32) (y.1) (y.2) (Big.digs ((Big.raw s l1 - Big.raw t l2).natAbs))]):=by
 refine zq Tryz.func90 rfl rfl rfl (fun c=> ?_)
 show RunC _ _ _ _ _ [(0,.agg #[.bool s,.slice p1 n1 c1]),(1,.agg #[.bool t,.slice p2 n2 c2])] [] [slF (rI .u32) p1 c1 l1,slF (rI .u32) p2 c2 l2]
 refine zY 0 rfl (fun hL0=> ?_)
 refine zNa 0 rfl (fun hE0=> ?_)
 refine zY 1 rfl (fun hL1=> ?_)
 refine zNa 1 rfl (fun hE1=> ?_)
 have hnn1:Big.nn l1:=fun g hg=>(zv.1 (hE0 g hg)).1
 have hnn2:Big.nn l2:=fun g hg=>(zv.1 (hE1 g hg)).1
 have hb1:Big.ln (Big.raw s l1)≤n1:=by have:=Big.zOa (s:=s) hnn1;omega
 have hb2:Big.ln (Big.raw t l2)≤n2:=by have:=Big.zOa (s:=t) hnn2;omega
 unfold Big.ln at hb1 hb2
 refine zi<|zc<|zJ rfl rfl (zQ rfl rfl) (fun b1=> ?_)
 refine zJ rfl rfl (zQ rfl rfl) (fun b2=> ?_)
 refine zJ rfl rfl (zw zr30 rfl) (fun b3=> ?_)
 refine zj<|ze<|zi<|zea (OW:=[boxA b3 30 [.bool false,.slice none 0 0]]) (O:=[boxA b2 30 [.bool t,.slice p2 n2 c2],boxA b1 30 [.bool s,.slice p1 n1 c1]]) 4 mixed (.then .ret) (by kernel_rfl)<|d_uw 0 rfl rfl (by kernel_rfl) (by kernel_rfl) (by kernel_rfl) rfl rfl (zf 2 ty30 rfl rfl (.take (.take .nil)))<|d_uw 1 rfl rfl (by kernel_rfl) (by kernel_rfl) (by kernel_rfl) rfl rfl (zf 1 ty30 rfl rfl (.take (.take .nil)))<|zL 2 (by kernel_rfl) (zH rfl rfl rfl rfl (.c rfl .n) ce71 (zie (s:=t) (p:=p2) (n:=n2) (cap:=c2) (l:=l2) (hn:=by assumption) (hln:=by assumption)) (.c (j:=1) rfl .n) ?_)
 rintro ⟨p24,c25⟩ -
 dsimp only [List.append_eq,List.nil_append,List.cons_append]
 refine zL 3 (by kernel_rfl) (zH rfl rfl rfl rfl (.c rfl (.c rfl .n)) ce98 (zje (s:=s) (p1:=p1) (n1:=n1) (c1:=c1) (l1:=l1) (t:=decide ((- Big.raw t l2)<0)) (p2:=p24) (n2:=(Big.digs ((- Big.raw t l2).natAbs)).length) (c2:=c25) (l2:=Big.digs ((- Big.raw t l2).natAbs)) (hn1:=by assumption) (hn2:=by first|rfl|assumption|omega|(rw [Int.natAbs_neg];omega)) (hm1:=by assumption) (hm2:=by first|rfl|assumption|omega|(rw [Int.natAbs_neg];omega))) (.c (j:=1) rfl (.c (j:=0) rfl .n)) ?_)
 rintro ⟨p36,c37⟩ -
 dsimp only [List.append_eq,List.nil_append,List.cons_append]
 refine zL 4 (by kernel_rfl) (zD (by kernel_rfl) rfl rfl rfl rfl rfl sz30 rfl (.take (.take .nil)) ?_)
 refine zba (by kernel_rfl)<|ze<|zI ?_
 have hz:Big.raw s l1+Big.raw (decide ((- Big.raw t l2)<0)) (Big.digs (- Big.raw t l2).natAbs)=Big.raw s l1 - Big.raw t l2:=by rw [Big.raw_big];omega
 exact zE Tryz.results90 (p36,c37) trivial (zt 0 ty30 rfl rfl (.take (.take .nil))) (by rw [hz]) (ho:=(.n:PickO _ _ _)) ((.e (j:=0) rfl (by rw [hz]) .n):SelR _ _ _)
theorem zTb {x1:Int} {x2:Int} {p1:Option Addr} {c1:Nat} {p2:Option Addr} {c2:Nat} (hb1:Big.ln x1≤1099511627776) (hb2:Big.ln x2≤1099511627776):Con Tryz.prog 90 [.agg #[.bool (decide ((x1)<0)),.slice (p1) ((Big.digs ((x1).natAbs)).length) (c1)],.agg #[.bool (decide ((x2)<0)),.slice (p2) ((Big.digs ((x2).natAbs)).length) (c2)]] [] [slF (rI .u32) (p1) (c1) (Big.digs ((x1).natAbs)),slF (rI .u32) (p2) (c2) (Big.digs ((x2).natAbs))] (Y:=(Option Addr)×(Nat)) (fun y=>True) (fun y=> .agg #[.bool (decide ((x1 - x2)<0)),.slice (y.1) ((Big.digs ((x1 - x2).natAbs)).length) (y.2)]) (fun y=>[]) (fun y=>[slF (rI .u32) (y.1) (y.2) (Big.digs ((x1 - x2).natAbs))]):=by
  have h:= @zke (decide ((x1)<0)) p1 (Big.digs (x1).natAbs).length c1 (Big.digs (x1).natAbs) (decide ((x2)<0)) p2 (Big.digs (x2).natAbs).length c2 (Big.digs (x2).natAbs) rfl rfl hb1 hb2
  rw [Big.raw_big,Big.raw_big] at h
  exact h
theorem zuf {s:Bool} {p1:Option Addr} {n1:Nat} {c1:Nat} {l1:List Int} {t:Bool} {p2:Option Addr} {n2:Nat} {c2:Nat} {l2:List Int} (hn1:l1.length=n1) (hn2:l2.length=n2) (hm1:n1≤1099511627776) (hm2:n2≤1099511627776):Con Tryz.prog 69 [.agg #[.bool s,.slice p1 n1 c1],.agg #[.bool t,.slice p2 n2 c2]] [] [slF (rI .u32) p1 c1 l1,slF (rI .u32) p2 c2 l2] (Y:=(Option Addr)×Nat) (fun y=>True) (fun y=> .agg #[.bool (decide ((Big.raw s l1*Big.raw t l2)<0)),.slice (y.1) ((Big.digs ((Big.raw s l1*Big.raw t l2).natAbs)).length) (y.2)]) (fun y=>[]) (fun y=>[slF (rI .u32) (y.1) (y.2) (Big.digs ((Big.raw s l1*Big.raw t l2).natAbs))]):=by
 refine zq Tryz.func69 rfl rfl rfl (fun c=> ?_)
 show RunC _ _ _ _ _ [(0,.agg #[.bool s,.slice p1 n1 c1]),(1,.agg #[.bool t,.slice p2 n2 c2])] [] [slF (rI .u32) p1 c1 l1,slF (rI .u32) p2 c2 l2]
 refine zY 0 rfl (fun hL0=> ?_)
 refine zNa 0 rfl (fun hE0=> ?_)
 refine zY 1 rfl (fun hL1=> ?_)
 refine zNa 1 rfl (fun hE1=> ?_)
 have hnn1:Big.nn l1:=fun g hg=>(zv.1 (hE0 g hg)).1
 have hnn2:Big.nn l2:=fun g hg=>(zv.1 (hE1 g hg)).1
 have hb1:Big.ln (Big.raw s l1)≤n1:=by have:=Big.zOa (s:=s) hnn1;omega
 have hb2:Big.ln (Big.raw t l2)≤n2:=by have:=Big.zOa (s:=t) hnn2;omega
 unfold Big.ln at hb1 hb2
 have hoa:=Big.digs_ok (Big.raw s l1).natAbs
 have hob:=Big.digs_ok (Big.raw t l2).natAbs
 refine zi<|zc<|zJ rfl rfl (zQ rfl rfl) (fun b1=> ?_)
 refine zJ rfl rfl (zQ rfl rfl) (fun b2=> ?_)
 refine zJ rfl rfl (zw zr30 rfl) (fun b3=> ?_)
 refine zj<|ze<|zi<|zsa (.c (i:=2) rfl (.c (i:=1) rfl (.c (i:=0) rfl .n)))<|zea (OW:=[boxA b1 30 [.bool s,.slice p1 n1 c1],boxA b2 30 [.bool t,.slice p2 n2 c2]]) (O:=[boxA b3 30 [.bool false,.slice none 0 0]]) 4 mixed (.then .ret) (by kernel_rfl)<|d_uw 0 rfl rfl (by kernel_rfl) (by kernel_rfl) (by kernel_rfl) rfl rfl (zf 0 ty30 rfl rfl (.take (.take .nil)))<|d_uw 2 rfl rfl (by kernel_rfl) (by kernel_rfl) (by kernel_rfl) rfl rfl (zf 1 ty30 rfl rfl (.take (.take .nil)))<|zL 1 (by kernel_rfl) (zH rfl rfl rfl rfl (.c rfl .n) ce89 (zLa (s:=s) (p:=p1) (n:=n1) (cap:=c1) (l:=l1) (hn:=by assumption) (hln:=by assumption)) (.c (j:=0) rfl .n) ?_)
 rintro ⟨p24,c25⟩ -
 dsimp only [List.append_eq,List.nil_append,List.cons_append]
 refine zL 3 (by kernel_rfl) (zH rfl rfl rfl rfl (.c rfl .n) ce89 (zLa (s:=t) (p:=p2) (n:=n2) (cap:=c2) (l:=l2) (hn:=by assumption) (hln:=by assumption)) (.c (j:=2) rfl .n) ?_)
 rintro ⟨p26,c27⟩ -
 dsimp only [List.append_eq,List.nil_append,List.cons_append]
 refine zL 4 (by kernel_rfl) (zD (by kernel_rfl) rfl rfl rfl rfl rfl sz30 rfl (.take (.take .nil)) ?_)
 refine zJa (zma (i:=1) rfl)<|zL 5 (by kernel_rfl) (zD (by kernel_rfl) rfl rfl rfl rfl rfl sz30 rfl (.take (.take .nil)) ?_)
 refine zba (by kernel_rfl)<|ze<|zi<|zc<|r_pv rfl rfl (zg Tryz.underlying30 rfl sz28 rfl rfl)<|r_u rfl rfl (zh 1 ty28 rfl rfl rfl)<|r_pv rfl rfl (zM Tryz.underlying28 rfl)<|r_pv rfl rfl (zg Tryz.underlying30 rfl sz28 rfl rfl)<|r_u rfl rfl (zh 0 ty28 rfl rfl rfl)<|r_pv rfl rfl (zM Tryz.underlying28 rfl)<|r_pv rfl rfl (zx (z:=(((((Big.digs ((Big.raw s l1).natAbs)).length)+((Big.digs ((Big.raw t l2).natAbs)).length)):Nat):Int)) rfl rfl (w64 (by omega)))<|zza rfl rfl (zIa (r:=rI .u32) (k:=(((Big.digs ((Big.raw s l1).natAbs)).length)+((Big.digs ((Big.raw t l2).natAbs)).length))) (x0:=0) (γ0:=()) Tryz.underlying28 inf111 rfl rfl rfl rfl (by omega) (by omega) rfl (fun _ _=>by exact zv.2 (by decide)) (by decide)) (fun b8 _=> ?_)
 refine r_pv rfl rfl (zd rfl)<|zj<|ze<|zi<|zi<|zc<|r_pv rfl rfl (zd rfl)<|zj<|ze<|zA<|zka (X:=Nat×(List Int)) (fun x:Nat×(List Int)=>x.1≤(Big.digs (Big.raw s l1).natAbs).length∧x.2.length=(Big.digs (Big.raw s l1).natAbs).length+(Big.digs (Big.raw t l2).natAbs).length∧Big.okL x.2∧(∀k,x.1+(Big.digs (Big.raw t l2).natAbs).length≤k→x.2.getD k 0=0)∧Big.valL x.2=Big.valL ((Big.digs (Big.raw s l1).natAbs).take x.1)*Big.valL (Big.digs (Big.raw t l2).natAbs)) (fun x=>[(6,.int .i64 ((x.1:Nat):Int)),(5,.slice (some ⟨b8,0,none⟩) (((Big.digs ((Big.raw s l1).natAbs)).length)+((Big.digs ((Big.raw t l2).natAbs)).length)) (((Big.digs ((Big.raw s l1).natAbs)).length)+((Big.digs ((Big.raw t l2).natAbs)).length))),(4,.pointer (some ⟨b3,0,none⟩)),(3,.pointer (some ⟨b2,0,none⟩)),(2,.pointer (some ⟨b1,0,none⟩))]) (fun x=>[rowA 111 (rI .u32) (some ⟨b8,0,none⟩) (((Big.digs ((Big.raw s l1).natAbs)).length)+((Big.digs ((Big.raw t l2).natAbs)).length)) (x.2),boxA b2 30 [.bool (decide ((Big.raw t l2)<0)),.slice p26 ((Big.digs ((Big.raw t l2).natAbs)).length) c27],boxA b1 30 [.bool (decide ((Big.raw s l1)<0)),.slice p24 ((Big.digs ((Big.raw s l1).natAbs)).length) c25],boxA b3 30 [.bool false,.slice none 0 0]]) (fun x=>[slF (rI .u32) p26 c27 (Big.digs ((Big.raw t l2).natAbs)),slF (rI .u32) p24 c25 (Big.digs ((Big.raw s l1).natAbs)),slF (rI .u32) p1 c1 l1,slF (rI .u32) p2 c2 l2]) (fun x:Nat×(List Int)=>(Big.digs (Big.raw s l1).natAbs).length - x.1) (0,List.replicate ((Big.digs (Big.raw s l1).natAbs).length+(Big.digs (Big.raw t l2).natAbs).length) 0) (show 0≤(Big.digs (Big.raw s l1).natAbs).length∧(List.replicate ((Big.digs (Big.raw s l1).natAbs).length+(Big.digs (Big.raw t l2).natAbs).length) 0).length=(Big.digs (Big.raw s l1).natAbs).length+(Big.digs (Big.raw t l2).natAbs).length∧Big.okL (List.replicate ((Big.digs (Big.raw s l1).natAbs).length+(Big.digs (Big.raw t l2).natAbs).length) 0)∧(∀k,0+(Big.digs (Big.raw t l2).natAbs).length≤k→(List.replicate ((Big.digs (Big.raw s l1).natAbs).length+(Big.digs (Big.raw t l2).natAbs).length) 0).getD k 0=0)∧Big.valL (List.replicate ((Big.digs (Big.raw s l1).natAbs).length+(Big.digs (Big.raw t l2).natAbs).length) 0)=Big.valL ((Big.digs (Big.raw s l1).natAbs).take 0)*Big.valL (Big.digs (Big.raw t l2).natAbs) from by exact ⟨by omega,by simp,Big.okL_zeros _,fun k _=>Big.getD_zeros _ k,by simp [Big.valL_zeros,Big.valL]⟩) ((.e rfl (by first|rfl|(congr 1;omega)|simp_all) (.of rfl)):SubM _ _) (ho:=((.e (i:=0) rfl (by first|rfl|(congr 1;omega)|simp_all) (.of [0,0,0] rfl)):PickO _ _ _)) ((.of [0,1,2,3] rfl):SelR _ _ _) ?_
 rintro ⟨i,os⟩ hI
 replace hI:i≤(Big.digs (Big.raw s l1).natAbs).length∧os.length=(Big.digs (Big.raw s l1).natAbs).length+(Big.digs (Big.raw t l2).natAbs).length∧Big.okL os∧(∀k,i+(Big.digs (Big.raw t l2).natAbs).length≤k→os.getD k 0=0)∧Big.valL os=Big.valL ((Big.digs (Big.raw s l1).natAbs).take i)*Big.valL (Big.digs (Big.raw t l2).natAbs):=hI
 try dsimp only
 obtain ⟨hi,hol,hok,hz,hv⟩:=hI
 have hg1:=Big.okL_getD hoa i
 refine zi<|zi<|zc<|r_pv rfl rfl (za rfl)<|r_pv rfl rfl (zg Tryz.underlying30 rfl sz28 rfl rfl)<|r_u rfl rfl (zh 2 ty28 rfl rfl rfl)<|r_pv rfl rfl (zM Tryz.underlying28 rfl)<|r_pv rfl rfl (zda rfl rfl)<|zj<|ze<|zG rfl (fun h9=> ?_) (fun h9=> ?_)
 ·
  refine zB<|ze<|zi<|zA<|zi<|zc<|r_pv rfl rfl (zd rfl)<|zj<|ze<|zi<|zi<|zc<|r_pv rfl rfl (zd rfl)<|zj<|ze<|zA<|zka (X:=Nat×(List Int)×Int) (fun x:Nat×(List Int)×Int=>x.1≤(Big.digs (Big.raw t l2).natAbs).length∧x.2.1.length=(Big.digs (Big.raw s l1).natAbs).length+(Big.digs (Big.raw t l2).natAbs).length∧Big.okL x.2.1∧0≤x.2.2∧x.2.2<1000000000∧(∀k,i+(Big.digs (Big.raw t l2).natAbs).length≤k→x.2.1.getD k 0=0)∧Big.valL x.2.1+Big.pw (i+x.1)*x.2.2=Big.valL ((Big.digs (Big.raw s l1).natAbs).take i)*Big.valL (Big.digs (Big.raw t l2).natAbs)+Big.pw i*(Big.digs (Big.raw s l1).natAbs).getD i 0*Big.valL ((Big.digs (Big.raw t l2).natAbs).take x.1)) (fun x=>[(7,.int .u64 (x.2.2)),(8,.int .i64 ((x.1:Nat):Int)),(6,.int .i64 ((i:Nat):Int)),(5,.slice (some ⟨b8,0,none⟩) (((Big.digs ((Big.raw s l1).natAbs)).length)+((Big.digs ((Big.raw t l2).natAbs)).length)) (((Big.digs ((Big.raw s l1).natAbs)).length)+((Big.digs ((Big.raw t l2).natAbs)).length))),(4,.pointer (some ⟨b3,0,none⟩)),(3,.pointer (some ⟨b2,0,none⟩)),(2,.pointer (some ⟨b1,0,none⟩))]) (fun x=>[rowA 111 (rI .u32) (some ⟨b8,0,none⟩) (((Big.digs ((Big.raw s l1).natAbs)).length)+((Big.digs ((Big.raw t l2).natAbs)).length)) (x.2.1),boxA b2 30 [.bool (decide ((Big.raw t l2)<0)),.slice p26 ((Big.digs ((Big.raw t l2).natAbs)).length) c27],boxA b1 30 [.bool (decide ((Big.raw s l1)<0)),.slice p24 ((Big.digs ((Big.raw s l1).natAbs)).length) c25],boxA b3 30 [.bool false,.slice none 0 0]]) (fun x=>[slF (rI .u32) p26 c27 (Big.digs ((Big.raw t l2).natAbs)),slF (rI .u32) p24 c25 (Big.digs ((Big.raw s l1).natAbs)),slF (rI .u32) p1 c1 l1,slF (rI .u32) p2 c2 l2]) (fun x:Nat×(List Int)×Int=>(Big.digs (Big.raw t l2).natAbs).length - x.1) (0,os,0) (show 0≤(Big.digs (Big.raw t l2).natAbs).length∧os.length=(Big.digs (Big.raw s l1).natAbs).length+(Big.digs (Big.raw t l2).natAbs).length∧Big.okL os∧0≤0∧0<1000000000∧(∀k,i+(Big.digs (Big.raw t l2).natAbs).length≤k→os.getD k 0=0)∧Big.valL os+Big.pw (i+0)*0=Big.valL ((Big.digs (Big.raw s l1).natAbs).take i)*Big.valL (Big.digs (Big.raw t l2).natAbs)+Big.pw i*(Big.digs (Big.raw s l1).natAbs).getD i 0*Big.valL ((Big.digs (Big.raw t l2).natAbs).take 0) from by exact ⟨by omega,hol,hok,by decide,by decide,hz,by rw [hv];simp [Big.valL]⟩) ((.c rfl (.e rfl (by first|rfl|(congr 1;omega)|simp_all) (.of rfl))):SubM _ _) (ho:=((.of [0,0,0,0] rfl):PickO _ _ _)) ((.of [0,1,2,3] rfl):SelR _ _ _) ?_
  rintro ⟨j,os2,cy⟩ hJ
  replace hJ:j≤(Big.digs (Big.raw t l2).natAbs).length∧os2.length=(Big.digs (Big.raw s l1).natAbs).length+(Big.digs (Big.raw t l2).natAbs).length∧Big.okL os2∧0≤cy∧cy<1000000000∧(∀k,i+(Big.digs (Big.raw t l2).natAbs).length≤k→os2.getD k 0=0)∧Big.valL os2+Big.pw (i+j)*cy=Big.valL ((Big.digs (Big.raw s l1).natAbs).take i)*Big.valL (Big.digs (Big.raw t l2).natAbs)+Big.pw i*(Big.digs (Big.raw s l1).natAbs).getD i 0*Big.valL ((Big.digs (Big.raw t l2).natAbs).take j):=hJ
  try dsimp only
  obtain ⟨hj,hol2,hok2,hcy0,hcy1,hz2,hv2⟩:=hJ
  have hg2:=Big.okL_getD hob j
  have hg3:=Big.okL_getD hok2 (i+j)
  have hpq:=Big.mul_lim hg1 hg2
  refine zi<|zi<|zc<|r_pv rfl rfl (za rfl)<|r_pv rfl rfl (zg Tryz.underlying30 rfl sz28 rfl rfl)<|r_u rfl rfl (zh 1 ty28 rfl rfl rfl)<|r_pv rfl rfl (zM Tryz.underlying28 rfl)<|r_pv rfl rfl (zda rfl rfl)<|zj<|ze<|zG rfl (fun h10=> ?_) (fun h10=> ?_)
  ·
   refine zB<|ze<|zi<|zA<|zi<|zea (OW:=[]) (O:=[rowA 111 (rI .u32) (some ⟨b8,0,none⟩) (((Big.digs ((Big.raw s l1).natAbs)).length)+((Big.digs ((Big.raw t l2).natAbs)).length)) os2,boxA b2 30 [.bool (decide ((Big.raw t l2)<0)),.slice p26 ((Big.digs ((Big.raw t l2).natAbs)).length) c27],boxA b1 30 [.bool (decide ((Big.raw s l1)<0)),.slice p24 ((Big.digs ((Big.raw s l1).natAbs)).length) c25],boxA b3 30 [.bool false,.slice none 0 0]]) 100000 mixed (.then (.block (.then (.then (.block (.then (.block (.then (.then (.block (.then .ret))))))))))) (by kernel_rfl)<|d_pv 0 rfl rfl (by kernel_rfl) (by kernel_rfl) rfl rfl (za rfl)<|d_pv 1 rfl rfl (by kernel_rfl) (by kernel_rfl) rfl rfl (za rfl)<|d_pv 2 rfl rfl (by kernel_rfl) (by kernel_rfl) rfl rfl (za rfl)<|d_pv 3 rfl rfl (by kernel_rfl) (by kernel_rfl) rfl rfl (zx (z:=(((i+j):Nat):Int)) rfl rfl (w64 (by omega)))<|d_pv 4 rfl rfl (by kernel_rfl) (by kernel_rfl) rfl rfl (zX (j:=(i+j)) Tryz.underlying28 sz111 rfl rfl rfl (by omega))<|d_vl 5 rfl rfl (by kernel_rfl) (by kernel_rfl) rfl rfl (zfa 0 (i+j) rfl ty111 rfl rfl (gD (d:=0) (by omega)) rfl) (fun _ hok11=> ?_)
   replace hok11:=zv.1 hok11
   refine d_pv 6 rfl rfl (by kernel_rfl) (by kernel_rfl) rfl rfl (zC (z:=(os2.getD (i+j) 0)) rfl (by rw [Tryz.underlying111];rfl) Tryz.underlying115 (wu64 (by omega)))<|d_pv 7 rfl rfl (by kernel_rfl) (by kernel_rfl) rfl rfl (zg Tryz.underlying30 rfl sz28 rfl rfl)<|d_u 8 rfl rfl (by kernel_rfl) (by kernel_rfl) rfl rfl (zh 2 ty28 rfl rfl rfl)<|d_pv 9 rfl rfl (by kernel_rfl) (by kernel_rfl) rfl rfl (za rfl)<|zga (x0:=((Big.digs ((Big.raw s l1).natAbs)).getD i 0)) 10 rfl rfl (by kernel_rfl) (by kernel_rfl) 1 i rfl Tryz.underlying28 sz111 rfl rfl rfl (by first|rfl|assumption|(simp;omega)|omega) rfl rfl (gD (d:=0) (by omega)) (fun b12 o13 hok14=> ?_)
   replace hok14:=zv.1 hok14
   refine d_u 11 rfl rfl (by kernel_rfl) (by kernel_rfl) rfl rfl (zk (j:=0) 0 ty111 rfl rfl rfl rfl)<|d_pv 12 rfl rfl (by kernel_rfl) (by kernel_rfl) rfl rfl (zC (z:=((Big.digs ((Big.raw s l1).natAbs)).getD i 0)) rfl (by rw [Tryz.underlying111];rfl) Tryz.underlying115 (wu64 (by omega)))<|d_pv 13 rfl rfl (by kernel_rfl) (by kernel_rfl) rfl rfl (zg Tryz.underlying30 rfl sz28 rfl rfl)<|d_u 14 rfl rfl (by kernel_rfl) (by kernel_rfl) rfl rfl (zh 1 ty28 rfl rfl rfl)<|d_pv 15 rfl rfl (by kernel_rfl) (by kernel_rfl) rfl rfl (za rfl)<|zga (x0:=((Big.digs ((Big.raw t l2).natAbs)).getD j 0)) 16 rfl rfl (by kernel_rfl) (by kernel_rfl) 1 j rfl Tryz.underlying28 sz111 rfl rfl rfl (by first|rfl|assumption|(simp;omega)|omega) rfl rfl (gD (d:=0) (by omega)) (fun b15 o16 hok17=> ?_)
   replace hok17:=zv.1 hok17
   refine d_u 17 rfl rfl (by kernel_rfl) (by kernel_rfl) rfl rfl (zk (j:=0) 0 ty111 rfl rfl rfl rfl)<|d_pv 18 rfl rfl (by kernel_rfl) (by kernel_rfl) rfl rfl (zC (z:=((Big.digs ((Big.raw t l2).natAbs)).getD j 0)) rfl (by rw [Tryz.underlying111];rfl) Tryz.underlying115 (wu64 (by omega)))<|d_pv 19 rfl rfl (by kernel_rfl) (by kernel_rfl) rfl rfl (zpa (z:=(((Big.digs ((Big.raw s l1).natAbs)).getD i 0)*((Big.digs ((Big.raw t l2).natAbs)).getD j 0))) rfl rfl (wu64 (by omega)))<|d_pv 20 rfl rfl (by kernel_rfl) (by kernel_rfl) rfl rfl (zx (z:=((os2.getD (i+j) 0)+(((Big.digs ((Big.raw s l1).natAbs)).getD i 0)*((Big.digs ((Big.raw t l2).natAbs)).getD j 0)))) rfl rfl (wu64 (by omega)))<|d_pv 21 rfl rfl (by kernel_rfl) (by kernel_rfl) rfl rfl (za rfl)<|d_pv 22 rfl rfl (by kernel_rfl) (by kernel_rfl) rfl rfl (zx (z:=(((os2.getD (i+j) 0)+(((Big.digs ((Big.raw s l1).natAbs)).getD i 0)*((Big.digs ((Big.raw t l2).natAbs)).getD j 0)))+cy)) rfl rfl (wu64 (by omega)))<|d_pv 23 rfl rfl (by kernel_rfl) (by kernel_rfl) rfl rfl (zd rfl)<|zba (by kernel_rfl)<|ze<|zi<|zc<|r_pv rfl rfl (za rfl)<|r_pv rfl rfl (za rfl)<|r_pv rfl rfl (za rfl)<|r_pv rfl rfl (zx (z:=(((i+j):Nat):Int)) rfl rfl (w64 (by omega)))<|r_pv rfl rfl (za rfl)<|r_pv rfl rfl (zWa (z:=((((os2.getD (i+j) 0)+(((Big.digs ((Big.raw s l1).natAbs)).getD i 0)*((Big.digs ((Big.raw t l2).natAbs)).getD j 0)))+cy)%1000000000)) rfl rfl (by omega) (remN (by omega) (by omega)))<|r_pv rfl rfl (zC (z:=((((os2.getD (i+j) 0)+(((Big.digs ((Big.raw s l1).natAbs)).getD i 0)*((Big.digs ((Big.raw t l2).natAbs)).getD j 0)))+cy)%1000000000)) rfl (by rw [Tryz.underlying115];rfl) Tryz.underlying111 (wu32 (by omega)))<|r_pv rfl rfl (zX (j:=(i+j)) Tryz.underlying28 sz111 rfl rfl rfl (by omega))<|zDa 0 rfl rfl rfl (zW (j:=(i+j)) (x0:=((((os2.getD (i+j) 0)+(((Big.digs ((Big.raw s l1).natAbs)).getD i 0)*((Big.digs ((Big.raw t l2).natAbs)).getD j 0)))+cy)%1000000000)) (γ0:=()) rfl rfl (by first|omega|(rw [List.length_map];omega)|(simp only [List.length_set];omega)|(simp;done)|(simp;omega)) rfl rfl sz111 (fun _ _=>by exact zv.2 (by omega))) (fun _=> .z) (fun _ _=> ?_)
   refine zj<|ze<|zc<|r_pv rfl rfl (za rfl)<|r_pv rfl rfl (zVa (z:=((((os2.getD (i+j) 0)+(((Big.digs ((Big.raw s l1).natAbs)).getD i 0)*((Big.digs ((Big.raw t l2).natAbs)).getD j 0)))+cy) / 1000000000)) rfl rfl (by omega) (by rw [quoN (z:=((((os2.getD (i+j) 0)+(((Big.digs ((Big.raw s l1).natAbs)).getD i 0)*((Big.digs ((Big.raw t l2).natAbs)).getD j 0)))+cy) / 1000000000)) (by omega) (by omega)];exact wu64 (by omega)))<|r_pv rfl rfl (zd rfl)<|zj<|zT<|ze<|zc<|r_pv rfl rfl (za rfl)<|r_pv rfl rfl (zx (z:=(((j+1):Nat):Int)) rfl rfl (w64 (by omega)))<|r_pv rfl rfl (zd rfl)<|zj<|zha ((j+1),os2.set (i+j) ((os2.getD (i+j) 0+(Big.digs (Big.raw s l1).natAbs).getD i 0*(Big.digs (Big.raw t l2).natAbs).getD j 0+cy)%1000000000),(os2.getD (i+j) 0+(Big.digs (Big.raw s l1).natAbs).getD i 0*(Big.digs (Big.raw t l2).natAbs).getD j 0+cy) / 1000000000) (show (j+1)≤(Big.digs (Big.raw t l2).natAbs).length∧(os2.set (i+j) ((os2.getD (i+j) 0+(Big.digs (Big.raw s l1).natAbs).getD i 0*(Big.digs (Big.raw t l2).natAbs).getD j 0+cy)%1000000000)).length=(Big.digs (Big.raw s l1).natAbs).length+(Big.digs (Big.raw t l2).natAbs).length∧Big.okL (os2.set (i+j) ((os2.getD (i+j) 0+(Big.digs (Big.raw s l1).natAbs).getD i 0*(Big.digs (Big.raw t l2).natAbs).getD j 0+cy)%1000000000))∧0≤((os2.getD (i+j) 0+(Big.digs (Big.raw s l1).natAbs).getD i 0*(Big.digs (Big.raw t l2).natAbs).getD j 0+cy) / 1000000000)∧((os2.getD (i+j) 0+(Big.digs (Big.raw s l1).natAbs).getD i 0*(Big.digs (Big.raw t l2).natAbs).getD j 0+cy) / 1000000000)<1000000000∧(∀k,i+(Big.digs (Big.raw t l2).natAbs).length≤k→(os2.set (i+j) ((os2.getD (i+j) 0+(Big.digs (Big.raw s l1).natAbs).getD i 0*(Big.digs (Big.raw t l2).natAbs).getD j 0+cy)%1000000000)).getD k 0=0)∧Big.valL (os2.set (i+j) ((os2.getD (i+j) 0+(Big.digs (Big.raw s l1).natAbs).getD i 0*(Big.digs (Big.raw t l2).natAbs).getD j 0+cy)%1000000000))+Big.pw (i+(j+1))*((os2.getD (i+j) 0+(Big.digs (Big.raw s l1).natAbs).getD i 0*(Big.digs (Big.raw t l2).natAbs).getD j 0+cy) / 1000000000)=Big.valL ((Big.digs (Big.raw s l1).natAbs).take i)*Big.valL (Big.digs (Big.raw t l2).natAbs)+Big.pw i*(Big.digs (Big.raw s l1).natAbs).getD i 0*Big.valL ((Big.digs (Big.raw t l2).natAbs).take (j+1)) from by exact ⟨by omega,by simpa using hol2,Big.okL_set hok2 (by omega) (by omega),by omega,by omega,fun k hk=>by rw [Big.getD_set_ne (by omega)];exact hz2 k (by omega),Big.mul_step hv2 (by omega) (by omega)⟩) (by show (Big.digs (Big.raw t l2).natAbs).length - (j+1)<(Big.digs (Big.raw t l2).natAbs).length - j;omega) ((.e rfl (by first|rfl|(congr 1;omega)|simp_all) (.of rfl)):SubM _ _) (ho:=((.e (i:=0) rfl (by first|rfl|(congr 1;omega)|simp_all) (.of [0,0,0] rfl)):PickO _ _ _)) ((.of [2,3,4,5] rfl):SelR _ _ _)
  ·
   have hjb:j=(Big.digs (Big.raw t l2).natAbs).length:=by omega
   subst hjb
   have hv3:=hv2
   refine zja<|zl<|zl<|zu<|ze<|zc<|r_pv rfl rfl (za rfl)<|r_pv rfl rfl (za rfl)<|r_pv rfl rfl (zg Tryz.underlying30 rfl sz28 rfl rfl)<|r_u rfl rfl (zh 1 ty28 rfl rfl rfl)<|r_pv rfl rfl (zM Tryz.underlying28 rfl)<|r_pv rfl rfl (zx (z:=(((i+((Big.digs ((Big.raw t l2).natAbs)).length)):Nat):Int)) rfl rfl (w64 (by omega)))<|r_pv rfl rfl (za rfl)<|r_pv rfl rfl (zC (z:=cy) rfl (by rw [Tryz.underlying115];rfl) Tryz.underlying111 (wu32 (by omega)))<|r_pv rfl rfl (zX (j:=(i+((Big.digs ((Big.raw t l2).natAbs)).length))) Tryz.underlying28 sz111 rfl rfl rfl (by omega))<|zDa 0 rfl rfl rfl (zW (j:=(i+((Big.digs ((Big.raw t l2).natAbs)).length))) (x0:=cy) (γ0:=()) rfl rfl (by first|omega|(rw [List.length_map];omega)|(simp only [List.length_set];omega)|(simp;done)|(simp;omega)) rfl rfl sz111 (fun _ _=>by exact zv.2 (by omega))) (fun _=> .z) (fun _ _=> ?_)
   refine zj<|zT<|ze<|zc<|r_pv rfl rfl (za rfl)<|r_pv rfl rfl (zx (z:=(((i+1):Nat):Int)) rfl rfl (w64 (by omega)))<|r_pv rfl rfl (zd rfl)<|zj<|zha ((i+1),os2.set (i+(Big.digs (Big.raw t l2).natAbs).length) cy) (show (i+1)≤(Big.digs (Big.raw s l1).natAbs).length∧(os2.set (i+(Big.digs (Big.raw t l2).natAbs).length) cy).length=(Big.digs (Big.raw s l1).natAbs).length+(Big.digs (Big.raw t l2).natAbs).length∧Big.okL (os2.set (i+(Big.digs (Big.raw t l2).natAbs).length) cy)∧(∀k,(i+1)+(Big.digs (Big.raw t l2).natAbs).length≤k→(os2.set (i+(Big.digs (Big.raw t l2).natAbs).length) cy).getD k 0=0)∧Big.valL (os2.set (i+(Big.digs (Big.raw t l2).natAbs).length) cy)=Big.valL ((Big.digs (Big.raw s l1).natAbs).take (i+1))*Big.valL (Big.digs (Big.raw t l2).natAbs) from by exact ⟨by omega,by simpa using hol2,Big.okL_set hok2 (by omega) (by omega),fun k hk=>by rw [Big.getD_set_ne (by omega)];exact hz2 k (by omega),Big.mul_round hv3 (by omega) (hz2 _ (Nat.le_refl _))⟩) (by show (Big.digs (Big.raw s l1).natAbs).length - (i+1)<(Big.digs (Big.raw s l1).natAbs).length - i;omega) ((.of rfl):SubM _ _) (ho:=((.e (i:=0) rfl (by first|rfl|(congr 1;omega)|simp_all) (.of [0,0,0] rfl)):PickO _ _ _)) ((.of [0,1,2,3] rfl):SelR _ _ _)
 ·
  have hia:i=(Big.digs (Big.raw s l1).natAbs).length:=by omega
  have hfin:Big.sg (decide (decide (Big.raw s l1<0)≠decide (Big.raw t l2<0))) (Big.valL os)=Big.raw s l1*Big.raw t l2:=by rw [hv,hia,List.take_length,Big.valL_digs,Big.valL_digs,←Int.natCast_mul,Big.sg_mul,Big.sg_big,Big.sg_big]
  refine zja<|zl<|zl<|zu<|ze<|zi<|zc<|r_pv rfl rfl (zg Tryz.underlying30 rfl sz4 rfl rfl)<|r_u rfl rfl (zh 2 ty4 rfl rfl rfl)<|r_pv rfl rfl (zg Tryz.underlying30 rfl sz4 rfl rfl)<|r_u rfl rfl (zh 1 ty4 rfl rfl rfl)<|r_pv rfl rfl (zFa Tryz.underlying4 rfl rfl)<|r_pv rfl rfl (za rfl)<|zna 0 rfl .z<|zy rfl rfl (.c rfl (.c rfl .n)) ce92 (zHa (s:=decide (decide ((Big.raw s l1)<0)≠decide ((Big.raw t l2)<0))) (p:=some ⟨b8,0,none⟩) (n:=(((Big.digs ((Big.raw s l1).natAbs)).length)+((Big.digs ((Big.raw t l2).natAbs)).length))) (cap:=(((Big.digs ((Big.raw s l1).natAbs)).length)+((Big.digs ((Big.raw t l2).natAbs)).length))) (l:=os) (hn:=by first|rfl|assumption|omega|(unfold Big.ln;omega)|(simp;done)|(simp;omega)|(simp_all;done)) (ho:=by exact hok) (hln:=by first|rfl|assumption|omega|(unfold Big.ln;omega)|(simp;done)|(simp;omega)|(simp_all;done))) (.c (j:=0) rfl .n) ?_
  rintro ⟨p218,c219⟩ -
  dsimp only [List.append_eq,List.nil_append,List.cons_append]
  refine zn 3 rfl rfl rfl rfl rfl sz30 rfl (.take (.take .nil)) (.s (.s (.s .z)))<|zj<|ze<|zI ?_
  exact zE Tryz.results69 (p218,c219) trivial (zt 3 ty30 rfl rfl (.take (.take .nil))) (by rw [hfin]) (ho:=(.n:PickO _ _ _)) ((.e (j:=0) rfl (by rw [hfin]) .n):SelR _ _ _)
theorem zUb {x1:Int} {x2:Int} {p1:Option Addr} {c1:Nat} {p2:Option Addr} {c2:Nat} (hb1:Big.ln x1≤1099511627776) (hb2:Big.ln x2≤1099511627776):Con Tryz.prog 69 [.agg #[.bool (decide ((x1)<0)),.slice (p1) ((Big.digs ((x1).natAbs)).length) (c1)],.agg #[.bool (decide ((x2)<0)),.slice (p2) ((Big.digs ((x2).natAbs)).length) (c2)]] [] [slF (rI .u32) (p1) (c1) (Big.digs ((x1).natAbs)),slF (rI .u32) (p2) (c2) (Big.digs ((x2).natAbs))] (Y:=(Option Addr)×(Nat)) (fun y=>True) (fun y=> .agg #[.bool (decide ((x1*x2)<0)),.slice (y.1) ((Big.digs ((x1*x2).natAbs)).length) (y.2)]) (fun y=>[]) (fun y=>[slF (rI .u32) (y.1) (y.2) (Big.digs ((x1*x2).natAbs))]):=by
  have h:= @zuf (decide ((x1)<0)) p1 (Big.digs (x1).natAbs).length c1 (Big.digs (x1).natAbs) (decide ((x2)<0)) p2 (Big.digs (x2).natAbs).length c2 (Big.digs (x2).natAbs) rfl rfl hb1 hb2
  rw [Big.raw_big,Big.raw_big] at h
  exact h
theorem zEb {w1:Wd} {w2:Wd} {x1:Int} {x2:Int} (hb1:Big.ln x1≤1099511627776) (hb2:Big.ln x2≤1099511627776):Con Tryz.prog 69 [.agg #[w1.b,w1.l],.agg #[w2.b,w2.l]] [] [zF w1 (x1),zF w2 (x2)] (Y:=(Wd)) (fun y=>True) (fun y=> .agg #[y.b,y.l]) (fun y=>[]) (fun y=>[zF y (x1*x2)]):=by
  exact zJb (zcc (fun p1 c1 p2 c2=>zUb hb1 hb2))
end Go.Proofs.YtkamccndgblheaaGreat.Sp
namespace Go.Proofs.YtkamccndgblheaaGreat.Sp
open Go
set_option linter.unusedVariables false
set_option maxRecDepth 100000
set_option maxHeartbeats 1000000
theorem zKb {a:Nat} {d:Nat} {p0:Option Addr} {cap:Nat} (hb:(Big.digs a).length≤1099511627776) (hd:d<1000000000):Con Tryz.prog 116 [.slice p0 ((Big.digs a).length) cap,.int .u64 ((d:Nat):Int)] [] [slF (rI .u32) p0 cap (Big.digs a)] (Y:=(Option Addr)×Nat) (fun y=>True) (fun y=> .slice (y.1) ((Big.digs (a*d)).length) (y.2)) (fun y=>[]) (fun y=>[slF (rI .u32) (y.1) (y.2) (Big.digs (a*d))]):=by
 refine zq Tryz.func116 rfl rfl rfl (fun c=> ?_)
 show RunC _ _ _ _ _ [(0,.slice p0 ((Big.digs a).length) cap),(1,.int .u64 ((d:Nat):Int))] [] [slF (rI .u32) p0 cap (Big.digs a)]
 refine zY 0 rfl (fun hL0=> ?_)
 refine zi<|zc<|r_pv rfl rfl (zd rfl)<|zj<|ze<|zi<|zc<|zza rfl rfl (zua (rI .u32) Tryz.underlying28 inf111) (fun b1 _=> ?_)
 refine r_pv rfl rfl (zd rfl)<|zj<|ze<|zi<|zc<|r_pv rfl rfl (zd rfl)<|zj<|ze<|zi<|zi<|zc<|r_pv rfl rfl (zd rfl)<|zj<|ze<|zA<|zka (X:=Nat×(Option Addr)×Nat×(List Int)×Int) (fun x:Nat×(Option Addr)×Nat×(List Int)×Int=>Big.ScI (Big.digs a) (d:Int) x.1 x.2.2.2.1 x.2.2.2.2) (fun x=>[(6,.int .u64 (x.2.2.2.2)),(5,.slice (x.2.1) (x.2.2.2.1.length) (x.2.2.1)),(7,.int .i64 ((x.1:Nat):Int)),(4,.slice none 0 0),(0,.slice p0 ((Big.digs a).length) cap),(1,.int .u64 ((d:Nat):Int))]) (fun x=>[rowA 111 (rI .u32) (x.2.1) (x.2.2.1) (x.2.2.2.1)]) (fun x=>[slF (rI .u32) p0 cap (Big.digs a)]) (fun x:Nat×(Option Addr)×Nat×(List Int)×Int=>(Big.digs a).length - x.1) (0,some ⟨b1,0,none⟩,0,[],0) (show Big.ScI (Big.digs a) (d:Int) 0 ([]) 0 from by exact Big.ScI.start _ _) ((.c rfl (.e rfl (by first|rfl|(congr 1;omega)|simp_all) (.e rfl (by first|rfl|(congr 1;omega)|simp_all) (.of rfl)))):SubM _ _) (ho:=((.c (i:=0) rfl .n):PickO _ _ _)) ((.c (j:=0) rfl .n):SelR _ _ _) ?_
 rintro ⟨i,p,c,os,cy⟩ hI
 replace hI:Big.ScI (Big.digs a) (d:Int) i os cy:=hI
 try dsimp only
 have hi:=hI.le
 have hol:=hI.len
 have hc0:=hI.c0
 have hc1:=hI.c1
 have hg:=Big.okL_getD (Big.digs_ok a) i
 have hsl:=Big.sc_lim hg (show 0≤(d:Int)∧(d:Int)<1000000000 by omega) ⟨hc0,hc1⟩
 refine zi<|zi<|zc<|r_pv rfl rfl (za rfl)<|r_pv rfl rfl (za rfl)<|r_pv rfl rfl (zM Tryz.underlying28 rfl)<|r_pv rfl rfl (zda rfl rfl)<|zj<|ze<|zG rfl (fun h2=> ?_) (fun h2=> ?_)
 ·
  refine zB<|ze<|zi<|zA<|zi<|zc<|r_pv rfl rfl (za rfl)<|r_pv rfl rfl (za rfl)<|zU (x0:=((Big.digs a).getD i 0)) 0 i rfl Tryz.underlying28 sz111 rfl rfl rfl (by first|rfl|assumption|(simp;done)|(simp;omega)|omega) rfl rfl (gD (d:=0) (by omega)) (fun b3 o4 hok5=> ?_)
  replace hok5:=zv.1 hok5
  refine r_u rfl rfl (zk (j:=0) 0 ty111 rfl rfl rfl rfl)<|r_pv rfl rfl (zC (z:=((Big.digs a).getD i 0)) rfl (by rw [Tryz.underlying111];rfl) Tryz.underlying115 (wu64 (by omega)))<|r_pv rfl rfl (za rfl)<|r_pv rfl rfl (zpa (z:=(((Big.digs a).getD i 0)*((d:Nat):Int))) rfl rfl (wu64 (by omega)))<|r_pv rfl rfl (za rfl)<|r_pv rfl rfl (zx (z:=((((Big.digs a).getD i 0)*((d:Nat):Int))+cy)) rfl rfl (wu64 (by omega)))<|r_pv rfl rfl (zd rfl)<|zj<|ze<|zi<|zc<|r_pv rfl rfl (za rfl)<|r_pv rfl rfl (za rfl)<|r_pv rfl rfl (zWa (z:=(((((Big.digs a).getD i 0)*((d:Nat):Int))+cy)%1000000000)) rfl rfl (by omega) (remN (by omega) (by omega)))<|r_pv rfl rfl (zC (z:=(((((Big.digs a).getD i 0)*((d:Nat):Int))+cy)%1000000000)) rfl (by rw [Tryz.underlying115];rfl) Tryz.underlying111 (wu32 (by omega)))<|zza rfl rfl (zV (enc:=fun z:Int=>[.int .u32 z]) (ok:=InK .u32) (h1:=fun _=>rfl) (h2:=fun _=>rfl) (k:=1) Tryz.underlying28 inf111 rfl (by decide) (by decide) (by decide) (.c (x:=(((((Big.digs a).getD i 0)*((d:Nat):Int))+cy)%1000000000)) rfl rfl (fun _ _=>by exact zv.2 (by omega)) .n)) (fun b6 _=> ?_)
  refine zna 0 rfl .z<|zDa 1 rfl rfl rfl (zxa 0 rfl Tryz.underlying28 inf111 (by decide) rfl rfl (by first|rfl|assumption|(simp;done)|(simp;omega)|omega) rfl (by first|rfl|assumption|(simp;done)|(simp;omega)|omega) (by omega) (by omega)) (fun _=>(.s .z)) ?_
  rintro ⟨p7,c8⟩ -
  dsimp only [List.append_eq,List.nil_append,List.cons_append]
  refine r_pv rfl rfl (zd rfl)<|zj<|ze<|zc<|r_pv rfl rfl (za rfl)<|r_pv rfl rfl (zVa (z:=(((((Big.digs a).getD i 0)*((d:Nat):Int))+cy) / 1000000000)) rfl rfl (by omega) (by rw [quoN (z:=(((((Big.digs a).getD i 0)*((d:Nat):Int))+cy) / 1000000000)) (by omega) (by omega)];exact wu64 (by omega)))<|r_pv rfl rfl (zd rfl)<|zj<|zT<|ze<|zc<|r_pv rfl rfl (za rfl)<|r_pv rfl rfl (zx (z:=(((i+1):Nat):Int)) rfl rfl (w64 (by omega)))<|r_pv rfl rfl (zd rfl)<|zj<|zha ((i+1),p7,c8,os++[((Big.digs a).getD i 0*(d:Int)+cy)%1000000000],((Big.digs a).getD i 0*(d:Int)+cy) / 1000000000) (show Big.ScI (Big.digs a) (d:Int) (i+1) (os++[((Big.digs a).getD i 0*(d:Int)+cy)%1000000000]) (((Big.digs a).getD i 0*(d:Int)+cy) / 1000000000) from by exact hI.step (Big.digs_ok a) (by omega) (by omega)) (by show (Big.digs a).length - (i+1)<(Big.digs a).length - i;omega) ((.e rfl (by first|rfl|(congr 1;omega)|simp_all) (.e rfl (by simp) (.of rfl))):SubM _ _) (ho:=((.e (i:=1) rfl (by first|rfl|(congr 1;omega)|simp_all) .n):PickO _ _ _)) ((.c (j:=2) rfl .n):SelR _ _ _)
 ·
  obtain ⟨hok2,hfin⟩:=hI.fin (by omega)
  refine zja<|zl<|zl<|zu<|ze<|zi<|zc<|r_pv rfl rfl (za rfl)<|r_pv rfl rfl (za rfl)<|r_pv rfl rfl (zC (z:=cy) rfl (by rw [Tryz.underlying115];rfl) Tryz.underlying111 (wu32 (by omega)))<|zza rfl rfl (zV (enc:=fun z:Int=>[.int .u32 z]) (ok:=InK .u32) (h1:=fun _=>rfl) (h2:=fun _=>rfl) (k:=1) Tryz.underlying28 inf111 rfl (by decide) (by decide) (by decide) (.c (x:=cy) rfl rfl (fun _ _=>by exact zv.2 (by omega)) .n)) (fun b9 _=> ?_)
  refine zna 0 rfl .z<|zDa 1 rfl rfl rfl (zxa 0 rfl Tryz.underlying28 inf111 (by decide) rfl rfl (by first|rfl|assumption|(simp;done)|(simp;omega)|omega) rfl (by first|rfl|assumption|(simp;done)|(simp;omega)|omega) (by omega) (by omega)) (fun _=>(.s .z)) ?_
  rintro ⟨p10,c11⟩ -
  dsimp only [List.append_eq,List.nil_append,List.cons_append]
  refine zna 1 rfl (.s .z)<|zy rfl rfl (.c rfl (.c rfl .n)) ce92 (zHa (s:=false) (p:=p10) (n:=os.length+1) (cap:=c11) (l:=(os++([cy]))) (hn:=by first|rfl|omega|(simp;done)|(simp;omega)) (ho:=by exact hok2) (hln:=by first|rfl|omega|(simp;done)|(simp;omega))) (.c (j:=0) rfl .n) ?_
  rintro ⟨p212,c213⟩ -
  dsimp only [List.append_eq,List.nil_append,List.cons_append]
  refine r_pv rfl rfl (zwa Tryz.underlying30 rfl ty28 rfl rfl)<|r_pv rfl rfl (zd rfl)<|zj<|ze<|zI ?_
  have hz:(Big.sg false (Big.valL (os++[cy]))).natAbs=a*d:=by rw [hfin];exact Int.natAbs_natCast _
  exact zE Tryz.results116 (p212,c213) trivial (zo rfl) (by rw [hz]) (ho:=(.n:PickO _ _ _)) ((.e (j:=0) rfl (by rw [hz]) .n):SelR _ _ _)
theorem ztd {a:Nat} {d:Nat} {p0:Option Addr} {cap:Nat} (hb:(Big.digs a).length≤1099511627776) (hd:d<1000000000):Con Tryz.prog 117 [.slice p0 ((Big.digs a).length) cap,.int .u32 ((d:Nat):Int)] [] [slF (rI .u32) p0 cap (Big.digs a)] (Y:=(Option Addr)×Nat) (fun y=>True) (fun y=> .slice (y.1) ((Big.digs (a*1000000000+d)).length) (y.2)) (fun y=>[]) (fun y=>[slF (rI .u32) (y.1) (y.2) (Big.digs (a*1000000000+d))]):=by
 refine zq Tryz.func117 rfl rfl rfl (fun c=> ?_)
 show RunC _ _ _ _ _ [(0,.slice p0 ((Big.digs a).length) cap),(1,.int .u32 ((d:Nat):Int))] [] [slF (rI .u32) p0 cap (Big.digs a)]
 refine zY 0 rfl (fun hL0=> ?_)
 have hok2:Big.okL ([((d:Nat):Int)]++Big.digs a):=Big.okL_cons.2 ⟨by omega,Big.digs_ok a⟩
 have hz:(Big.sg false (Big.valL (((d:Nat):Int) :: Big.digs a))).natAbs=a*1000000000+d:=by rw [Big.sg_abs (Big.valL_nonneg (l:=((d:Nat):Int) :: Big.digs a) hok2)];simp only [Big.valL,Big.valL_digs];omega
 refine zi<|zc<|r_pv rfl rfl (zd rfl)<|zj<|ze<|zi<|zc<|r_pv rfl rfl (za rfl)<|zza rfl rfl (zV (enc:=fun z:Int=>[.int .u32 z]) (ok:=InK .u32) (h1:=fun _=>rfl) (h2:=fun _=>rfl) (k:=1) Tryz.underlying28 inf111 rfl (by decide) (by decide) (by decide) (.c (x:=((d:Nat):Int)) rfl rfl (fun _ _=>by exact zv.2 (by omega)) .n)) (fun b1 _=> ?_)
 refine r_pv rfl rfl (za rfl)<|zDa 0 rfl rfl rfl (zxa 0 rfl Tryz.underlying28 inf111 (by decide) rfl rfl (by first|rfl|assumption|(simp;done)|(simp;omega)|omega) rfl (by first|rfl|assumption|(simp;done)|(simp;omega)|omega) (by omega) (by omega)) (fun _=> .z) ?_
 rintro ⟨p2,c3⟩ -
 dsimp only [List.append_eq,List.nil_append,List.cons_append]
 refine zna 0 rfl .z<|zy rfl rfl (.c rfl (.c rfl .n)) ce92 (zHa (s:=false) (p:=p2) (n:=1+((Big.digs a).length)) (cap:=c3) (l:=(([((d:Nat):Int)])++(Big.digs a))) (hn:=by first|rfl|omega|(simp;done)|(simp;omega)) (ho:=by exact hok2) (hln:=by first|rfl|omega|(simp;done)|(simp;omega))) (.c (j:=0) rfl .n) ?_
 rintro ⟨p24,c25⟩ -
 dsimp only [List.append_eq,List.nil_append,List.cons_append]
 refine r_pv rfl rfl (zwa Tryz.underlying30 rfl ty28 rfl rfl)<|r_pv rfl rfl (zd rfl)<|zj<|ze<|zI ?_
 exact zE Tryz.results117 (p24,c25) trivial (zo rfl) (by rw [hz]) (ho:=(.n:PickO _ _ _)) ((.e (j:=0) rfl (by rw [hz]) .n):SelR _ _ _)
theorem zGc {a:Nat} {mm:Nat} {p:Option Addr} {cap:Nat} (hb:(Big.digs a).length≤1099511627776) (hm0:0<mm) (hm1:mm≤1000000000):Con Tryz.prog 114 [.slice p ((Big.digs a).length) cap,.int .u64 ((mm:Nat):Int)] [] [slF (rI .u32) p cap (Big.digs a)] (Y:=(Option Addr)×Nat) (fun y=>True) (fun y=> .tuple #[.slice (y.1) ((Big.digs (a / mm)).length) (y.2),.int .u64 (((a%mm):Nat):Int)]) (fun y=>[]) (fun y=>[slF (rI .u32) (y.1) (y.2) (Big.digs (a / mm))]):=by
 refine zq Tryz.func114 rfl rfl rfl (fun c=> ?_)
 show RunC _ _ _ _ _ [(0,.slice p ((Big.digs a).length) cap),(1,.int .u64 ((mm:Nat):Int))] [] [slF (rI .u32) p cap (Big.digs a)]
 refine zY 0 rfl (fun hL0=> ?_)
 refine zi<|zc<|r_pv rfl rfl (zd rfl)<|r_pv rfl rfl (zd rfl)<|zj<|ze<|zi<|zc<|r_pv rfl rfl (za rfl)<|r_pv rfl rfl (zM Tryz.underlying28 rfl)<|zza rfl rfl (zIa (r:=rI .u32) (k:=(Big.digs a).length) (x0:=0) (γ0:=()) Tryz.underlying28 inf111 rfl rfl rfl rfl (by omega) (by omega) rfl (fun _ _=>by exact zv.2 (by decide)) (by decide)) (fun b1 _=> ?_)
 refine r_pv rfl rfl (zd rfl)<|zj<|ze<|zi<|zc<|r_pv rfl rfl (zd rfl)<|zj<|ze<|zi<|zi<|zc<|r_pv rfl rfl (za rfl)<|r_pv rfl rfl (zM Tryz.underlying28 rfl)<|r_pv rfl rfl (zaa (z:=((((Big.digs a).length:Nat):Int) - 1)) rfl rfl (w64 (by omega)))<|r_pv rfl rfl (zd rfl)<|zj<|ze<|zA<|zka (X:=Nat×(List Int)×(List Int)×Int) (fun x:Nat×(List Int)×(List Int)×Int=>x.2.1=List.replicate x.1 0++x.2.2.1∧Big.ShI (Big.digs a) (mm:Int) x.1 x.2.2.1 x.2.2.2) (fun x=>[(7,.int .u64 (x.2.2.2)),(8,.int .i64 (((x.1:Nat):Int) - 1)),(6,.slice (some ⟨b1,0,none⟩) ((Big.digs a).length) ((Big.digs a).length)),(5,.int .u64 0),(4,.slice none 0 0),(0,.slice p ((Big.digs a).length) cap),(1,.int .u64 ((mm:Nat):Int))]) (fun x=>[rowA 111 (rI .u32) (some ⟨b1,0,none⟩) ((Big.digs a).length) (x.2.1)]) (fun x=>[slF (rI .u32) p cap (Big.digs a)]) (fun x:Nat×(List Int)×(List Int)×Int=>x.1) ((Big.digs a).length,(List.replicate (Big.digs a).length 0),([]:List Int),(0:Int)) (show (List.replicate (Big.digs a).length 0)=List.replicate ((Big.digs a).length) 0++([]:List Int)∧Big.ShI (Big.digs a) (mm:Int) ((Big.digs a).length) ([]:List Int) (0:Int) from by exact ⟨by simp,Big.ShI.start (by omega)⟩) ((.e rfl (by first|rfl|(congr 1;omega)|simp_all) (.e rfl (by first|rfl|(congr 1;omega)|simp_all) (.of rfl))):SubM _ _) (ho:=((.e (i:=0) rfl (by first|rfl|(congr 1;omega)|simp_all) .n):PickO _ _ _)) ((.c (j:=0) rfl .n):SelR _ _ _) ?_
 rintro ⟨jj,os,qs,z⟩ hI
 replace hI:os=List.replicate jj 0++qs∧Big.ShI (Big.digs a) (mm:Int) jj qs z:=hI
 try dsimp only
 obtain ⟨hos,hS⟩:=hI
 have hz0:=hS.r0
 have hz1:=hS.r1
 have hkle:=hS.le
 refine zi<|zi<|zc<|r_pv rfl rfl (za rfl)<|r_pv rfl rfl (zMa rfl rfl)<|zj<|ze<|zG rfl (fun h2=> ?_) (fun h2=> ?_)
 ·
  obtain ⟨k,rfl⟩:∃k,jj=k+1:=⟨jj - 1,by omega⟩
  have e3:(((((k+1):Nat):Int) - 1):Int)=((k:Nat):Int):=by omega
  rw [e3]
  have hosl:os.length=(Big.digs a).length:=by rw [hos,List.length_append,List.length_replicate,hS.len];omega
  have hg:=Big.okL_getD (Big.digs_ok a) k
  have hdg:=Big.sh_digit hz0 hz1 hg
  have hrm:=Int.emod_lt_of_pos (z*1000000000+(Big.digs a).getD k 0) (show 0<(mm:Int) by omega)
  have hrm0:=Int.emod_nonneg (z*1000000000+(Big.digs a).getD k 0) (show (mm:Int)≠0 by omega)
  refine zB<|ze<|zi<|zA<|zi<|zc<|r_pv rfl rfl (za rfl)<|r_pv rfl rfl (zpa (z:=(z*1000000000)) rfl rfl (wu64 (by omega)))<|r_pv rfl rfl (za rfl)<|r_pv rfl rfl (za rfl)<|zU (x0:=((Big.digs a).getD k 0)) 0 k rfl Tryz.underlying28 sz111 rfl rfl rfl (by first|rfl|assumption|(simp;done)|(simp;omega)|omega) rfl rfl (gD (d:=0) (by omega)) (fun b4 o5 hok6=> ?_)
  replace hok6:=zv.1 hok6
  refine r_u rfl rfl (zk (j:=0) 0 ty111 rfl rfl rfl rfl)<|r_pv rfl rfl (zC (z:=((Big.digs a).getD k 0)) rfl (by rw [Tryz.underlying111];rfl) Tryz.underlying115 (wu64 (by omega)))<|r_pv rfl rfl (zx (z:=((z*1000000000)+((Big.digs a).getD k 0))) rfl rfl (wu64 (by omega)))<|r_pv rfl rfl (zd rfl)<|zj<|ze<|zi<|zc<|r_pv rfl rfl (za rfl)<|r_pv rfl rfl (za rfl)<|r_pv rfl rfl (za rfl)<|r_pv rfl rfl (za rfl)<|r_pv rfl rfl (zVa (z:=(((z*1000000000)+((Big.digs a).getD k 0)) / ((mm:Nat):Int))) rfl rfl (by omega) (by rw [quoN (z:=(((z*1000000000)+((Big.digs a).getD k 0)) / ((mm:Nat):Int))) (by omega) (by omega)];exact wu64 (by omega)))<|r_pv rfl rfl (zC (z:=(((z*1000000000)+((Big.digs a).getD k 0)) / ((mm:Nat):Int))) rfl (by rw [Tryz.underlying115];rfl) Tryz.underlying111 (wu32 (by omega)))<|r_pv rfl rfl (zX (j:=k) Tryz.underlying28 sz111 rfl rfl rfl (by omega))<|zDa 0 rfl rfl rfl (zW (j:=k) (x0:=(((z*1000000000)+((Big.digs a).getD k 0)) / ((mm:Nat):Int))) (γ0:=()) rfl rfl (by first|omega|(rw [List.length_map];omega)|(simp only [List.length_set];omega)|(simp;done)|(simp;omega)) rfl rfl sz111 (fun _ _=>by exact zv.2 (by omega))) (fun _=> .z) (fun _ _=> ?_)
  refine zj<|ze<|zc<|r_pv rfl rfl (za rfl)<|r_pv rfl rfl (za rfl)<|r_pv rfl rfl (zWa (z:=(((z*1000000000)+((Big.digs a).getD k 0))%((mm:Nat):Int))) rfl rfl (by omega) (remN (by omega) (by omega)))<|r_pv rfl rfl (zd rfl)<|zj<|zT<|ze<|zc<|r_pv rfl rfl (za rfl)<|r_pv rfl rfl (zaa (z:=(((k:Nat):Int) - 1)) rfl rfl (w64 (by omega)))<|r_pv rfl rfl (zd rfl)<|zj<|zha (k,(os.set k (((z*1000000000)+((Big.digs a).getD k 0)) / ((mm:Nat):Int))),((z*1000000000+(Big.digs a).getD k 0) / (mm:Int) :: qs),((z*1000000000+(Big.digs a).getD k 0)%(mm:Int))) (show (os.set k (((z*1000000000)+((Big.digs a).getD k 0)) / ((mm:Nat):Int)))=List.replicate k 0++((z*1000000000+(Big.digs a).getD k 0) / (mm:Int) :: qs)∧Big.ShI (Big.digs a) (mm:Int) k ((z*1000000000+(Big.digs a).getD k 0) / (mm:Int) :: qs) ((z*1000000000+(Big.digs a).getD k 0)%(mm:Int)) from by exact ⟨by rw [hos];exact Big.pad_set _,hS.step (Big.digs_ok a)⟩) (by show k<k+1;omega) ((.e rfl (by first|rfl|(congr 1;omega)|simp_all) (.of rfl)):SubM _ _) (ho:=((.c (i:=0) rfl .n):PickO _ _ _)) ((.c (j:=1) rfl .n):SelR _ _ _)
 ·
  have hj0:jj=0:=by omega
  have hS0:Big.ShI (Big.digs a) (mm:Int) 0 qs z:=hj0 ▸ hS
  obtain ⟨hf1,hf2⟩:=hS0.fin
  have hoq:os=qs:=by rw [hos,hj0];rfl
  have hok2:Big.okL os:=by rw [hoq];exact hS.ok
  have hosl:os.length=(Big.digs a).length:=by rw [hoq,hS0.len];omega
  have hz9:(Big.sg false (Big.valL os)).natAbs=a / mm:=by rw [hoq,Big.sg_abs (Big.valL_nonneg hS.ok),←Big.valL_trim,hf1,Big.valL_digs];exact Int.toNat_natCast _
  refine zja<|zl<|zl<|zu<|ze<|zi<|zc<|r_pv rfl rfl (za rfl)<|zna 0 rfl .z<|zy rfl rfl (.c rfl (.c rfl .n)) ce92 (zHa (s:=false) (p:=some ⟨b1,0,none⟩) (n:=(Big.digs a).length) (cap:=(Big.digs a).length) (l:=os) (hn:=by first|rfl|omega|(simp;done)|(simp;omega)) (ho:=by exact hok2) (hln:=by first|rfl|omega|(simp;done)|(simp;omega))) (.c (j:=0) rfl .n) ?_
  rintro ⟨p27,c28⟩ -
  dsimp only [List.append_eq,List.nil_append,List.cons_append]
  refine r_pv rfl rfl (zwa Tryz.underlying30 rfl ty28 rfl rfl)<|r_pv rfl rfl (za rfl)<|r_pv rfl rfl (zd rfl)<|r_pv rfl rfl (zd rfl)<|zj<|ze<|zI ?_
  exact zBa Tryz.results114 (p27,c28) trivial (zo rfl) (zo rfl) (by rw [hz9,hf2]) (ho:=(.n:PickO _ _ _)) ((.e (j:=0) rfl (by rw [hz9]) .n):SelR _ _ _)
theorem zud {a:Nat} {p:Option Addr} {cap:Nat} (hb:(Big.digs a).length≤2):Con Tryz.prog 93 [.slice p ((Big.digs a).length) cap] [] [slF (rI .u32) p cap (Big.digs a)] (Y:=Unit) (fun y=>True) (fun y=> .int .u64 ((a:Nat):Int)) (fun y=>[]) (fun y=>[]):=by
 refine zq Tryz.func93 rfl rfl rfl (fun c=> ?_)
 show RunC _ _ _ _ _ [(0,.slice p ((Big.digs a).length) cap)] [] [slF (rI .u32) p cap (Big.digs a)]
 refine zY 0 rfl (fun hL0=> ?_)
 have hpv:=Big.pair_val hb
 have hg0:=Big.okL_getD (Big.digs_ok a) 0
 have hg1:=Big.okL_getD (Big.digs_ok a) 1
 refine zi<|zc<|r_pv rfl rfl (zd rfl)<|zj<|ze<|zi<|zc<|r_pv rfl rfl (za rfl)<|zN rfl rfl (.c rfl (.c rfl .n)) ce118 (zSa (p:=p) (n:=(Big.digs a).length) (cap:=cap) (l:=Big.digs a) (i:=1) (hn:=by first|rfl|assumption|omega|(simp;done)|(simp;omega)|(simp_all;done)) (hi:=by first|rfl|assumption|omega|(simp;done)|(simp;omega)|(simp_all;done))) (.c (j:=0) rfl .n)<|r_pv rfl rfl (zpa (z:=((Big.digs a).getD 1 0*1000000000)) rfl rfl (wu64 (by omega)))<|r_pv rfl rfl (za rfl)<|zN rfl rfl (.c rfl (.c rfl .n)) ce118 (zSa (p:=p) (n:=(Big.digs a).length) (cap:=cap) (l:=Big.digs a) (i:=0) (hn:=by first|rfl|assumption|omega|(simp;done)|(simp;omega)|(simp_all;done)) (hi:=by first|rfl|assumption|omega|(simp;done)|(simp;omega)|(simp_all;done))) (.c (j:=0) rfl .n)<|r_pv rfl rfl (zx (z:=(((Big.digs a).getD 1 0*1000000000)+(Big.digs a).getD 0 0)) rfl rfl (wu64 (by omega)))<|r_pv rfl rfl (zd rfl)<|zj<|ze<|zI ?_
 exact zE Tryz.results93 () trivial (zo rfl) (by rw [hpv]) (ho:=(.n:PickO _ _ _)) (.n:SelR _ _ _)
end Go.Proofs.YtkamccndgblheaaGreat.Sp
namespace Go.Proofs.YtkamccndgblheaaGreat.Sp
open Go
set_option linter.unusedVariables false
set_option maxRecDepth 100000
set_option maxHeartbeats 1000000
theorem zHc {a:Nat} {b:Nat} {p1:Option Addr} {c1:Nat} {p2:Option Addr} {c2:Nat} (hb1:(Big.digs a).length≤549755813888) (hb2:(Big.digs b).length≤549755813888) (hb0:0<b):Con Tryz.prog 91 [.slice p1 ((Big.digs a).length) c1,.slice p2 ((Big.digs b).length) c2] [] [slF (rI .u32) p1 c1 (Big.digs a),slF (rI .u32) p2 c2 (Big.digs b)] (Y:=(Option Addr)×Nat×(Option Addr)×Nat) (fun y=>True) (fun y=> .tuple #[.slice (y.1) ((Big.digs (a / b)).length) (y.2.1),.slice (y.2.2.1) ((Big.digs (a%b)).length) (y.2.2.2)]) (fun y=>[]) (fun y=>[slF (rI .u32) (y.1) (y.2.1) (Big.digs (a / b)),slF (rI .u32) (y.2.2.1) (y.2.2.2) (Big.digs (a%b))]):=by
 refine zq Tryz.func91 rfl rfl rfl (fun c=> ?_)
 show RunC _ _ _ _ _ [(0,.slice p1 ((Big.digs a).length) c1),(1,.slice p2 ((Big.digs b).length) c2)] [] [slF (rI .u32) p1 c1 (Big.digs a),slF (rI .u32) p2 c2 (Big.digs b)]
 refine zY 0 rfl (fun hL0=> ?_)
 refine zY 1 rfl (fun hL1=> ?_)
 have hln0:=Big.zHe hb0
 have hob:=Big.okL_getD (Big.digs_ok b) 0
 have hob1:=Big.okL_getD (Big.digs_ok b) ((Big.digs b).length - 1)
 have hdv:=Big.ln_mono' (Nat.div_le_self a b)
 have hdm:=Nat.mod_lt a hb0
 refine zi<|zc<|r_pv rfl rfl (zd rfl)<|r_pv rfl rfl (zd rfl)<|zj<|ze<|zi<|zc<|r_pv rfl rfl (za rfl)<|r_pv rfl rfl (zM Tryz.underlying28 rfl)<|r_pv rfl rfl (zd rfl)<|zj<|ze<|zi<|zi<|zc<|r_pv rfl rfl (za rfl)<|r_pv rfl rfl (zva rfl rfl)<|zj<|ze<|zG rfl (fun hl1=> ?_) (fun hl1=> ?_)
 ·
  have hbd:=Big.one_digit (by omega:(Big.digs b).length=1)
  have hbl:b<1000000000:=by omega
  have hokt:Big.okL [((a%b:Nat):Int)]:=Big.okL_cons.2 ⟨by omega,Big.okL_nil⟩
  have hz3:=Big.made_nat hokt (show Big.valL [((a%b:Nat):Int)]=((a%b:Nat):Int) by simp only [Big.valL];omega)
  refine zi<|zc<|r_pv rfl rfl (za rfl)<|r_pv rfl rfl (za rfl)<|zU (x0:=((Big.digs b).getD 0 0)) 1 0 rfl Tryz.underlying28 sz111 rfl rfl rfl (by first|rfl|assumption|(simp;done)|(simp;omega)|omega) rfl rfl (gD (d:=0) (by omega)) (fun b1 o2 hok3=> ?_)
  replace hok3:=zv.1 hok3
  refine r_u rfl rfl (zk (j:=0) 0 ty111 rfl rfl rfl rfl)<|r_pv rfl rfl (zC (z:=((Big.digs b).getD 0 0)) rfl (by rw [Tryz.underlying111];rfl) Tryz.underlying115 (wu64 (by omega))) ?_
  have e4:(((Big.digs b).getD 0 0):Int)=((b:Nat):Int):=by exact hbd
  rw [e4]
  refine zy rfl rfl (.c rfl (.c rfl .n)) ce114 (zGc (a:=a) (mm:=b) (p:=p1) (cap:=c1) (hb:=by first|rfl|assumption|omega|(simp;done)) (hm0:=by assumption) (hm1:=by first|rfl|assumption|omega|(simp;done))) (.c (j:=1) rfl .n) ?_
  rintro ⟨p25,c26⟩ -
  dsimp only [List.append_eq,List.nil_append,List.cons_append]
  refine r_pv rfl rfl (za rfl)<|r_pv rfl rfl (zr rfl rfl)<|r_pv rfl rfl (zr rfl rfl)<|r_pv rfl rfl (zd rfl)<|r_pv rfl rfl (zd rfl)<|zj<|ze<|zi<|zc<|r_pv rfl rfl (za rfl)<|r_pv rfl rfl (za rfl)<|r_pv rfl rfl (zC (z:=(((a%b):Nat):Int)) rfl (by rw [Tryz.underlying115];rfl) Tryz.underlying111 (wu32 (by omega)))<|zza rfl rfl (zV (enc:=fun z:Int=>[.int .u32 z]) (ok:=InK .u32) (h1:=fun _=>rfl) (h2:=fun _=>rfl) (k:=1) Tryz.underlying28 inf111 rfl (by decide) (by decide) (by decide) (.c (x:=(((a%b):Nat):Int)) rfl rfl (fun _ _=>by exact zv.2 (by omega)) .n)) (fun b7 _=> ?_)
  refine zna 0 rfl .z<|zy rfl rfl (.c rfl (.c rfl .n)) ce92 (zHa (s:=false) (p:=some ⟨b7,0,none⟩) (n:=1) (cap:=1) (l:=[(((a%b):Nat):Int)]) (hn:=by first|rfl|omega|(simp;done)|(simp;omega)) (ho:=by exact hokt) (hln:=by first|rfl|omega|(simp;done)|(simp;omega))) (.c (j:=0) rfl .n) ?_
  rintro ⟨p28,c29⟩ -
  dsimp only [List.append_eq,List.nil_append,List.cons_append]
  refine r_pv rfl rfl (zwa Tryz.underlying30 rfl ty28 rfl rfl)<|r_pv rfl rfl (zd rfl)<|r_pv rfl rfl (zd rfl)<|zj<|ze<|zI<|zp ?_
  exact zBa Tryz.results91 (p25,c26,p28,c29) trivial (zo rfl) (zo rfl) (by rw [hz3]) (ho:=(.n:PickO _ _ _)) ((.c (j:=2) rfl (.e (j:=0) rfl (by rw [hz3]) .n)):SelR _ _ _)
 ·
  refine zB<|ze<|zi<|zi<|zc<|r_pv rfl rfl (za rfl)<|r_pv rfl rfl (za rfl)<|zN rfl rfl (.c rfl (.c rfl .n)) ce115 (zwc (a:=a) (b:=b) (p1:=p1) (c1:=c1) (p2:=p2) (c2:=c2)) (.c (j:=0) rfl (.c (j:=1) rfl .n))<|r_pv rfl rfl (zda rfl rfl)<|zj<|ze<|zG rfl (fun hlt=> ?_) (fun hlt=> ?_)
  ·
   have hab9:¬(b:Int)≤a:=fun h=>by have:=Big.cmp_ge.2 h;omega
   have hab:a<b:=by omega
   refine zi<|zc<|zza rfl rfl (zua (rI .u32) Tryz.underlying28 inf111) (fun b10 _=> ?_)
   refine r_pv rfl rfl (za rfl)<|r_pv rfl rfl (zd rfl)<|r_pv rfl rfl (zd rfl)<|zj<|ze<|zI<|zp ?_
   have hz1:a / b=0:=Nat.div_eq_of_lt hab
   have hz2:a%b=a:=Nat.mod_eq_of_lt hab
   refine zta 0 rfl .z ?_
   exact zBa Tryz.results91 (some ⟨b10,0,none⟩,0,p1,c1) trivial (zo rfl) (zo rfl) (by rw [hz1,hz2];rfl) (ho:=(.n:PickO _ _ _)) ((.e (j:=0) rfl (by rw [hz1];rfl) (.e (j:=1) rfl (by rw [hz2]) .n)):SelR _ _ _)
  ·
   have hab:b≤a:=by have h9:=Big.cmp_ge.1 (by omega:0≤Big.cmp (a:Int) (b:Int));omega
   have hab2:=Big.ln_mono' hab
   have hq1:0≤1000000000 / ((Big.digs b).getD ((Big.digs b).length - 1) 0+1):=Int.ediv_nonneg (by omega) (by omega)
   have hdt:=Big.digs_top (b:=b) (n:=(Big.digs b).length - 1) (by omega)
   have hq2:1000000000 / ((Big.digs b).getD ((Big.digs b).length - 1) 0+1)≤500000000:=Int.ediv_le_of_le_mul (by omega) (by omega)
   refine zB<|ze<|zi<|zc<|r_pv rfl rfl (za rfl)<|r_pv rfl rfl (za rfl)<|r_pv rfl rfl (zaa (z:=((((Big.digs b).length - 1):Nat):Int)) rfl rfl (w64 (by omega)))<|zU (x0:=((Big.digs b).getD ((Big.digs b).length - 1) 0)) 1 ((Big.digs b).length - 1) rfl Tryz.underlying28 sz111 rfl rfl rfl (by first|rfl|assumption|(simp;done)|(simp;omega)|omega) rfl rfl (gD (d:=0) (by omega)) (fun b11 o12 hok13=> ?_)
   replace hok13:=zv.1 hok13
   refine r_u rfl rfl (zk (j:=0) 0 ty111 rfl rfl rfl rfl)<|r_pv rfl rfl (zC (z:=((Big.digs b).getD ((Big.digs b).length - 1) 0)) rfl (by rw [Tryz.underlying111];rfl) Tryz.underlying115 (wu64 (by omega)))<|r_pv rfl rfl (zx (z:=(((Big.digs b).getD ((Big.digs b).length - 1) 0)+1)) rfl rfl (wu64 (by omega)))<|r_pv rfl rfl (zVa (z:=(1000000000 / (((Big.digs b).getD ((Big.digs b).length - 1) 0)+1))) rfl rfl (by omega) (by rw [quoN (z:=(1000000000 / (((Big.digs b).getD ((Big.digs b).length - 1) 0)+1))) (by omega) (by omega)];exact wu64 (by omega)))<|r_pv rfl rfl (zd rfl)<|zj<|ze<|zi ?_
   obtain ⟨s,hs⟩:∃s:Nat,s=(1000000000 / ((Big.digs b).getD ((Big.digs b).length - 1) 0+1)).toNat:=⟨_,rfl⟩
   obtain ⟨hs1,hs2,hs3⟩:=Big.scale_len (n:=(Big.digs b).length - 1) (by omega) hs
   have hsd:=Big.digs_one hs1 (by omega:s<1000000000)
   have hsl:(Big.digs s).length=1:=by rw [hsd];rfl
   have e14:((1000000000 / (((Big.digs b).getD ((Big.digs b).length - 1) 0)+1)):Int)=((s:Nat):Int):=by omega
   rw [e14]
   refine zc<|r_pv rfl rfl (za rfl)<|r_pv rfl rfl (za rfl)<|zy rfl rfl (.c rfl (.c rfl .n)) ce116 (zKb (a:=a) (d:=s) (p0:=p1) (cap:=c1) (hb:=by first|rfl|assumption|omega|(simp;done)) (hd:=by first|rfl|assumption|omega|(simp;done))) (.c (j:=1) rfl .n) ?_
   rintro ⟨p315,c316⟩ -
   dsimp only [List.append_eq,List.nil_append,List.cons_append]
   refine r_pv rfl rfl (za rfl)<|r_pv rfl rfl (za rfl)<|zy rfl rfl (.c rfl (.c rfl .n)) ce116 (zKb (a:=b) (d:=s) (p0:=p2) (cap:=c2) (hb:=by first|rfl|assumption|omega|(simp;done)) (hd:=by first|rfl|assumption|omega|(simp;done))) (.c (j:=3) rfl .n) ?_
   rintro ⟨p317,c318⟩ -
   dsimp only [List.append_eq,List.nil_append,List.cons_append]
   refine r_pv rfl rfl (zd rfl)<|r_pv rfl rfl (zd rfl)<|zj<|ze<|zi ?_
   obtain ⟨A,hA⟩:∃z,z=a*s:=⟨_,rfl⟩
   rw [← hA]
   obtain ⟨V,hV⟩:∃z,z=b*s:=⟨_,rfl⟩
   rw [← hV]
   refine zY 1 rfl (fun hcA=> ?_)
   have hAl:(Big.digs a).length≤(Big.digs A).length:=by rw [hA];exact Big.len_mul_ge hs1
   have hAl2:(Big.digs A).length≤(Big.digs a).length+1:=by have h8:=Big.len_mul_le a s;rw [hsl] at h8;rw [hA];exact h8
   obtain ⟨m,hm⟩:∃z,(Big.digs V).length=z+1:=⟨(Big.digs b).length - 1,by rw [hV,hs3]⟩
   have hmb:(Big.digs b).length=m+1:=by rw [hV,hs3] at hm;omega
   have e19:((((Big.digs b).length:Nat):Int):Int)=(((m+1):Nat):Int):=by omega
   rw [e19]
   refine zc<|r_pv rfl rfl (za rfl)<|r_pv rfl rfl (za rfl)<|r_pv rfl rfl (zM Tryz.underlying28 rfl)<|r_pv rfl rfl (za rfl)<|r_pv rfl rfl (zaa (z:=((((Big.digs A).length - (m+1)):Nat):Int)) rfl rfl (w64 (by omega)))<|r_pv rfl rfl (zx (z:=((((Big.digs A).length - m):Nat):Int)) rfl rfl (w64 (by omega)))<|r_pv rfl rfl (zNc (lo:=((Big.digs A).length - m)) (hi:=(Big.digs A).length) Tryz.underlying28 sz111 rfl (.s rfl) .n (.inr ⟨_,rfl⟩) (.inl ⟨rfl,rfl⟩) (by omega) (by omega))<|zkc (zXd 1 rfl ((Big.digs A).length - m) ((Big.digs A).length) (by omega) (by omega)) (fun _ _=> ?_)
   refine zy rfl rfl (.c rfl (.c rfl .n)) ce92 (zHa (s:=false) (p:=(newP p315 c316 ((Big.digs A).length - m) 1)) (n:=((Big.digs A).length) - ((Big.digs A).length - m)) (cap:=(c316 - ((Big.digs A).length - m))) (l:=(((Big.digs A).take ((Big.digs A).length)).drop ((Big.digs A).length - m))) (hn:=by first|rfl|omega|(simp;done)|(simp;omega)) (ho:=by exact Big.okL_drop (Big.okL_take (Big.digs_ok _) _) _) (hln:=by first|rfl|omega|(simp;done)|(simp;omega))) (.c (j:=0) rfl .n) ?_
   rintro ⟨p220,c221⟩ -
   dsimp only [List.append_eq,List.nil_append,List.cons_append]
   refine r_pv rfl rfl (zwa Tryz.underlying30 rfl ty28 rfl rfl)<|r_pv rfl rfl (zd rfl)<|zj<|ze<|zi ?_
   obtain ⟨R0,hR0⟩:∃z,z=(Big.sg false (Big.valL (((Big.digs A).take ((Big.digs A).length)).drop ((Big.digs A).length - m)))).natAbs:=⟨_,rfl⟩
   rw [← hR0]
   have hpt:Big.PtI A V ((Big.digs A).length - m) [] R0:=Big.PtI.start hm (by omega) (by rw [hR0,List.take_length];have:=Big.valL_nonneg (Big.okL_drop (Big.digs_ok A) ((Big.digs A).length - m));simp only [Big.sg];omega)
   refine zc<|r_pv rfl rfl (za rfl)<|r_pv rfl rfl (zM Tryz.underlying28 rfl)<|r_pv rfl rfl (za rfl)<|r_pv rfl rfl (zaa (z:=((((Big.digs A).length - (m+1)):Nat):Int)) rfl rfl (w64 (by omega)))<|r_pv rfl rfl (zx (z:=((((Big.digs A).length - m):Nat):Int)) rfl rfl (w64 (by omega)))<|zza rfl rfl (zIa (r:=rI .u32) (k:=((Big.digs A).length - m)) (x0:=0) (γ0:=()) Tryz.underlying28 inf111 rfl rfl rfl rfl (by omega) (by omega) rfl (fun _ _=>by exact zv.2 (by decide)) (by decide)) (fun b22 _=> ?_)
   refine r_pv rfl rfl (zd rfl)<|zj<|ze<|zi<|zi<|zc<|r_pv rfl rfl (za rfl)<|r_pv rfl rfl (zM Tryz.underlying28 rfl)<|r_pv rfl rfl (za rfl)<|r_pv rfl rfl (zaa (z:=((((Big.digs A).length:Nat):Int) - (((m+1):Nat):Int))) rfl rfl (w64 (by omega)))<|r_pv rfl rfl (zd rfl)<|zj<|ze<|zA<|zka (X:=Nat×(List Int)×Nat×(Option Addr)×Nat) (fun x:Nat×(List Int)×Nat×(Option Addr)×Nat=>Big.PtI A V x.1 x.2.1 x.2.2.1∧x.1+x.2.1.length=(Big.digs A).length - m) (fun x=>[(10,.slice (x.2.2.2.1) ((Big.digs (x.2.2.1)).length) (x.2.2.2.2)),(12,.int .i64 (((x.1:Nat):Int) - 1)),(11,.slice (some ⟨b22,0,none⟩) ((Big.digs A).length - m) ((Big.digs A).length - m)),(1,.slice p317 ((Big.digs V).length) c318),(0,.slice p315 ((Big.digs A).length) c316),(9,.int .u64 ((s:Nat):Int)),(6,.int .i64 (((m+1):Nat):Int)),(5,.slice none 0 0),(4,.slice none 0 0)]) (fun x=>[rowA 111 (rI .u32) (some ⟨b22,0,none⟩) ((Big.digs A).length - m) (List.replicate x.1 0++x.2.1)]) (fun x=>[slF (rI .u32) (x.2.2.2.1) (x.2.2.2.2) (Big.digs (x.2.2.1)),slF (rI .u32) p220 c221 (Big.digs R0),slF (rI .u32) (newP p315 c316 ((Big.digs A).length - m) 1) (c316 - ((Big.digs A).length - m)) (((Big.digs A).take ((Big.digs A).length)).drop ((Big.digs A).length - m)),slF (rI .u32) p317 c318 (Big.digs V),slF (rI .u32) p315 c316 (Big.digs A),atF b11 o12 [.int .u32 ((Big.digs b).getD ((Big.digs b).length - 1) 0)],slF (rI .u32) p1 c1 (Big.digs a),slF (rI .u32) p2 c2 (Big.digs b)]) (fun x:Nat×(List Int)×Nat×(Option Addr)×Nat=>x.1) (((Big.digs A).length - m),([]:List Int),R0,p220,c221) (show Big.PtI A V ((Big.digs A).length - m) ([]:List Int) R0∧((Big.digs A).length - m)+([]:List Int).length=(Big.digs A).length - m from by exact ⟨hpt,rfl⟩) ((.e rfl (by first|rfl|(congr 1;omega)|simp_all) (.e rfl (congrArg (Value.int .i64) (by omega)) (.of rfl))):SubM _ _) (ho:=((.e (i:=0) rfl (by simp) .n):PickO _ _ _)) ((.e (j:=0) rfl (by first|rfl|simp_all) (.of [0,1,2,3,4,5,6] rfl)):SelR _ _ _) ?_
   rintro ⟨jj,qs,R,pr,cr⟩ hI
   replace hI:Big.PtI A V jj qs R∧jj+qs.length=(Big.digs A).length - m:=hI
   try dsimp only
   obtain ⟨hP,hql⟩:=hI
   refine zi<|zi<|zc<|r_pv rfl rfl (za rfl)<|r_pv rfl rfl (zMa rfl rfl)<|zj<|ze<|zG rfl (fun hj=> ?_) (fun hj=> ?_)
   ·
    obtain ⟨j,rfl⟩:∃j,jj=j+1:=⟨jj - 1,by omega⟩
    have e23:(((((j+1):Nat):Int) - 1):Int)=((j:Nat):Int):=by omega
    rw [e23]
    have hjle:=hP.le
    have hRV:=hP.lt
    have hdn:=Big.okL_getD (Big.digs_ok A) j
    obtain ⟨d,hd⟩:∃d:Nat,(Big.digs A).getD j 0=(d:Int):=⟨_,(Int.toNat_of_nonneg hdn.1).symm⟩
    have hd9:d<1000000000:=by omega
    have hWlt9:=Big.pt_lim hRV hd9
    have hRl:=Big.ln_mono' (Nat.le_of_lt hRV)
    refine zB<|ze<|zi<|zA<|zi<|zc<|r_pv rfl rfl (za rfl)<|r_pv rfl rfl (za rfl)<|r_pv rfl rfl (za rfl)<|zU (x0:=((Big.digs A).getD j 0)) 4 j rfl Tryz.underlying28 sz111 rfl rfl rfl (by first|rfl|assumption|(simp;done)|(simp;omega)|omega) rfl rfl (gD (d:=0) (by omega)) (fun b24 o25 hok26=> ?_)
    replace hok26:=zv.1 hok26
    refine r_u rfl rfl (zk (j:=0) 0 ty111 rfl rfl rfl rfl) ?_
    have e27:(((Big.digs A).getD j 0):Int)=((d:Nat):Int):=by exact hd
    rw [e27]
    refine zy rfl rfl (.c rfl (.c rfl .n)) ce117 (ztd (a:=R) (d:=d) (p0:=pr) (cap:=cr) (hb:=by first|rfl|assumption|omega|(simp;done)) (hd:=by first|rfl|assumption|omega|(simp;done))) (.c (j:=1) rfl .n) ?_
    rintro ⟨p328,c329⟩ -
    dsimp only [List.append_eq,List.nil_append,List.cons_append]
    refine r_pv rfl rfl (zd rfl)<|zj<|ze<|zi ?_
    obtain ⟨W,hW⟩:∃z,z=(R*1000000000+d):=⟨_,rfl⟩
    rw [← hW]
    have hWlt:W<V*1000000000:=by rw [hW];exact hWlt9
    have hWl:=Big.pt_wlen hWlt hm
    have hw1:=Big.okL_getD (Big.digs_ok W) (m+1)
    have hw0:=Big.okL_getD (Big.digs_ok W) m
    have hv0:=Big.okL_getD (Big.digs_ok V) m
    have hg0:0≤(((Big.digs W).getD (m+1) 0*1000000000+(Big.digs W).getD m 0) / ((Big.digs V).getD m 0+1)):=Int.ediv_nonneg (by omega) (by omega)
    have hg1:(((Big.digs W).getD (m+1) 0*1000000000+(Big.digs W).getD m 0) / ((Big.digs V).getD m 0+1))≤1000000000000000000:=Int.le_trans (Int.ediv_le_self _ (by omega)) (by omega)
    refine zea (OW:=[]) (O:=[rowA 111 (rI .u32) (some ⟨b22,0,none⟩) ((Big.digs A).length - m) (List.replicate (j+1) 0++qs)]) 100000 mixed (.then (.block (.then (.then (.block (.then .ret)))))) (by kernel_rfl)<|d_pv 0 rfl rfl (by kernel_rfl) (by kernel_rfl) rfl rfl (za rfl)<|d_pv 1 rfl rfl (by kernel_rfl) (by kernel_rfl) rfl rfl (za rfl)<|d_pv 4 rfl rfl (by kernel_rfl) (by kernel_rfl) rfl rfl (za rfl)<|d_pv 5 rfl rfl (by kernel_rfl) (by kernel_rfl) rfl rfl (za rfl)<|d_pv 6 rfl rfl (by kernel_rfl) (by kernel_rfl) rfl rfl (zaa (z:=((m:Nat):Int)) rfl rfl (w64 (by omega)))<|d_pv 9 rfl rfl (by kernel_rfl) (by kernel_rfl) rfl rfl (za rfl)<|d_pv 10 rfl rfl (by kernel_rfl) (by kernel_rfl) rfl rfl (za rfl)<|d_pv 11 rfl rfl (by kernel_rfl) (by kernel_rfl) rfl rfl (zaa (z:=((m:Nat):Int)) rfl rfl (w64 (by omega)))<|zga (x0:=((Big.digs V).getD m 0)) 12 rfl rfl (by kernel_rfl) (by kernel_rfl) 5 m rfl Tryz.underlying28 sz111 rfl rfl rfl (by first|rfl|assumption|(simp;done)|(simp;omega)|omega) rfl rfl (gD (d:=0) (by omega)) (fun b30 o31 hok32=> ?_)
    replace hok32:=zv.1 hok32
    refine d_u 13 rfl rfl (by kernel_rfl) (by kernel_rfl) rfl rfl (zk (j:=0) 0 ty111 rfl rfl rfl rfl)<|d_pv 14 rfl rfl (by kernel_rfl) (by kernel_rfl) rfl rfl (zC (z:=((Big.digs V).getD m 0)) rfl (by rw [Tryz.underlying111];rfl) Tryz.underlying115 (wu64 (by omega)))<|d_pv 15 rfl rfl (by kernel_rfl) (by kernel_rfl) rfl rfl (zx (z:=(((Big.digs V).getD m 0)+1)) rfl rfl (wu64 (by omega)))<|zL 2 (by kernel_rfl) (zib rfl rfl rfl rfl (.c rfl (.c rfl .n)) ce118 (zSa (p:=p328) (n:=(Big.digs W).length) (cap:=c329) (l:=Big.digs W) (i:=(m+1)) (hn:=by first|rfl|assumption|omega|(simp;done)) (hi:=by first|rfl|assumption|omega|(simp;done))) (.c (j:=1) rfl .n) ?_)
    refine d_pv 3 rfl rfl (by kernel_rfl) (by kernel_rfl) rfl rfl (zpa (z:=((Big.digs W).getD (m+1) 0*1000000000)) rfl rfl (wu64 (by omega)))<|zL 7 (by kernel_rfl) (zib rfl rfl rfl rfl (.c rfl (.c rfl .n)) ce118 (zSa (p:=p328) (n:=(Big.digs W).length) (cap:=c329) (l:=Big.digs W) (i:=m) (hn:=by first|rfl|assumption|omega|(simp;done)) (hi:=by first|rfl|assumption|omega|(simp;done))) (.c (j:=1) rfl .n) ?_)
    refine d_pv 8 rfl rfl (by kernel_rfl) (by kernel_rfl) rfl rfl (zx (z:=(((Big.digs W).getD (m+1) 0*1000000000)+(Big.digs W).getD m 0)) rfl rfl (wu64 (by omega)))<|d_pv 16 rfl rfl (by kernel_rfl) (by kernel_rfl) rfl rfl (zVa (z:=((((Big.digs W).getD (m+1) 0*1000000000)+(Big.digs W).getD m 0) / (((Big.digs V).getD m 0)+1))) rfl rfl (by omega) (by rw [quoN (z:=((((Big.digs W).getD (m+1) 0*1000000000)+(Big.digs W).getD m 0) / (((Big.digs V).getD m 0)+1))) (by omega) (by omega)];exact wu64 (by omega)))<|d_pv 17 rfl rfl (by kernel_rfl) (by kernel_rfl) rfl rfl (zd rfl)<|zba (by kernel_rfl)<|ze<|zi ?_
    obtain ⟨g0,hg9⟩:∃g:Nat,(g:Int)=(((Big.digs W).getD (m+1) 0*1000000000+(Big.digs W).getD m 0) / ((Big.digs V).getD m 0+1)):=⟨_,Int.toNat_of_nonneg hg0⟩
    obtain ⟨hgm,hgl⟩:=Big.pt_guess hWlt hm hg9
    have hVg:=Big.ln_mono' hgm
    have e33:(((((Big.digs W).getD (m+1) 0*1000000000)+(Big.digs W).getD m 0) / (((Big.digs V).getD m 0)+1)):Int)=((g0:Nat):Int):=by exact hg9.symm
    rw [e33]
    refine zc<|r_pv rfl rfl (za rfl)<|r_pv rfl rfl (za rfl)<|r_pv rfl rfl (za rfl)<|zy rfl rfl (.c rfl (.c rfl .n)) ce116 (zKb (a:=V) (d:=g0) (p0:=p317) (cap:=c318) (hb:=by first|rfl|assumption|omega|(simp;done)) (hd:=by first|rfl|assumption|omega|(simp;done))) (.c (j:=6) rfl .n) ?_
    rintro ⟨p334,c335⟩ -
    dsimp only [List.append_eq,List.nil_append,List.cons_append]
    refine zy rfl rfl (.c rfl (.c rfl .n)) ce119 (zHb (a:=W) (b:=V*g0) (p1:=p328) (c1:=c329) (p2:=p334) (c2:=c335) (hb1:=by first|rfl|assumption|omega|(simp;done)) (hb2:=by first|rfl|assumption|omega|(simp;done)) (hab:=by first|rfl|assumption|omega|(simp;done))) (.c (j:=2) rfl (.c (j:=0) rfl .n)) ?_
    rintro ⟨p336,c337⟩ -
    dsimp only [List.append_eq,List.nil_append,List.cons_append]
    refine r_pv rfl rfl (zd rfl)<|zj<|ze<|zi<|zA<|zka (X:=Nat×Nat×(Option Addr)×Nat) (fun x:Nat×Nat×(Option Addr)×Nat=>x.2.1+V*x.1=W) (fun x=>[(10,.slice (x.2.2.1) ((Big.digs (x.2.1)).length) (x.2.2.2)),(13,.int .u64 ((x.1:Nat):Int)),(12,.int .i64 ((j:Nat):Int)),(11,.slice (some ⟨b22,0,none⟩) ((Big.digs A).length - m) ((Big.digs A).length - m)),(1,.slice p317 ((Big.digs V).length) c318),(0,.slice p315 ((Big.digs A).length) c316),(9,.int .u64 ((s:Nat):Int)),(6,.int .i64 (((m+1):Nat):Int)),(5,.slice none 0 0),(4,.slice none 0 0)]) (fun x=>[rowA 111 (rI .u32) (some ⟨b22,0,none⟩) ((Big.digs A).length - m) (List.replicate (j+1) 0++qs)]) (fun x=>[slF (rI .u32) (x.2.2.1) (x.2.2.2) (Big.digs (x.2.1)),slF (rI .u32) p336 c337 (Big.digs (W - (V*g0))),slF (rI .u32) p334 c335 (Big.digs (V*g0)),atF b30 o31 [.int .u32 ((Big.digs V).getD m 0)],slF (rI .u32) p328 c329 (Big.digs W),atF b24 o25 [.int .u32 ((d:Nat):Int)],slF (rI .u32) pr cr (Big.digs R),slF (rI .u32) p220 c221 (Big.digs R0),slF (rI .u32) (newP p315 c316 ((Big.digs A).length - m) 1) (c316 - ((Big.digs A).length - m)) (((Big.digs A).take ((Big.digs A).length)).drop ((Big.digs A).length - m)),slF (rI .u32) p317 c318 (Big.digs V),slF (rI .u32) p315 c316 (Big.digs A),atF b11 o12 [.int .u32 ((Big.digs b).getD ((Big.digs b).length - 1) 0)],slF (rI .u32) p1 c1 (Big.digs a),slF (rI .u32) p2 c2 (Big.digs b)]) (fun x:Nat×Nat×(Option Addr)×Nat=>x.2.1) (g0,(W - V*g0),p336,c337) (show (W - V*g0)+V*g0=W from by exact Nat.sub_add_cancel hgm) ((.e rfl (by first|rfl|(congr 1;omega)|simp_all) (.of rfl)):SubM _ _) (ho:=((.c (i:=0) rfl .n):PickO _ _ _)) ((.e (j:=0) rfl (by first|rfl|simp_all) (.of [0,1,2,3,4,5,6,7,8,9,10,11,12] rfl)):SelR _ _ _) ?_
    rintro ⟨g,r,p9,c9⟩ hJ
    replace hJ:r+V*g=W:=hJ
    try dsimp only
    have hgb:g<1000000000:=Nat.lt_of_mul_lt_mul_left (a:=V) (by omega)
    have hrl:=Big.ln_mono' (show r≤W by omega)
    refine zi<|zi<|zc<|r_pv rfl rfl (za rfl)<|r_pv rfl rfl (za rfl)<|zN rfl rfl (.c rfl (.c rfl .n)) ce115 (zwc (a:=r) (b:=V) (p1:=p9) (c1:=c9) (p2:=p317) (c2:=c318)) (.c (j:=0) rfl (.c (j:=9) rfl .n))<|r_pv rfl rfl (zMa rfl rfl)<|zj<|ze<|zG rfl (fun hge=> ?_) (fun hge=> ?_)
    ·
     have hrV:V≤r:=by have h9:=Big.cmp_ge.1 hge;omega
     refine zB<|ze<|zA<|zi<|zc<|r_pv rfl rfl (za rfl)<|r_pv rfl rfl (za rfl)<|zy rfl rfl (.c rfl (.c rfl .n)) ce119 (zHb (a:=r) (b:=V) (p1:=p9) (c1:=c9) (p2:=p317) (c2:=c318) (hb1:=by first|rfl|assumption|omega|(simp;done)) (hb2:=by first|rfl|assumption|omega|(simp;done)) (hab:=by first|rfl|assumption|omega|(simp;done))) (.c (j:=0) rfl (.c (j:=9) rfl .n)) ?_
     rintro ⟨p338,c339⟩ -
     dsimp only [List.append_eq,List.nil_append,List.cons_append]
     refine r_pv rfl rfl (zd rfl)<|zj<|ze<|zc<|r_pv rfl rfl (za rfl)<|r_pv rfl rfl (zx (z:=(((g+1):Nat):Int)) rfl rfl (wu64 (by omega)))<|r_pv rfl rfl (zd rfl)<|zj<|zT<|zha ((g+1),(r - V),p338,c339) (show (r - V)+V*(g+1)=W from by rw [Nat.mul_succ];omega) (by show r - V<r;omega) ((.e rfl (by first|rfl|(congr 1;omega)|simp_all) (.of rfl)):SubM _ _) (ho:=((.c (i:=0) rfl .n):PickO _ _ _)) ((.e (j:=0) rfl (by first|rfl|simp_all) (.of [2,3,4,5,6,7,8,9,10,11,12,13,14] rfl)):SelR _ _ _)
    ·
     have hrV:r<V:=by have h9:¬(V:Int)≤r:=fun h=>hge (Big.cmp_ge.2 h);omega
     have hst:=hP.step hd (by rw [← hW];exact hJ) hrV
     refine zja<|zl<|zl<|zu<|ze<|zc<|r_pv rfl rfl (za rfl)<|r_pv rfl rfl (za rfl)<|r_pv rfl rfl (za rfl)<|r_pv rfl rfl (zC (z:=((g:Nat):Int)) rfl (by rw [Tryz.underlying115];rfl) Tryz.underlying111 (wu32 (by omega)))<|r_pv rfl rfl (zX (j:=j) Tryz.underlying28 sz111 rfl rfl rfl (by omega))<|zDa 0 rfl rfl rfl (zW (j:=j) (x0:=((g:Nat):Int)) (γ0:=()) rfl rfl (by first|omega|(rw [List.length_map];omega)|(simp only [List.length_set];omega)|(simp;done)|(simp;omega)) rfl rfl sz111 (fun _ _=>by exact zv.2 (by omega))) (fun _=> .z) (fun _ _=> ?_)
     refine zj<|zT<|ze<|zc<|r_pv rfl rfl (za rfl)<|r_pv rfl rfl (zaa (z:=(((j:Nat):Int) - 1)) rfl rfl (w64 (by omega)))<|r_pv rfl rfl (zd rfl)<|zj<|zha (j,(((g:Nat):Int) :: qs),r,p9,c9) (show Big.PtI A V j (((g:Nat):Int) :: qs) r∧j+(((g:Nat):Int) :: qs).length=(Big.digs A).length - m from by exact ⟨hst,by rw [List.length_cons];omega⟩) (by show j<j+1;omega) ((.of rfl):SubM _ _) (ho:=((.e (i:=0) rfl (by rw [Big.pad_set]) .n):PickO _ _ _)) ((.of [0,7,8,9,10,11,12,13] rfl):SelR _ _ _)
   ·
    have hj0:jj=0:=by omega
    have hI0:Big.PtI A V 0 qs R:=hj0 ▸ hP
    obtain ⟨hf1,hf2⟩:=hI0.fin
    have hsc:=Big.scale_div (a:=a) (b:=b) hs1
    have hRV:=hI0.lt
    have hRl:=Big.ln_mono' (Nat.le_of_lt hRV)
    have hz4:=Big.made_nat hI0.ok hf1
    have hok5:=hI0.ok
    refine zja<|zl<|zl<|zu<|ze<|zi<|zc<|r_pv rfl rfl (za rfl)<|r_pv rfl rfl (za rfl)<|zy rfl rfl (.c rfl (.c rfl .n)) ce114 (zGc (a:=R) (mm:=s) (p:=pr) (cap:=cr) (hb:=by first|rfl|assumption|omega|(simp;done)) (hm0:=by first|rfl|assumption|omega|(simp;done)) (hm1:=by first|rfl|assumption|omega|(simp;done))) (.c (j:=0) rfl .n) ?_
    rintro ⟨p240,c241⟩ -
    dsimp only [List.append_eq,List.nil_append,List.cons_append]
    refine r_pv rfl rfl (za rfl)<|r_pv rfl rfl (zr rfl rfl)<|r_pv rfl rfl (zr rfl rfl)<|r_pv rfl rfl (zd rfl)<|r_pv rfl rfl (zd rfl)<|zj<|ze<|zi ?_
    have e42:List.replicate jj 0++qs=qs:=by rw [hj0];rfl
    rw [e42]
    refine zc<|r_pv rfl rfl (za rfl)<|zna 0 rfl .z<|zy rfl rfl (.c rfl (.c rfl .n)) ce92 (zHa (s:=false) (p:=some ⟨b22,0,none⟩) (n:=((Big.digs A).length - m)) (cap:=((Big.digs A).length - m)) (l:=qs) (hn:=by first|rfl|omega|(simp;done)|(simp;omega)) (ho:=by exact hok5) (hln:=by first|rfl|omega|(simp;done)|(simp;omega))) (.c (j:=0) rfl .n) ?_
    rintro ⟨p243,c244⟩ -
    dsimp only [List.append_eq,List.nil_append,List.cons_append]
    refine r_pv rfl rfl (zwa Tryz.underlying30 rfl ty28 rfl rfl)<|r_pv rfl rfl (za rfl)<|r_pv rfl rfl (zd rfl)<|r_pv rfl rfl (zd rfl)<|zj<|ze<|zI ?_
    have hr9:R / s=a%b:=by rw [hf2,hA,hV,hsc.2]
    have hz5:(Big.sg false (Big.valL qs)).natAbs=a / b:=by rw [hz4,hA,hV,hsc.1]
    exact zBa Tryz.results91 (p243,c244,p240,c241) trivial (zo rfl) (zo rfl) (by rw [hz5,hr9]) (ho:=(.n:PickO _ _ _)) ((.e (j:=0) rfl (by rw [hz5]) (.e (j:=2) rfl (by rw [hr9]) .n)):SelR _ _ _)
end Go.Proofs.YtkamccndgblheaaGreat.Sp
namespace Go.Proofs.YtkamccndgblheaaGreat.Sp
open Go
set_option linter.unusedVariables false
set_option maxRecDepth 100000
set_option maxHeartbeats 1000000
theorem zle {s:Bool} {p1:Option Addr} {n1:Nat} {c1:Nat} {l1:List Int} {t:Bool} {p2:Option Addr} {n2:Nat} {c2:Nat} {l2:List Int} (hn1:l1.length=n1) (hn2:l2.length=n2) (hm1:n1≤549755813888) (hm2:n2≤549755813888):Con Tryz.prog 58 [.agg #[.bool s,.slice p1 n1 c1],.agg #[.bool t,.slice p2 n2 c2]] [] [slF (rI .u32) p1 c1 l1,slF (rI .u32) p2 c2 l2] (Y:=(Option Addr)×Nat) (fun y=>True) (fun y=> .agg #[.bool (decide (((Nat.gcd (Big.raw s l1).natAbs (Big.raw t l2).natAbs:Nat):Int)<0)),.slice (y.1) ((Big.digs (((Nat.gcd (Big.raw s l1).natAbs (Big.raw t l2).natAbs:Nat):Int).natAbs)).length) (y.2)]) (fun y=>[]) (fun y=>[slF (rI .u32) (y.1) (y.2) (Big.digs (((Nat.gcd (Big.raw s l1).natAbs (Big.raw t l2).natAbs:Nat):Int).natAbs))]):=by
 refine zq Tryz.func58 rfl rfl rfl (fun c=> ?_)
 show RunC _ _ _ _ _ [(0,.agg #[.bool s,.slice p1 n1 c1]),(1,.agg #[.bool t,.slice p2 n2 c2])] [] [slF (rI .u32) p1 c1 l1,slF (rI .u32) p2 c2 l2]
 refine zY 0 rfl (fun hL0=> ?_)
 refine zNa 0 rfl (fun hE0=> ?_)
 refine zY 1 rfl (fun hL1=> ?_)
 refine zNa 1 rfl (fun hE1=> ?_)
 have hnn1:Big.nn l1:=fun g hg=>(zv.1 (hE0 g hg)).1
 have hnn2:Big.nn l2:=fun g hg=>(zv.1 (hE1 g hg)).1
 have hb1:Big.ln (Big.raw s l1)≤n1:=by have:=Big.zOa (s:=s) hnn1;omega
 have hb2:Big.ln (Big.raw t l2)≤n2:=by have:=Big.zOa (s:=t) hnn2;omega
 unfold Big.ln at hb1 hb2
 refine zi<|zc<|zJ rfl rfl (zQ rfl rfl) (fun b1=> ?_)
 refine zJ rfl rfl (zQ rfl rfl) (fun b2=> ?_)
 refine zJ rfl rfl (zw zr30 rfl) (fun b3=> ?_)
 refine zj<|ze<|zi<|zea (OW:=[]) (O:=[boxA b3 30 [.bool false,.slice none 0 0],boxA b2 30 [.bool t,.slice p2 n2 c2],boxA b1 30 [.bool s,.slice p1 n1 c1]]) 100000 mixed (.then .ret) (by kernel_rfl)<|d_u 0 rfl rfl (by kernel_rfl) (by kernel_rfl) rfl rfl (zf 2 ty30 rfl rfl (.take (.take .nil)))<|d_u 3 rfl rfl (by kernel_rfl) (by kernel_rfl) rfl rfl (zf 1 ty30 rfl rfl (.take (.take .nil)))<|zL 1 (by kernel_rfl) (zH rfl rfl rfl rfl (.c rfl .n) ce89 (zLa (s:=s) (p:=p1) (n:=n1) (cap:=c1) (l:=l1) (hn:=by assumption) (hln:=by first|rfl|assumption|omega)) (.c (j:=0) rfl .n) ?_)
 rintro ⟨p24,c25⟩ -
 dsimp only [List.append_eq,List.nil_append,List.cons_append]
 refine d_pv 2 rfl rfl (by kernel_rfl) (by kernel_rfl) rfl rfl (zwa Tryz.underlying30 rfl ty28 rfl rfl)<|zL 4 (by kernel_rfl) (zH rfl rfl rfl rfl (.c rfl .n) ce89 (zLa (s:=t) (p:=p2) (n:=n2) (cap:=c2) (l:=l2) (hn:=by assumption) (hln:=by first|rfl|assumption|omega)) (.c (j:=2) rfl .n) ?_)
 rintro ⟨p26,c27⟩ -
 dsimp only [List.append_eq,List.nil_append,List.cons_append]
 refine d_pv 5 rfl rfl (by kernel_rfl) (by kernel_rfl) rfl rfl (zwa Tryz.underlying30 rfl ty28 rfl rfl)<|d_pv 6 rfl rfl (by kernel_rfl) (by kernel_rfl) rfl rfl (zd rfl)<|d_pv 7 rfl rfl (by kernel_rfl) (by kernel_rfl) rfl rfl (zd rfl)<|zba (by kernel_rfl)<|ze<|zi<|zA<|zka (X:=Nat×Nat×(Option Addr)×Nat×(Option Addr)×Nat) (fun x:Nat×Nat×(Option Addr)×Nat×(Option Addr)×Nat=>Nat.gcd x.1 x.2.1=Nat.gcd (Big.raw s l1).natAbs (Big.raw t l2).natAbs∧(Big.digs x.1).length≤549755813888∧(Big.digs x.2.1).length≤549755813888) (fun x=>[(6,.slice (x.2.2.2.2.1) ((Big.digs (x.2.1)).length) (x.2.2.2.2.2)),(5,.slice (x.2.2.1) ((Big.digs (x.1)).length) (x.2.2.2.1)),(4,.pointer (some ⟨b3,0,none⟩))]) (fun x=>[boxA b3 30 [.bool false,.slice none 0 0],boxA b2 30 [.bool t,.slice p2 n2 c2],boxA b1 30 [.bool s,.slice p1 n1 c1]]) (fun x=>[slF (rI .u32) (x.2.2.1) (x.2.2.2.1) (Big.digs (x.1)),slF (rI .u32) (x.2.2.2.2.1) (x.2.2.2.2.2) (Big.digs (x.2.1)),slF (rI .u32) p26 c27 (Big.digs ((Big.raw t l2).natAbs)),slF (rI .u32) p24 c25 (Big.digs ((Big.raw s l1).natAbs)),slF (rI .u32) p1 c1 l1,slF (rI .u32) p2 c2 l2]) (fun x:Nat×Nat×(Option Addr)×Nat×(Option Addr)×Nat=>x.2.1) ((Big.raw s l1).natAbs,(Big.raw t l2).natAbs,p24,c25,p26,c27) (show Nat.gcd ((Big.raw s l1).natAbs) ((Big.raw t l2).natAbs)=Nat.gcd (Big.raw s l1).natAbs (Big.raw t l2).natAbs∧(Big.digs ((Big.raw s l1).natAbs)).length≤549755813888∧(Big.digs ((Big.raw t l2).natAbs)).length≤549755813888 from by exact ⟨rfl,by omega,by omega⟩) ((.of rfl):SubM _ _) (ho:=((.of [0,0,0] rfl):PickO _ _ _)) ((.of [1,0,0,1,2,3] rfl):SelR _ _ _) ?_
 rintro ⟨a,b,pa,ca,pb,cb⟩ hI
 replace hI:Nat.gcd a b=Nat.gcd (Big.raw s l1).natAbs (Big.raw t l2).natAbs∧(Big.digs a).length≤549755813888∧(Big.digs b).length≤549755813888:=hI
 try dsimp only
 obtain ⟨hgc,hba,hbb⟩:=hI
 refine zi<|zGa (X:=Unit) (fun x=>True) (fun x=>[(29,.bool (decide (0<(Big.digs b).length∧(2<(Big.digs a).length∨2<(Big.digs b).length)))),(6,.slice pb ((Big.digs b).length) cb),(5,.slice pa ((Big.digs a).length) ca),(4,.pointer (some ⟨b3,0,none⟩))]) (fun x=>[boxA b3 30 [.bool false,.slice none 0 0],boxA b2 30 [.bool t,.slice p2 n2 c2],boxA b1 30 [.bool s,.slice p1 n1 c1]]) (fun x=>[slF (rI .u32) pa ca (Big.digs a),slF (rI .u32) pb cb (Big.digs b),slF (rI .u32) p26 c27 (Big.digs ((Big.raw t l2).natAbs)),slF (rI .u32) p24 c25 (Big.digs ((Big.raw s l1).natAbs)),slF (rI .u32) p1 c1 l1,slF (rI .u32) p2 c2 l2]) ?_ ?_
 ·
  refine zc<|r_pv rfl rfl (za rfl)<|r_pv rfl rfl (zM Tryz.underlying28 rfl)<|r_pv rfl rfl (zoa rfl rfl)<|zP rfl rfl (za rfl) (fun h8=> ?_) (fun h8=> ?_)
  ·
   refine r_pv rfl rfl (za rfl)<|r_pv rfl rfl (zM Tryz.underlying28 rfl)<|r_pv rfl rfl (zoa rfl rfl)<|zP rfl rfl (za rfl) (fun h9=> ?_) (fun h9=> ?_)
   ·
    refine zb rfl rfl<|zb rfl rfl<|zb rfl rfl<|r_pv rfl rfl (zm rfl rfl)<|r_pv rfl rfl (zm rfl rfl)<|zj ?_
    exact zca () (show True from by first|trivial|omega|simp_all) ((.e rfl (congrArg Value.bool (by first|(simp;omega)|exact decide_eq_decide.2 ⟨fun h=>⟨by omega,.inr (by omega)⟩,fun h=>by omega⟩)) (.of rfl)):SubM _ _) (ho:=((.of [0,0,0] rfl):PickO _ _ _)) ((.of [0,1,2,3,4,5] rfl):SelR _ _ _)
   ·
    refine r_pv rfl rfl (za rfl)<|r_pv rfl rfl (zM Tryz.underlying28 rfl)<|r_pv rfl rfl (zoa rfl rfl)<|r_pv rfl rfl (zm rfl rfl)<|r_pv rfl rfl (zm rfl rfl)<|zj ?_
    exact zca () (show True from by first|trivial|omega|simp_all) ((.e rfl (congrArg Value.bool (by first|(simp;omega)|exact decide_eq_decide.2 ⟨fun h=>⟨by omega,.inr (by omega)⟩,fun h=>by omega⟩)) (.of rfl)):SubM _ _) (ho:=((.of [0,0,0] rfl):PickO _ _ _)) ((.of [0,1,2,3,4,5] rfl):SelR _ _ _)
  ·
   refine zb rfl rfl<|zb rfl rfl<|zb rfl rfl<|zb rfl rfl<|zb rfl rfl<|zb rfl rfl<|zb rfl rfl<|zb rfl rfl<|r_pv rfl rfl (zm rfl rfl)<|zj ?_
   exact zca () (show True from by first|trivial|omega|simp_all) ((.e rfl (congrArg Value.bool (by first|(simp;omega)|exact decide_eq_decide.2 ⟨fun h=>⟨by omega,.inr (by omega)⟩,fun h=>by omega⟩)) (.of rfl)):SubM _ _) (ho:=((.of [0,0,0] rfl):PickO _ _ _)) ((.of [0,1,2,3,4,5] rfl):SelR _ _ _)
 ·
  rintro ⟨⟩ -
  try dsimp only
  refine zG rfl (fun hw=> ?_) (fun hw=> ?_)
  ·
   have hb0:0<b:=Nat.pos_of_ne_zero (fun e=>by rw [e] at hw;simp [Big.digs_zero] at hw)
   refine zB<|ze<|zA<|zi<|zc<|r_pv rfl rfl (za rfl)<|r_pv rfl rfl (za rfl)<|zy rfl rfl (.c rfl (.c rfl .n)) ce91 (zHc (a:=a) (b:=b) (p1:=pa) (c1:=ca) (p2:=pb) (c2:=cb) (hb1:=by first|rfl|assumption|omega) (hb2:=by first|rfl|assumption|omega) (hb0:=by first|rfl|assumption|omega)) (.c (j:=0) rfl (.c (j:=1) rfl .n)) ?_
   rintro ⟨p310,c311,p412,c413⟩ -
   dsimp only [List.append_eq,List.nil_append,List.cons_append]
   refine r_pv rfl rfl (za rfl)<|r_pv rfl rfl (zr rfl rfl)<|r_pv rfl rfl (zr rfl rfl)<|r_pv rfl rfl (zd rfl)<|r_pv rfl rfl (zd rfl)<|zj<|ze<|zc<|r_pv rfl rfl (za rfl)<|r_pv rfl rfl (za rfl)<|r_pv rfl rfl (zd rfl)<|r_pv rfl rfl (zd rfl)<|zj<|zT<|zha (b,(a%b),pb,cb,p412,c413) (show Nat.gcd b (a%b)=Nat.gcd (Big.raw s l1).natAbs (Big.raw t l2).natAbs∧(Big.digs b).length≤549755813888∧(Big.digs (a%b)).length≤549755813888 from by exact ⟨by rw [Big.gcd_rest,hgc],hbb,Nat.le_trans (Big.ln_mono' (Nat.le_of_lt (Nat.mod_lt a hb0))) hbb⟩) (by exact Nat.mod_lt a hb0) ((.e rfl (by first|rfl|(congr 1;omega)|simp_all) (.c rfl (.c rfl .n))):SubM _ _) (ho:=((.of [0,0,0] rfl):PickO _ _ _)) ((.c (j:=3) rfl (.e (j:=1) rfl (by first|rfl|simp_all) (.of [4,5,6,7] rfl))):SelR _ _ _)
  ·
   refine zja<|zl<|zl<|zu<|ze<|zi<|zi<|zc<|r_pv rfl rfl (za rfl)<|r_pv rfl rfl (zM Tryz.underlying28 rfl)<|r_pv rfl rfl (zva rfl rfl)<|zj<|ze<|zG rfl (fun hbz=> ?_) (fun hbz=> ?_)
   ·
    have hbz0:b=0:=Big.len_digs_nil.1 (by omega)
    have hfin:a=Nat.gcd (Big.raw s l1).natAbs (Big.raw t l2).natAbs:=by rw [← hgc,hbz0,Nat.gcd_zero_right]
    refine zi<|zc<|r_pv rfl rfl (za rfl)<|zy rfl rfl (.c rfl (.c rfl .n)) ce92 (zcb (s:=false) (a:=a) (p:=pa) (cap:=ca) (hln:=by first|rfl|assumption|omega)) (.c (j:=0) rfl .n) ?_
    rintro ⟨p214,c215⟩ -
    dsimp only [List.append_eq,List.nil_append,List.cons_append]
    refine zn 0 rfl rfl rfl rfl rfl sz30 rfl (.take (.take .nil)) .z<|zj<|ze<|zI<|zp ?_
    exact zE Tryz.results58 (p214,c215) trivial (zt 0 ty30 rfl rfl (.take (.take .nil))) (by rw [← hfin];rfl) (ho:=(.n:PickO _ _ _)) ((.e (j:=0) rfl (by rw [← hfin];rfl) .n):SelR _ _ _)
   ·
    have ha2:(Big.digs a).length≤2:=by omega
    have hb2:(Big.digs b).length≤2:=by omega
    have ha18:=Big.two_lt ha2
    have hb18:=Big.two_lt hb2
    refine zB<|ze<|zi<|zc<|r_pv rfl rfl (za rfl)<|zN rfl rfl (.c rfl .n) ce93 (zud (a:=a) (p:=pa) (cap:=ca) (hb:=by first|rfl|assumption|omega)) (.c (j:=0) rfl .n)<|r_pv rfl rfl (za rfl)<|zN rfl rfl (.c rfl .n) ce93 (zud (a:=b) (p:=pb) (cap:=cb) (hb:=by first|rfl|assumption|omega)) (.c (j:=1) rfl .n)<|r_pv rfl rfl (zd rfl)<|r_pv rfl rfl (zd rfl)<|zj<|ze<|zi<|zA<|zka (X:=Nat×Nat) (fun x:Nat×Nat=>Nat.gcd x.1 x.2=Nat.gcd a b∧x.1<1000000000000000000∧x.2<1000000000000000000) (fun x=>[(10,.int .u64 ((x.2:Nat):Int)),(9,.int .u64 ((x.1:Nat):Int)),(4,.pointer (some ⟨b3,0,none⟩))]) (fun x=>[boxA b3 30 [.bool false,.slice none 0 0],boxA b2 30 [.bool t,.slice p2 n2 c2],boxA b1 30 [.bool s,.slice p1 n1 c1]]) (fun x=>[slF (rI .u32) pa ca (Big.digs a),slF (rI .u32) pb cb (Big.digs b),slF (rI .u32) p26 c27 (Big.digs ((Big.raw t l2).natAbs)),slF (rI .u32) p24 c25 (Big.digs ((Big.raw s l1).natAbs)),slF (rI .u32) p1 c1 l1,slF (rI .u32) p2 c2 l2]) (fun x:Nat×Nat=>x.2) (a,b) (show Nat.gcd a b=Nat.gcd a b∧a<1000000000000000000∧b<1000000000000000000 from by exact ⟨rfl,ha18,hb18⟩) ((.of rfl):SubM _ _) (ho:=((.of [0,0,0] rfl):PickO _ _ _)) ((.of [0,1,2,3,4,5] rfl):SelR _ _ _) ?_
    rintro ⟨q,r⟩ hJ
    replace hJ:Nat.gcd q r=Nat.gcd a b∧q<1000000000000000000∧r<1000000000000000000:=hJ
    try dsimp only
    obtain ⟨hgq,hq18,hr18⟩:=hJ
    have hmr:=Nat.mod_le q r
    refine zi<|zi<|zc<|r_pv rfl rfl (za rfl)<|r_pv rfl rfl (zoa rfl rfl)<|zj<|ze<|zG rfl (fun hy=> ?_) (fun hy=> ?_)
    ·
     refine zB<|ze<|zA<|zea (OW:=[]) (O:=[boxA b3 30 [.bool false,.slice none 0 0],boxA b2 30 [.bool t,.slice p2 n2 c2],boxA b1 30 [.bool s,.slice p1 n1 c1]]) 100000 mixed (.block (.then (.block (.then .ret)))) (by kernel_rfl)<|d_pv 0 rfl rfl (by kernel_rfl) (by kernel_rfl) rfl rfl (za rfl)<|d_pv 1 rfl rfl (by kernel_rfl) (by kernel_rfl) rfl rfl (za rfl)<|d_pv 2 rfl rfl (by kernel_rfl) (by kernel_rfl) rfl rfl (za rfl)<|d_pv 3 rfl rfl (by kernel_rfl) (by kernel_rfl) rfl rfl (zWa (z:=(((q%r):Nat):Int)) rfl rfl (by omega) (remN (by omega) (by omega)))<|d_pv 4 rfl rfl (by kernel_rfl) (by kernel_rfl) rfl rfl (zd rfl)<|d_pv 5 rfl rfl (by kernel_rfl) (by kernel_rfl) rfl rfl (zd rfl)<|zba (by kernel_rfl)<|zT<|zha (r,(q%r)) (show Nat.gcd r (q%r)=Nat.gcd a b∧r<1000000000000000000∧(q%r)<1000000000000000000 from by exact ⟨by rw [Big.gcd_rest,hgq],hr18,by omega⟩) (by exact Nat.mod_lt q (by omega)) ((.of rfl):SubM _ _) (ho:=((.of [0,0,0] rfl):PickO _ _ _)) ((.of [0,1,2,3,4,5] rfl):SelR _ _ _)
    ·
     have hrz:r=0:=by omega
     have hfin:q=Nat.gcd (Big.raw s l1).natAbs (Big.raw t l2).natAbs:=by rw [← hgc,←hgq,hrz,Nat.gcd_zero_right]
     obtain ⟨ht1,ht2⟩:=Big.two_val hq18
     refine zja<|zl<|zl<|zu<|ze<|zi<|zc<|r_pv rfl rfl (za rfl)<|r_pv rfl rfl (zWa (z:=(((q%1000000000):Nat):Int)) rfl rfl (by omega) (remN (by omega) (by omega)))<|r_pv rfl rfl (zC (z:=(((q%1000000000):Nat):Int)) rfl (by rw [Tryz.underlying115];rfl) Tryz.underlying111 (wu32 (by omega)))<|r_pv rfl rfl (za rfl)<|r_pv rfl rfl (zVa (z:=(((q / 1000000000):Nat):Int)) rfl rfl (by omega) (by rw [quoN (z:=(((q / 1000000000):Nat):Int)) (by omega) (by omega)];exact wu64 (by omega)))<|r_pv rfl rfl (zC (z:=(((q / 1000000000):Nat):Int)) rfl (by rw [Tryz.underlying115];rfl) Tryz.underlying111 (wu32 (by omega)))<|zza rfl rfl (zV (enc:=fun z:Int=>[.int .u32 z]) (ok:=InK .u32) (h1:=fun _=>rfl) (h2:=fun _=>rfl) (k:=2) Tryz.underlying28 inf111 rfl (by decide) (by decide) (by decide) (.c (x:=(((q%1000000000):Nat):Int)) rfl rfl (fun _ _=>by exact zv.2 (by omega)) (.c (x:=(((q / 1000000000):Nat):Int)) rfl rfl (fun _ _=>by exact zv.2 (by omega)) .n))) (fun b16 _=> ?_)
     refine zna 0 rfl .z<|zy rfl rfl (.c rfl (.c rfl .n)) ce92 (zHa (s:=false) (p:=some ⟨b16,0,none⟩) (n:=2) (cap:=2) (l:=[(((q%1000000000):Nat):Int),(((q / 1000000000):Nat):Int)]) (hn:=by first|rfl|omega|(simp;done)|(simp;omega)) (ho:=by exact ht1) (hln:=by first|rfl|omega|(simp;done)|(simp;omega))) (.c (j:=0) rfl .n) ?_
     rintro ⟨p217,c218⟩ -
     dsimp only [List.append_eq,List.nil_append,List.cons_append]
     refine zn 1 rfl rfl rfl rfl rfl sz30 rfl (.take (.take .nil)) (.s .z)<|zj<|ze<|zI ?_
     exact zE Tryz.results58 (p217,c218) trivial (zt 1 ty30 rfl rfl (.take (.take .nil))) (by rw [ht2,←hfin];rfl) (ho:=(.n:PickO _ _ _)) ((.e (j:=0) rfl (by rw [ht2,←hfin];rfl) .n):SelR _ _ _)
theorem zXe {x1:Int} {x2:Int} {p1:Option Addr} {c1:Nat} {p2:Option Addr} {c2:Nat} (hb1:Big.ln x1≤549755813888) (hb2:Big.ln x2≤549755813888):Con Tryz.prog 58 [.agg #[.bool (decide ((x1)<0)),.slice (p1) ((Big.digs ((x1).natAbs)).length) (c1)],.agg #[.bool (decide ((x2)<0)),.slice (p2) ((Big.digs ((x2).natAbs)).length) (c2)]] [] [slF (rI .u32) (p1) (c1) (Big.digs ((x1).natAbs)),slF (rI .u32) (p2) (c2) (Big.digs ((x2).natAbs))] (Y:=(Option Addr)×(Nat)) (fun y=>True) (fun y=> .agg #[.bool (decide ((((Nat.gcd x1.natAbs x2.natAbs:Nat):Int))<0)),.slice (y.1) ((Big.digs ((((Nat.gcd x1.natAbs x2.natAbs:Nat):Int)).natAbs)).length) (y.2)]) (fun y=>[]) (fun y=>[slF (rI .u32) (y.1) (y.2) (Big.digs ((((Nat.gcd x1.natAbs x2.natAbs:Nat):Int)).natAbs))]):=by
  have h:= @zle (decide ((x1)<0)) p1 (Big.digs (x1).natAbs).length c1 (Big.digs (x1).natAbs) (decide ((x2)<0)) p2 (Big.digs (x2).natAbs).length c2 (Big.digs (x2).natAbs) rfl rfl hb1 hb2
  rw [Big.raw_big,Big.raw_big] at h
  exact h
theorem zYe {w1:Wd} {w2:Wd} {x1:Int} {x2:Int} (hb1:Big.ln x1≤549755813888) (hb2:Big.ln x2≤549755813888):Con Tryz.prog 58 [.agg #[w1.b,w1.l],.agg #[w2.b,w2.l]] [] [zF w1 (x1),zF w2 (x2)] (Y:=(Wd)) (fun y=>True) (fun y=> .agg #[y.b,y.l]) (fun y=>[]) (fun y=>[zF y (((Nat.gcd x1.natAbs x2.natAbs:Nat):Int))]):=by
  exact zJb (zcc (fun p1 c1 p2 c2=>zXe hb1 hb2))
theorem zvd {s:Bool} {p1:Option Addr} {n1:Nat} {c1:Nat} {l1:List Int} {t:Bool} {p2:Option Addr} {n2:Nat} {c2:Nat} {l2:List Int} (hn1:l1.length=n1) (hn2:l2.length=n2) (hm1:n1≤549755813888) (hm2:n2≤549755813888):Con Tryz.prog 57 [.agg #[.bool s,.slice p1 n1 c1],.agg #[.bool t,.slice p2 n2 c2]] [] [slF (rI .u32) p1 c1 l1,slF (rI .u32) p2 c2 l2] (Y:=Unit) (fun y=>True) (fun y=> .int .i64 ((Big.raw s l1 - Big.raw t l2).sign)) (fun y=>[]) (fun y=>[]):=by
 refine zq Tryz.func57 rfl rfl rfl (fun c=> ?_)
 show RunC _ _ _ _ _ [(0,.agg #[.bool s,.slice p1 n1 c1]),(1,.agg #[.bool t,.slice p2 n2 c2])] [] [slF (rI .u32) p1 c1 l1,slF (rI .u32) p2 c2 l2]
 refine zY 0 rfl (fun hL0=> ?_)
 refine zNa 0 rfl (fun hE0=> ?_)
 refine zY 1 rfl (fun hL1=> ?_)
 refine zNa 1 rfl (fun hE1=> ?_)
 have hnn1:Big.nn l1:=fun g hg=>(zv.1 (hE0 g hg)).1
 have hnn2:Big.nn l2:=fun g hg=>(zv.1 (hE1 g hg)).1
 have hb1:Big.ln (Big.raw s l1)≤n1:=by have:=Big.zOa (s:=s) hnn1;omega
 have hb2:Big.ln (Big.raw t l2)≤n2:=by have:=Big.zOa (s:=t) hnn2;omega
 unfold Big.ln at hb1 hb2
 have hls:=Big.ln_sub (Big.raw s l1) (Big.raw t l2)
 unfold Big.ln at hls
 refine zi<|zc<|zJ rfl rfl (zQ rfl rfl) (fun b1=> ?_)
 refine zJ rfl rfl (zQ rfl rfl) (fun b2=> ?_)
 refine r_pv rfl rfl (zd rfl)<|zj<|ze<|zi<|zc<|r_u rfl rfl (zf 1 ty30 rfl rfl (.take (.take .nil)))<|r_u rfl rfl (zf 0 ty30 rfl rfl (.take (.take .nil)))<|zy rfl rfl (.c rfl (.c rfl .n)) ce90 (zke (s:=s) (p1:=p1) (n1:=n1) (c1:=c1) (l1:=l1) (t:=t) (p2:=p2) (n2:=n2) (c2:=c2) (l2:=l2) (hn1:=by assumption) (hn2:=by assumption) (hm1:=by first|rfl|assumption|omega|(unfold Big.ln;omega)) (hm2:=by first|rfl|assumption|omega|(unfold Big.ln;omega))) (.c (j:=0) rfl (.c (j:=1) rfl .n)) ?_
 rintro ⟨p33,c34⟩ -
 dsimp only [List.append_eq,List.nil_append,List.cons_append]
 refine zN rfl rfl (.c rfl .n) ce56 (zFc (z:=Big.raw s l1 - Big.raw t l2) (p:=p33) (cap:=c34) (hln:=by first|rfl|assumption|omega|(unfold Big.ln;omega))) (.c (j:=0) rfl .n)<|r_pv rfl rfl (zd rfl)<|zj<|ze<|zI ?_
 exact zE Tryz.results57 () trivial (zo rfl) rfl (ho:=(.n:PickO _ _ _)) (.n:SelR _ _ _)
theorem zRc {x1:Int} {x2:Int} {p1:Option Addr} {c1:Nat} {p2:Option Addr} {c2:Nat} (hb1:Big.ln x1≤549755813888) (hb2:Big.ln x2≤549755813888):Con Tryz.prog 57 [.agg #[.bool (decide ((x1)<0)),.slice (p1) ((Big.digs ((x1).natAbs)).length) (c1)],.agg #[.bool (decide ((x2)<0)),.slice (p2) ((Big.digs ((x2).natAbs)).length) (c2)]] [] [slF (rI .u32) (p1) (c1) (Big.digs ((x1).natAbs)),slF (rI .u32) (p2) (c2) (Big.digs ((x2).natAbs))] (Y:=Unit) (fun y=>True) (fun y=> .int .i64 ((x1 - x2).sign)) (fun y=>[]) (fun y=>[]):=by
  have h:= @zvd (decide ((x1)<0)) p1 (Big.digs (x1).natAbs).length c1 (Big.digs (x1).natAbs) (decide ((x2)<0)) p2 (Big.digs (x2).natAbs).length c2 (Big.digs (x2).natAbs) rfl rfl hb1 hb2
  rw [Big.raw_big,Big.raw_big] at h
  exact h
theorem zwd {x1:Int} {x2:Int} {p1:Option Addr} {c1:Nat} {p2:Option Addr} {c2:Nat} (hb1:Big.ln x1≤274877906944) (hb2:Big.ln x2≤274877906944) (hy:x2≠0):Con Tryz.prog 97 [.agg #[.bool (decide (x1<0)),.slice p1 ((Big.digs ((x1).natAbs)).length) c1],.agg #[.bool (decide (x2<0)),.slice p2 ((Big.digs ((x2).natAbs)).length) c2]] [] [slF (rI .u32) p1 c1 (Big.digs ((x1).natAbs)),slF (rI .u32) p2 c2 (Big.digs ((x2).natAbs))] (Y:=(Option Addr)×Nat×(Option Addr)×Nat) (fun y=>True) (fun y=> .tuple #[.agg #[.bool (decide ((Big.fq x1 x2)<0)),.slice (y.1) ((Big.digs ((Big.fq x1 x2).natAbs)).length) (y.2.1)],.agg #[.bool (decide ((Big.fr x1 x2)<0)),.slice (y.2.2.1) ((Big.digs ((Big.fr x1 x2).natAbs)).length) (y.2.2.2)],.int .i64 0]) (fun y=>[]) (fun y=>[slF (rI .u32) (y.1) (y.2.1) (Big.digs ((Big.fq x1 x2).natAbs)),slF (rI .u32) (y.2.2.1) (y.2.2.2) (Big.digs ((Big.fr x1 x2).natAbs))]):=by
 refine zq Tryz.func97 rfl rfl rfl (fun c=> ?_)
 show RunC _ _ _ _ _ [(0,.agg #[.bool (decide (x1<0)),.slice p1 ((Big.digs ((x1).natAbs)).length) c1]),(1,.agg #[.bool (decide (x2<0)),.slice p2 ((Big.digs ((x2).natAbs)).length) c2])] [] [slF (rI .u32) p1 c1 (Big.digs ((x1).natAbs)),slF (rI .u32) p2 c2 (Big.digs ((x2).natAbs))]
 refine zY 0 rfl (fun hL0=> ?_)
 refine zY 1 rfl (fun hL1=> ?_)
 have hfl:=Big.ln_fq (x:=x1) hy
 have hml:=Big.zCa (Big.fq x1 x2) x2
 unfold Big.ln at hb1 hb2 hfl hml
 have hd1:=Nat.div_le_self x1.natAbs x2.natAbs
 have hd2:=Nat.mod_lt x1.natAbs (show 0<x2.natAbs by omega)
 have hl1:=Big.ln_mono' hd1
 have hl2:=Big.ln_mono' (Nat.le_of_lt hd2)
 refine zi<|zc<|zJ rfl rfl (zQ rfl rfl) (fun b1=> ?_)
 refine zJ rfl rfl (zQ rfl rfl) (fun b2=> ?_)
 refine zJ rfl rfl (zw zr30 rfl) (fun b3=> ?_)
 refine zJ rfl rfl (zw zr30 rfl) (fun b4=> ?_)
 refine r_pv rfl rfl (zd rfl)<|zj<|ze<|zi<|zsa (.c (i:=3) rfl (.c (i:=2) rfl (.c (i:=0) rfl (.c (i:=0) rfl .n))))<|zea (OW:=[boxA b1 30 [.bool (decide (x1<0)),.slice p1 ((Big.digs ((x1).natAbs)).length) c1],boxA b2 30 [.bool (decide (x2<0)),.slice p2 ((Big.digs ((x2).natAbs)).length) c2]]) (O:=[boxA b4 30 [.bool false,.slice none 0 0],boxA b3 30 [.bool false,.slice none 0 0]]) 4 mixed (.then .ret) (by kernel_rfl)<|d_uw 0 rfl rfl (by kernel_rfl) (by kernel_rfl) (by kernel_rfl) rfl rfl (zf 0 ty30 rfl rfl (.take (.take .nil)))<|d_uw 2 rfl rfl (by kernel_rfl) (by kernel_rfl) (by kernel_rfl) rfl rfl (zf 1 ty30 rfl rfl (.take (.take .nil)))<|zL 1 (by kernel_rfl) (zH rfl rfl rfl rfl (.c rfl .n) ce89 (zvc (z:=x1) (p:=p1) (cap:=c1) (hln:=by first|rfl|assumption|omega|(unfold Big.ln;omega)|(unfold Big.ln;rw [hsq];omega)|(decide +kernel))) (.c (j:=0) rfl .n) ?_)
 rintro ⟨p25,c26⟩ -
 dsimp only [List.append_eq,List.nil_append,List.cons_append]
 refine zL 3 (by kernel_rfl) (zH rfl rfl rfl rfl (.c rfl .n) ce89 (zvc (z:=x2) (p:=p2) (cap:=c2) (hln:=by first|rfl|assumption|omega|(unfold Big.ln;omega)|(unfold Big.ln;rw [hsq];omega)|(decide +kernel))) (.c (j:=2) rfl .n) ?_)
 rintro ⟨p27,c28⟩ -
 dsimp only [List.append_eq,List.nil_append,List.cons_append]
 refine zL 4 (by kernel_rfl) (zD (by kernel_rfl) rfl rfl rfl rfl rfl sz30 rfl (.take (.take .nil)) ?_)
 refine zJa (zma (i:=1) rfl)<|zL 5 (by kernel_rfl) (zD (by kernel_rfl) rfl rfl rfl rfl rfl sz30 rfl (.take (.take .nil)) ?_)
 refine zba (by kernel_rfl)<|ze<|zi<|zi<|zc<|r_pv rfl rfl (zg Tryz.underlying30 rfl sz28 rfl rfl)<|r_u rfl rfl (zh 0 ty28 rfl rfl rfl)<|r_pv rfl rfl (zM Tryz.underlying28 rfl)<|r_pv rfl rfl (zva rfl rfl)<|zj<|ze<|zG rfl (fun h9=> ?_) (fun h9=> ?_)
 ·
  exact absurd (Big.len_digs_nil.1 (show (Big.digs x2.natAbs).length=0 by omega)) (by omega)
 ·
  refine zB<|ze<|zi<|zc<|r_pv rfl rfl (zg Tryz.underlying30 rfl sz28 rfl rfl)<|r_u rfl rfl (zh 1 ty28 rfl rfl rfl)<|r_pv rfl rfl (zg Tryz.underlying30 rfl sz28 rfl rfl)<|r_u rfl rfl (zh 0 ty28 rfl rfl rfl)<|zy rfl rfl (.c rfl (.c rfl .n)) ce91 (zHc (a:=(x1).natAbs) (b:=(x2).natAbs) (p1:=p25) (c1:=c26) (p2:=p27) (c2:=c28) (hb1:=by first|rfl|assumption|omega|(unfold Big.ln;omega)|(unfold Big.ln;rw [hsq];omega)|(decide +kernel)) (hb2:=by first|rfl|assumption|omega|(unfold Big.ln;omega)|(unfold Big.ln;rw [hsq];omega)|(decide +kernel)) (hb0:=by first|rfl|assumption|omega|(unfold Big.ln;omega)|(unfold Big.ln;rw [hsq];omega)|(decide +kernel))) (.c (j:=1) rfl (.c (j:=0) rfl .n)) ?_
  rintro ⟨p310,c311,p412,c413⟩ -
  dsimp only [List.append_eq,List.nil_append,List.cons_append]
  refine r_pv rfl rfl (za rfl)<|r_pv rfl rfl (zr rfl rfl)<|r_pv rfl rfl (zr rfl rfl)<|r_pv rfl rfl (zd rfl)<|r_pv rfl rfl (zd rfl)<|zj<|ze<|zi ?_
  obtain ⟨Q,hQ⟩:∃z,z=((x1).natAbs) / ((x2).natAbs):=⟨_,rfl⟩
  rw [← hQ]
  obtain ⟨R0,hR0⟩:∃z,z=((x1).natAbs)%((x2).natAbs):=⟨_,rfl⟩
  rw [← hR0]
  rw [← hQ] at hl1
  rw [← hR0] at hl2
  have hsq:(Big.sg (decide (decide (x1<0)≠decide (x2<0))) (Q:Int)).natAbs=Q:=by rw [Big.sg_abs (by omega)];exact Int.toNat_natCast _
  refine zc<|r_pv rfl rfl (zg Tryz.underlying30 rfl sz4 rfl rfl)<|r_u rfl rfl (zh 1 ty4 rfl rfl rfl)<|r_pv rfl rfl (zg Tryz.underlying30 rfl sz4 rfl rfl)<|r_u rfl rfl (zh 0 ty4 rfl rfl rfl)<|r_pv rfl rfl (zFa Tryz.underlying4 rfl rfl)<|r_pv rfl rfl (za rfl)<|zy rfl rfl (.c rfl (.c rfl .n)) ce92 (zcb (s:=decide (decide (x1<0)≠decide (x2<0))) (a:=Q) (p:=p310) (cap:=c311) (hln:=by first|rfl|assumption|omega|(unfold Big.ln;omega)|(unfold Big.ln;rw [hsq];omega)|(decide +kernel))) (.c (j:=0) rfl .n) ?_
  rintro ⟨p214,c215⟩ -
  dsimp only [List.append_eq,List.nil_append,List.cons_append]
  refine zJ rfl rfl (zw zr30 rfl) (fun b16=> ?_)
  refine zn 0 rfl rfl rfl rfl rfl sz30 rfl (.take (.take .nil)) .z<|zj<|ze<|zi<|zi<|zc<|r_pv rfl rfl (zg Tryz.underlying30 rfl sz4 rfl rfl)<|r_u rfl rfl (zh 2 ty4 rfl rfl rfl)<|r_pv rfl rfl (zg Tryz.underlying30 rfl sz4 rfl rfl)<|r_u rfl rfl (zh 1 ty4 rfl rfl rfl)<|r_pv rfl rfl (zFa Tryz.underlying4 rfl rfl)<|zP rfl rfl (za rfl) (fun hsd=> ?_) (fun hsd=> ?_)
  ·
   refine r_pv rfl rfl (za rfl)<|r_pv rfl rfl (zM Tryz.underlying28 rfl)<|r_pv rfl rfl (zoa rfl rfl)<|r_pv rfl rfl (zm rfl rfl)<|zj<|ze<|zG rfl (fun hadj=> ?_) (fun hadj=> ?_)
   ·
    have hr0:x1.natAbs%x2.natAbs≠0:=fun e=>by rw [hR0,e,Big.digs_zero] at hadj;exact absurd hadj (by decide)
    have hqz:Big.sg (decide (decide (x1<0)≠decide (x2<0))) (Q:Int) - 1=Big.fq x1 x2:=by have h9:=(Big.fq_odd hy hsd hr0).1;rw [← h9,decide_eq_true hsd,hQ,Big.sg_t,Big.sg_t];omega
    refine zea (OW:=[boxA b16 30 [.bool (decide ((Big.sg (decide (decide (x1<0)≠decide (x2<0))) (Q:Int))<0)),.slice p214 ((Big.digs ((Big.sg (decide (decide (x1<0)≠decide (x2<0))) (Q:Int)).natAbs)).length) c215]]) (O:=[boxA b2 30 [.bool (decide (x2<0)),.slice p27 ((Big.digs ((x2).natAbs)).length) c28],boxA b1 30 [.bool (decide (x1<0)),.slice p25 ((Big.digs ((x1).natAbs)).length) c26],boxA b4 30 [.bool false,.slice none 0 0],boxA b3 30 [.bool false,.slice none 0 0]]) 3 mixed (.then .ret) (by kernel_rfl)<|d_uw 0 rfl rfl (by kernel_rfl) (by kernel_rfl) (by kernel_rfl) rfl rfl (zf 0 ty30 rfl rfl (.take (.take .nil)))<|zL 1 (by kernel_rfl) (zH rfl rfl rfl rfl (.c rfl .n) ce72 (zSe (z:=1) (hz:=by first|rfl|assumption|omega|(unfold Big.ln;omega)|(unfold Big.ln;rw [hsq];omega)|(decide +kernel))) (.n) ?_)
    rintro ⟨p217,c218⟩ -
    dsimp only [List.append_eq,List.nil_append,List.cons_append]
    refine zL 2 (by kernel_rfl) (zH rfl rfl rfl rfl (.c rfl (.c rfl .n)) ce90 (zTb (x1:=Big.sg (decide (decide (x1<0)≠decide (x2<0))) (Q:Int)) (x2:=1) (p1:=p214) (c1:=c215) (p2:=p217) (c2:=c218) (hb1:=by first|rfl|assumption|omega|(unfold Big.ln;omega)|(unfold Big.ln;rw [hsq];omega)|(decide +kernel)) (hb2:=by first|rfl|assumption|omega|(unfold Big.ln;omega)|(unfold Big.ln;rw [hsq];omega)|(decide +kernel))) (.c (j:=1) rfl (.c (j:=0) rfl .n)) ?_)
    rintro ⟨p319,c320⟩ -
    dsimp only [List.append_eq,List.nil_append,List.cons_append]
    refine zL 3 (by kernel_rfl) (zD (by kernel_rfl) rfl rfl rfl rfl rfl sz30 rfl (.take (.take .nil)) ?_)
    refine zba (by kernel_rfl)<|ze<|zi ?_
    have e21:(Big.sg (decide (decide (x1<0)≠decide (x2<0))) (Q:Int)) - 1=Big.fq x1 x2:=by exact hqz
    rw [e21]
    refine zsa (.c (i:=4) rfl (.c (i:=3) rfl (.c (i:=0) rfl (.c (i:=0) rfl (.c (i:=0) rfl .n)))))<|zea (OW:=[boxA b3 30 [.bool false,.slice none 0 0],boxA b4 30 [.bool false,.slice none 0 0]]) (O:=[boxA b16 30 [.bool (decide ((Big.fq x1 x2)<0)),.slice p319 ((Big.digs ((Big.fq x1 x2).natAbs)).length) c320],boxA b2 30 [.bool (decide (x2<0)),.slice p27 ((Big.digs ((x2).natAbs)).length) c28],boxA b1 30 [.bool (decide (x1<0)),.slice p25 ((Big.digs ((x1).natAbs)).length) c26]]) 6 mixed (.then .ret) (by kernel_rfl)<|d_uw 0 rfl rfl (by kernel_rfl) (by kernel_rfl) (by kernel_rfl) rfl rfl (zf 2 ty30 rfl rfl (.take (.take .nil)))<|d_uw 1 rfl rfl (by kernel_rfl) (by kernel_rfl) (by kernel_rfl) rfl rfl (zf 4 ty30 rfl rfl (.take (.take .nil)))<|d_uw 2 rfl rfl (by kernel_rfl) (by kernel_rfl) (by kernel_rfl) rfl rfl (zf 2 ty30 rfl rfl (.take (.take .nil)))<|d_uw 3 rfl rfl (by kernel_rfl) (by kernel_rfl) (by kernel_rfl) rfl rfl (zf 3 ty30 rfl rfl (.take (.take .nil)))<|zL 4 (by kernel_rfl) (zH rfl rfl rfl rfl (.c rfl (.c rfl .n)) ce69 (zUb (x1:=Big.fq x1 x2) (x2:=x2) (p1:=p319) (c1:=c320) (p2:=p27) (c2:=c28) (hb1:=by first|rfl|assumption|omega|(unfold Big.ln;omega)|(unfold Big.ln;rw [hsq];omega)|(decide +kernel)) (hb2:=by first|rfl|assumption|omega|(unfold Big.ln;omega)|(unfold Big.ln;rw [hsq];omega)|(decide +kernel))) (.c (j:=0) rfl (.c (j:=5) rfl .n)) ?_)
    rintro ⟨p322,c323⟩ -
    dsimp only [List.append_eq,List.nil_append,List.cons_append]
    refine zL 5 (by kernel_rfl) (zH rfl rfl rfl rfl (.c rfl (.c rfl .n)) ce90 (zTb (x1:=x1) (x2:=(Big.fq x1 x2)*x2) (p1:=p25) (c1:=c26) (p2:=p322) (c2:=c323) (hb1:=by first|rfl|assumption|omega|(unfold Big.ln;omega)|(unfold Big.ln;rw [hsq];omega)|(decide +kernel)) (hb2:=by first|rfl|assumption|omega|(unfold Big.ln;omega)|(unfold Big.ln;rw [hsq];omega)|(decide +kernel))) (.c (j:=7) rfl (.c (j:=0) rfl .n)) ?_)
    rintro ⟨p324,c325⟩ -
    dsimp only [List.append_eq,List.nil_append,List.cons_append]
    refine zL 6 (by kernel_rfl) (zD (by kernel_rfl) rfl rfl rfl rfl rfl sz30 rfl (.take (.take .nil)) ?_)
    refine zJa (zma (i:=1) rfl)<|zL 7 (by kernel_rfl) (zD (by kernel_rfl) rfl rfl rfl rfl rfl sz30 rfl (.take (.take .nil)) ?_)
    refine d_pv 8 rfl rfl (by kernel_rfl) (by kernel_rfl) rfl rfl (zd rfl)<|zba (by kernel_rfl)<|ze<|zI ?_
    have hz2:x1 - Big.fq x1 x2*x2=Big.fr x1 x2:=by unfold Big.fr;rw [Int.mul_comm]
    exact zzb Tryz.results97 (p319,c320,p324,c325) trivial (zt 1 ty30 rfl rfl (.take (.take .nil))) (zt 0 ty30 rfl rfl (.take (.take .nil))) (zo rfl) (by rw [hz2]) (ho:=(.n:PickO _ _ _)) ((.c (j:=2) rfl (.e (j:=0) rfl (by rw [hz2]) .n)):SelR _ _ _)
   ·
    have hr0:x1.natAbs%x2.natAbs=0:=Big.len_digs_nil.1 (by rw [← hR0];omega)
    have hqz:Big.sg (decide (decide (x1<0)≠decide (x2<0))) (Q:Int)=Big.fq x1 x2:=by rw [decide_eq_true hsd,hQ];exact (Big.fq_even hy hsd hr0).1
    refine zB<|ze<|zi ?_
    have e26:Big.sg (decide (decide (x1<0)≠decide (x2<0))) (Q:Int)=Big.fq x1 x2:=by exact hqz
    rw [e26]
    refine zsa (.c (i:=4) rfl (.c (i:=3) rfl (.c (i:=0) rfl (.c (i:=0) rfl (.c (i:=0) rfl .n)))))<|zea (OW:=[boxA b3 30 [.bool false,.slice none 0 0],boxA b4 30 [.bool false,.slice none 0 0]]) (O:=[boxA b16 30 [.bool (decide ((Big.fq x1 x2)<0)),.slice p214 ((Big.digs ((Big.fq x1 x2).natAbs)).length) c215],boxA b2 30 [.bool (decide (x2<0)),.slice p27 ((Big.digs ((x2).natAbs)).length) c28],boxA b1 30 [.bool (decide (x1<0)),.slice p25 ((Big.digs ((x1).natAbs)).length) c26]]) 6 mixed (.then .ret) (by kernel_rfl)<|d_uw 0 rfl rfl (by kernel_rfl) (by kernel_rfl) (by kernel_rfl) rfl rfl (zf 2 ty30 rfl rfl (.take (.take .nil)))<|d_uw 1 rfl rfl (by kernel_rfl) (by kernel_rfl) (by kernel_rfl) rfl rfl (zf 4 ty30 rfl rfl (.take (.take .nil)))<|d_uw 2 rfl rfl (by kernel_rfl) (by kernel_rfl) (by kernel_rfl) rfl rfl (zf 2 ty30 rfl rfl (.take (.take .nil)))<|d_uw 3 rfl rfl (by kernel_rfl) (by kernel_rfl) (by kernel_rfl) rfl rfl (zf 3 ty30 rfl rfl (.take (.take .nil)))<|zL 4 (by kernel_rfl) (zH rfl rfl rfl rfl (.c rfl (.c rfl .n)) ce69 (zUb (x1:=Big.fq x1 x2) (x2:=x2) (p1:=p214) (c1:=c215) (p2:=p27) (c2:=c28) (hb1:=by first|rfl|assumption|omega|(unfold Big.ln;omega)|(unfold Big.ln;rw [hsq];omega)|(decide +kernel)) (hb2:=by first|rfl|assumption|omega|(unfold Big.ln;omega)|(unfold Big.ln;rw [hsq];omega)|(decide +kernel))) (.c (j:=0) rfl (.c (j:=3) rfl .n)) ?_)
    rintro ⟨p327,c328⟩ -
    dsimp only [List.append_eq,List.nil_append,List.cons_append]
    refine zL 5 (by kernel_rfl) (zH rfl rfl rfl rfl (.c rfl (.c rfl .n)) ce90 (zTb (x1:=x1) (x2:=(Big.fq x1 x2)*x2) (p1:=p25) (c1:=c26) (p2:=p327) (c2:=c328) (hb1:=by first|rfl|assumption|omega|(unfold Big.ln;omega)|(unfold Big.ln;rw [hsq];omega)|(decide +kernel)) (hb2:=by first|rfl|assumption|omega|(unfold Big.ln;omega)|(unfold Big.ln;rw [hsq];omega)|(decide +kernel))) (.c (j:=5) rfl (.c (j:=0) rfl .n)) ?_)
    rintro ⟨p329,c330⟩ -
    dsimp only [List.append_eq,List.nil_append,List.cons_append]
    refine zL 6 (by kernel_rfl) (zD (by kernel_rfl) rfl rfl rfl rfl rfl sz30 rfl (.take (.take .nil)) ?_)
    refine zJa (zma (i:=1) rfl)<|zL 7 (by kernel_rfl) (zD (by kernel_rfl) rfl rfl rfl rfl rfl sz30 rfl (.take (.take .nil)) ?_)
    refine d_pv 8 rfl rfl (by kernel_rfl) (by kernel_rfl) rfl rfl (zd rfl)<|zba (by kernel_rfl)<|ze<|zI ?_
    have hz2:x1 - Big.fq x1 x2*x2=Big.fr x1 x2:=by unfold Big.fr;rw [Int.mul_comm]
    exact zzb Tryz.results97 (p214,c215,p329,c330) trivial (zt 1 ty30 rfl rfl (.take (.take .nil))) (zt 0 ty30 rfl rfl (.take (.take .nil))) (zo rfl) (by rw [hz2]) (ho:=(.n:PickO _ _ _)) ((.c (j:=2) rfl (.e (j:=0) rfl (by rw [hz2]) .n)):SelR _ _ _)
  ·
   have hs9:=Decidable.not_not.1 hsd
   have hqz:Big.sg (decide (decide (x1<0)≠decide (x2<0))) (Q:Int)=Big.fq x1 x2:=by rw [decide_eq_false hsd,hQ];exact (Big.fq_same hy hs9).1
   refine zb rfl rfl<|zb rfl rfl<|zb rfl rfl<|r_pv rfl rfl (zm rfl rfl)<|zj<|ze<|zZa rfl rfl<|zB<|ze<|zi ?_
   have e31:Big.sg (decide (decide (x1<0)≠decide (x2<0))) (Q:Int)=Big.fq x1 x2:=by exact hqz
   rw [e31]
   refine zsa (.c (i:=4) rfl (.c (i:=3) rfl (.c (i:=0) rfl (.c (i:=0) rfl (.c (i:=0) rfl .n)))))<|zea (OW:=[boxA b3 30 [.bool false,.slice none 0 0],boxA b4 30 [.bool false,.slice none 0 0]]) (O:=[boxA b16 30 [.bool (decide ((Big.fq x1 x2)<0)),.slice p214 ((Big.digs ((Big.fq x1 x2).natAbs)).length) c215],boxA b2 30 [.bool (decide (x2<0)),.slice p27 ((Big.digs ((x2).natAbs)).length) c28],boxA b1 30 [.bool (decide (x1<0)),.slice p25 ((Big.digs ((x1).natAbs)).length) c26]]) 6 mixed (.then .ret) (by kernel_rfl)<|d_uw 0 rfl rfl (by kernel_rfl) (by kernel_rfl) (by kernel_rfl) rfl rfl (zf 2 ty30 rfl rfl (.take (.take .nil)))<|d_uw 1 rfl rfl (by kernel_rfl) (by kernel_rfl) (by kernel_rfl) rfl rfl (zf 4 ty30 rfl rfl (.take (.take .nil)))<|d_uw 2 rfl rfl (by kernel_rfl) (by kernel_rfl) (by kernel_rfl) rfl rfl (zf 2 ty30 rfl rfl (.take (.take .nil)))<|d_uw 3 rfl rfl (by kernel_rfl) (by kernel_rfl) (by kernel_rfl) rfl rfl (zf 3 ty30 rfl rfl (.take (.take .nil)))<|zL 4 (by kernel_rfl) (zH rfl rfl rfl rfl (.c rfl (.c rfl .n)) ce69 (zUb (x1:=Big.fq x1 x2) (x2:=x2) (p1:=p214) (c1:=c215) (p2:=p27) (c2:=c28) (hb1:=by first|rfl|assumption|omega|(unfold Big.ln;omega)|(unfold Big.ln;rw [hsq];omega)|(decide +kernel)) (hb2:=by first|rfl|assumption|omega|(unfold Big.ln;omega)|(unfold Big.ln;rw [hsq];omega)|(decide +kernel))) (.c (j:=0) rfl (.c (j:=3) rfl .n)) ?_)
   rintro ⟨p332,c333⟩ -
   dsimp only [List.append_eq,List.nil_append,List.cons_append]
   refine zL 5 (by kernel_rfl) (zH rfl rfl rfl rfl (.c rfl (.c rfl .n)) ce90 (zTb (x1:=x1) (x2:=(Big.fq x1 x2)*x2) (p1:=p25) (c1:=c26) (p2:=p332) (c2:=c333) (hb1:=by first|rfl|assumption|omega|(unfold Big.ln;omega)|(unfold Big.ln;rw [hsq];omega)|(decide +kernel)) (hb2:=by first|rfl|assumption|omega|(unfold Big.ln;omega)|(unfold Big.ln;rw [hsq];omega)|(decide +kernel))) (.c (j:=5) rfl (.c (j:=0) rfl .n)) ?_)
   rintro ⟨p334,c335⟩ -
   dsimp only [List.append_eq,List.nil_append,List.cons_append]
   refine zL 6 (by kernel_rfl) (zD (by kernel_rfl) rfl rfl rfl rfl rfl sz30 rfl (.take (.take .nil)) ?_)
   refine zJa (zma (i:=1) rfl)<|zL 7 (by kernel_rfl) (zD (by kernel_rfl) rfl rfl rfl rfl rfl sz30 rfl (.take (.take .nil)) ?_)
   refine d_pv 8 rfl rfl (by kernel_rfl) (by kernel_rfl) rfl rfl (zd rfl)<|zba (by kernel_rfl)<|ze<|zI ?_
   have hz2:x1 - Big.fq x1 x2*x2=Big.fr x1 x2:=by unfold Big.fr;rw [Int.mul_comm]
   exact zzb Tryz.results97 (p214,c215,p334,c335) trivial (zt 1 ty30 rfl rfl (.take (.take .nil))) (zt 0 ty30 rfl rfl (.take (.take .nil))) (zo rfl) (by rw [hz2]) (ho:=(.n:PickO _ _ _)) ((.c (j:=2) rfl (.e (j:=0) rfl (by rw [hz2]) .n)):SelR _ _ _)
theorem zhb {w1:Wd} {w2:Wd} {x1:Int} {x2:Int} (hb1:Big.ln x1≤274877906944) (hb2:Big.ln x2≤274877906944) (hy:x2≠0):Con Tryz.prog 97 [.agg #[w1.b,w1.l],.agg #[w2.b,w2.l]] [] [zF w1 (x1),zF w2 (x2)] (Y:=(Wd)×(Wd)) (fun y=>True) (fun y=> .tuple #[.agg #[y.1.b,y.1.l],.agg #[y.2.b,y.2.l],.int .i64 (0)]) (fun y=>[]) (fun y=>[zF y.1 (Big.fq x1 x2),zF y.2 (Big.fr x1 x2)]):=by
  exact zJe (zcc (fun p1 c1 p2 c2=>zwd hb1 hb2 hy))
end Go.Proofs.YtkamccndgblheaaGreat.Sp
namespace Go.Proofs.YtkamccndgblheaaGreat.Sp
open Go
set_option linter.unusedVariables false
set_option maxRecDepth 100000
set_option maxHeartbeats 1000000
theorem zIc {z:Int} (hz: -9223372036854775808≤z∧z≤9223372036854775807):Con Tryz.prog 44 [.int .i64 z] [] [] (Y:=(Option Addr)×Nat) (fun y=>True) (fun y=> .agg #[.bool (decide (z<0)),.slice (y.1) ((Big.digs ((z).natAbs)).length) (y.2)]) (fun y=>[]) (fun y=>[slF (rI .u32) (y.1) (y.2) (Big.digs ((z).natAbs))]):=by
 refine zq Tryz.func44 rfl rfl rfl (fun c=> ?_)
 show RunC _ _ _ _ _ [(0,.int .i64 z)] [] []
 refine zi<|zc<|zJ rfl rfl (zw zr30 rfl) (fun b1=> ?_)
 refine zj<|ze<|zi<|zc<|r_pv rfl rfl (za rfl)<|zy rfl rfl (.c rfl .n) ce72 (zSe (z:=z) (hz:=by assumption)) (.n) ?_
 rintro ⟨p22,c23⟩ -
 dsimp only [List.append_eq,List.nil_append,List.cons_append]
 refine zn 0 rfl rfl rfl rfl rfl sz30 rfl (.take (.take .nil)) .z<|zj<|ze<|zI ?_
 exact zE Tryz.results44 (p22,c23) trivial (zt 0 ty30 rfl rfl (.take (.take .nil))) rfl (ho:=(.n:PickO _ _ _)) ((.c (j:=0) rfl .n):SelR _ _ _)
theorem zub {z:Int} (hz: -9223372036854775808≤z∧z≤9223372036854775807):Con Tryz.prog 44 [.int .i64 (z)] [] [] (Y:=(Wd)) (fun y=>True) (fun y=> .agg #[y.b,y.l]) (fun y=>[]) (fun y=>[zF y (z)]):=by
  exact zJb (zIc hz)
theorem znb {z:Int} (hz: -9223372036854775808≤z∧z≤9223372036854775807):Con Tryz.prog 16 [.int .i64 z] [] [] (Y:=Wd×Wd) (fun y=>True) (fun y=> .agg #[y.1.b,y.1.l,y.2.b,y.2.l]) (fun y=>[]) (fun y=>[qF true y.1 y.2 ((z:Int):Rat)]):=by
 refine zq Tryz.func16 rfl rfl rfl (fun c=> ?_)
 show RunC _ _ _ _ _ [(0,.int .i64 z)] [] []
 refine zi<|zc<|zJ rfl rfl (zw zr32 rfl) (fun b1=> ?_)
 refine zj<|ze<|zi<|zc<|r_pv rfl rfl (za rfl)<|zy rfl rfl (.c rfl .n) ce44 (zub (z:=z) (hz:=by assumption)) (.n) ?_
 rintro w32 -
 dsimp only [List.append_eq,List.nil_append,List.cons_append]
 refine zy rfl rfl (.c rfl .n) ce44 (zub (z:=1) (hz:=by first|rfl|assumption|omega|(rw [Big.zO];omega)|(decide +kernel))) (.n) ?_
 rintro w33 -
 dsimp only [List.append_eq,List.nil_append,List.cons_append]
 refine r_pv rfl rfl (zK zr32 rfl Tryz.underlying32 (.c sz30 (.c sz30 .n)) (.c rfl (.c rfl .n)) (.c rfl rfl rfl (.take (.take .nil)) (.c rfl rfl rfl (.skip (.skip (.take (.take .nil)))) .n)))<|zn 0 rfl rfl rfl rfl rfl sz32 rfl (.take (.take (.take (.take .nil)))) .z<|zj<|ze<|zI<|zab (qF true w32 w33 ((z:Int):Rat)) (qF_close 1 0 rfl rfl (by exact ⟨(Rat.num_intCast z).symm,by rw [Rat.den_intCast];rfl,Nat.le_trans (Big.hq_64 hz.1 hz.2) (by decide)⟩)) ?_
 exact zE Tryz.results16 (w32,w33) trivial (zt 0 ty32 rfl rfl (.take (.take (.take (.take .nil))))) rfl (ho:=(.n:PickO _ _ _)) ((.c (j:=0) rfl .n):SelR _ _ _)
theorem zLb {s:Bool} {p1:Option Addr} {n1:Nat} {c1:Nat} {l1:List Int} {t:Bool} {p2:Option Addr} {n2:Nat} {c2:Nat} {l2:List Int} (hn1:l1.length=n1) (hn2:l2.length=n2) (hm1:n1≤1048576) (hm2:n2≤1048576):Con Tryz.prog 28 [.agg #[.bool s,.slice p1 n1 c1,.bool t,.slice p2 n2 c2]] [] [slF (rI .u32) p1 c1 l1,slF (rI .u32) p2 c2 l2] (Y:=Unit) (fun y=>True) (fun y=> .bool (decide (Big.qok ((s,l1),(t,l2))))) (fun y=>[]) (fun y=>[]):=by
 refine zq Tryz.func28 rfl rfl rfl (fun c=> ?_)
 show RunC _ _ _ _ _ [(0,.agg #[.bool s,.slice p1 n1 c1,.bool t,.slice p2 n2 c2])] [] [slF (rI .u32) p1 c1 l1,slF (rI .u32) p2 c2 l2]
 refine zY 0 rfl (fun hL0=> ?_)
 refine zNa 0 rfl (fun hE0=> ?_)
 refine zY 1 rfl (fun hL1=> ?_)
 refine zNa 1 rfl (fun hE1=> ?_)
 have hnn1:Big.nn l1:=fun g hg=>(zv.1 (hE0 g hg)).1
 have hnn2:Big.nn l2:=fun g hg=>(zv.1 (hE1 g hg)).1
 have hb1:Big.ln (Big.raw s l1)≤n1:=by have:=Big.zOa (s:=s) hnn1;omega
 have hb2:Big.ln (Big.raw t l2)≤n2:=by have:=Big.zOa (s:=t) hnn2;omega
 refine zi<|zc<|zJ rfl rfl (zQ rfl rfl) (fun b1=> ?_)
 refine r_pv rfl rfl (zd rfl)<|zj<|ze<|zi<|zGa (X:=Unit) (fun x=>True) (fun x=>[(18,.bool (decide (¬(Big.canon s l1∧Big.canon t l2∧0<Big.raw t l2)))),(2,.bool false),(1,.pointer (some ⟨b1,0,none⟩))]) (fun x=>[boxA b1 32 [.bool s,.slice p1 n1 c1,.bool t,.slice p2 n2 c2]]) (fun x=>[slF (rI .u32) p1 c1 l1,slF (rI .u32) p2 c2 l2]) ?_ ?_
 ·
  refine zc<|r_pv rfl rfl (zg Tryz.underlying32 rfl sz30 rfl rfl)<|r_u rfl rfl (zf 0 ty30 rfl rfl (.take (.take .nil)))<|zN rfl rfl (.c rfl .n) ce55 (zYb (s:=s) (p:=p1) (n:=n1) (cap:=c1) (l:=l1) (hn:=by assumption)) (.c (j:=0) rfl .n)<|r_pv rfl rfl (zXa rfl)<|zP rfl rfl (za rfl) (fun h2=> ?_) (fun h2=> ?_)
  ·
   refine zb rfl rfl<|zb rfl rfl<|zb rfl rfl<|zb rfl rfl<|r_pv rfl rfl (zm rfl rfl)<|r_pv rfl rfl (za rfl)<|zb rfl rfl<|zb rfl rfl<|zb rfl rfl<|zb rfl rfl<|r_pv rfl rfl (zm rfl rfl)<|zj ?_
   exact zca () (show True from by first|trivial|omega|simp_all) ((.e rfl (congrArg Value.bool (by simp_all)) (.c rfl (.c rfl .n))):SubM _ _) (ho:=((.c (i:=0) rfl .n):PickO _ _ _)) ((.of [0,1] rfl):SelR _ _ _)
  ·
   refine r_pv rfl rfl (zg Tryz.underlying32 rfl sz30 rfl rfl)<|r_u rfl rfl (zf 0 ty30 rfl rfl (.skip (.skip (.take (.take .nil)))))<|zN rfl rfl (.c rfl .n) ce55 (zYb (s:=t) (p:=p2) (n:=n2) (cap:=c2) (l:=l2) (hn:=by assumption)) (.c (j:=1) rfl .n)<|r_pv rfl rfl (zXa rfl)<|r_pv rfl rfl (zm rfl rfl)<|zP rfl rfl (za rfl) (fun h3=> ?_) (fun h3=> ?_)
   ·
    refine zb rfl rfl<|zb rfl rfl<|zb rfl rfl<|zb rfl rfl<|r_pv rfl rfl (zm rfl rfl)<|zj ?_
    exact zca () (show True from by first|trivial|omega|simp_all) ((.e rfl (congrArg Value.bool (by simp_all)) (.c rfl (.c rfl .n))):SubM _ _) (ho:=((.c (i:=0) rfl .n):PickO _ _ _)) ((.of [0,1] rfl):SelR _ _ _)
   ·
    refine r_pv rfl rfl (zg Tryz.underlying32 rfl sz30 rfl rfl)<|r_u rfl rfl (zf 0 ty30 rfl rfl (.skip (.skip (.take (.take .nil)))))<|zN rfl rfl (.c rfl .n) ce56 (zsd (s:=t) (p:=p2) (n:=n2) (cap:=c2) (l:=l2) (hn:=by assumption) (hln:=by first|rfl|assumption|omega|(rw [Big.zO];omega)|(decide +kernel))) (.c (j:=1) rfl .n)<|r_pv rfl rfl (zdb rfl rfl)<|r_pv rfl rfl (zm rfl rfl)<|zj ?_
    exact zca () (show True from by first|trivial|omega|simp_all) ((.e rfl (congrArg Value.bool (by exact decide_eq_decide.2 (Big.sgn_le (Decidable.not_not.1 ‹_›) (Decidable.not_not.1 ‹_›)))) (.c rfl (.c rfl .n))):SubM _ _) (ho:=((.c (i:=0) rfl .n):PickO _ _ _)) ((.of [0,1] rfl):SelR _ _ _)
 ·
  rintro ⟨⟩ -
  try dsimp only
  refine zG rfl (fun hc=> ?_) (fun hc=> ?_)
  ·
   refine zi<|zc<|r_pv rfl rfl (zd rfl)<|zj<|ze<|zI<|zp ?_
   exact zE Tryz.results28 () trivial (zo rfl) (congrArg Value.bool (decide_eq_false (fun h=>hc ⟨h.1,h.2.1,h.2.2.1⟩))) (ho:=(.n:PickO _ _ _)) (.n:SelR _ _ _)
  ·
   have hcc:=Decidable.not_not.1 hc
   have hgl:=Big.zjd (n:=Big.raw s l1) (d:=Big.raw t l2) (by omega)
   refine zB<|ze<|zi<|zc<|r_pv rfl rfl (zg Tryz.underlying32 rfl sz30 rfl rfl)<|r_u rfl rfl (zf 0 ty30 rfl rfl (.take (.take .nil)))<|r_pv rfl rfl (zg Tryz.underlying32 rfl sz30 rfl rfl)<|r_u rfl rfl (zf 0 ty30 rfl rfl (.skip (.skip (.take (.take .nil)))))<|zy rfl rfl (.c rfl (.c rfl .n)) ce58 (zle (s:=s) (p1:=p1) (n1:=n1) (c1:=c1) (l1:=l1) (t:=t) (p2:=p2) (n2:=n2) (c2:=c2) (l2:=l2) (hn1:=by assumption) (hn2:=by assumption) (hm1:=by first|rfl|assumption|omega|(rw [Big.zO];omega)|(decide +kernel)) (hm2:=by first|rfl|assumption|omega|(rw [Big.zO];omega)|(decide +kernel))) (.c (j:=0) rfl (.c (j:=1) rfl .n)) ?_
   rintro ⟨p34,c35⟩ -
   dsimp only [List.append_eq,List.nil_append,List.cons_append]
   refine zy rfl rfl (.c rfl .n) ce44 (zIc (z:=1) (hz:=by first|rfl|assumption|omega|(rw [Big.zO];omega)|(decide +kernel))) (.n) ?_
   rintro ⟨p26,c27⟩ -
   dsimp only [List.append_eq,List.nil_append,List.cons_append]
   refine zN rfl rfl (.c rfl (.c rfl .n)) ce57 (zRc (x1:=((Nat.gcd (Big.raw s l1).natAbs (Big.raw t l2).natAbs:Nat):Int)) (x2:=1) (p1:=p34) (c1:=c35) (p2:=p26) (c2:=c27) (hb1:=by first|rfl|assumption|omega|(rw [Big.zO];omega)|(decide +kernel)) (hb2:=by first|rfl|assumption|omega|(rw [Big.zO];omega)|(decide +kernel))) (.c (j:=1) rfl (.c (j:=0) rfl .n))<|r_pv rfl rfl (zva rfl rfl)<|r_pv rfl rfl (zd rfl)<|zj<|ze<|zI ?_
   exact zE Tryz.results28 () trivial (zo rfl) (congrArg Value.bool (decide_eq_decide.2 (Big.qok_sub (x:=((s,l1),(t,l2))) (Decidable.not_not.1 hc)).symm)) (ho:=(.n:PickO _ _ _)) (.n:SelR _ _ _)
theorem zec {u1:Wd} {v1:Wd} {q1:Rat}:Con Tryz.prog 28 [.agg #[u1.b,u1.l,v1.b,v1.l]] [] [qF true u1 v1 (q1)] (Y:=Unit) (fun y=>True) (fun y=> .bool true) (fun y=>[]) (fun y=>[]):=by
  exact zDf (fun x hx hk h1 h2=>by have h:= @zLb x.1.1 u1.p _ u1.c x.1.2 x.2.1 v1.p _ v1.c x.2.2 rfl rfl h1 h2;rw [decide_eq_true (hk rfl)] at h;exact h)
theorem zPd {s:Bool} {p1:Option Addr} {n1:Nat} {c1:Nat} {l1:List Int} {t:Bool} {p2:Option Addr} {n2:Nat} {c2:Nat} {l2:List Int} (hn1:l1.length=n1) (hn2:l2.length=n2) (hm1:n1≤1048576) (hm2:n2≤1048576):Con Tryz.prog 43 [.agg #[.bool s,.slice p1 n1 c1,.bool t,.slice p2 n2 c2]] [] [slF (rI .u32) p1 c1 l1,slF (rI .u32) p2 c2 l2] (Y:=Wd×Wd) (fun y=>True) (fun y=> .agg #[y.1.b,y.1.l,y.2.b,y.2.l]) (fun y=>[]) (fun y=>[qF true y.1 y.2 (Big.qv ((s,l1),(t,l2)))]):=by
 refine zq Tryz.func43 rfl rfl rfl (fun c=> ?_)
 show RunC _ _ _ _ _ [(0,.agg #[.bool s,.slice p1 n1 c1,.bool t,.slice p2 n2 c2])] [] [slF (rI .u32) p1 c1 l1,slF (rI .u32) p2 c2 l2]
 refine zY 0 rfl (fun hL0=> ?_)
 refine zNa 0 rfl (fun hE0=> ?_)
 refine zY 1 rfl (fun hL1=> ?_)
 refine zNa 1 rfl (fun hE1=> ?_)
 have hnn1:Big.nn l1:=fun g hg=>(zv.1 (hE0 g hg)).1
 have hnn2:Big.nn l2:=fun g hg=>(zv.1 (hE1 g hg)).1
 have hb1:Big.ln (Big.raw s l1)≤n1:=by have:=Big.zOa (s:=s) hnn1;omega
 have hb2:Big.ln (Big.raw t l2)≤n2:=by have:=Big.zOa (s:=t) hnn2;omega
 refine zi<|zc<|zJ rfl rfl (zQ rfl rfl) (fun b1=> ?_)
 refine zJ rfl rfl (zw zr32 rfl) (fun b2=> ?_)
 refine zj<|ze<|zi<|zi<|zc<|r_u rfl rfl (zf 1 ty32 rfl rfl (.take (.take (.take (.take .nil)))))<|zN rfl rfl (.c rfl .n) ce28 (zLb (s:=s) (p1:=p1) (n1:=n1) (c1:=c1) (l1:=l1) (t:=t) (p2:=p2) (n2:=n2) (c2:=c2) (l2:=l2) (hn1:=by assumption) (hn2:=by assumption) (hm1:=by assumption) (hm2:=by assumption)) (.c (j:=0) rfl (.c (j:=1) rfl .n))<|zj<|ze<|zG rfl (fun hq=> ?_) (fun hq=> ?_)
 ·
  have hrp:=Big.raw_parts (x:=((s,l1),(t,l2))) hnn1 hnn2 hq
  have hqp:=Big.qv_parts (x:=((s,l1),(t,l2))) hq
  have hl:Big.hq (Big.qv ((s,l1),(t,l2)))≤1048576:=by unfold Big.hq;rw [hqp.1,hqp.2];dsimp only;omega
  refine zi<|zc<|r_u rfl rfl (zf 1 ty32 rfl rfl (.take (.take (.take (.take .nil)))))<|zn 0 rfl rfl rfl rfl rfl sz32 rfl (.take (.take (.take (.take .nil)))) .z<|zj<|ze<|zI<|zp<|zab (qF true ⟨s,p1,n1,c1⟩ ⟨t,p2,n2,c2⟩ (Big.qv ((s,l1),(t,l2)))) (fun g r=>qF_rawI 0 1 rfl rfl hn1 hn2 hm1 hm2 hq g r) ?_
  exact zE Tryz.results43 (⟨s,p1,n1,c1⟩,⟨t,p2,n2,c2⟩) trivial (zt 0 ty32 rfl rfl (.take (.take (.take (.take .nil))))) rfl (ho:=(.n:PickO _ _ _)) ((.c (j:=0) rfl .n):SelR _ _ _)
 ·
  have hz:=Big.qv_not (x:=((s,l1),(t,l2))) hq
  refine zB<|ze<|zi<|zc<|zy rfl rfl (.c rfl .n) ce16 (znb (z:=0) (hz:=by first|rfl|assumption|omega|(rw [Big.zO];omega)|(decide +kernel))) (.n) ?_
  rintro ⟨w33,w44⟩ -
  dsimp only [List.append_eq,List.nil_append,List.cons_append]
  refine zn 0 rfl rfl rfl rfl rfl sz32 rfl (.take (.take (.take (.take .nil)))) .z<|zj<|ze<|zI ?_
  exact zE Tryz.results43 (w33,w44) trivial (zt 0 ty32 rfl rfl (.take (.take (.take (.take .nil))))) rfl (ho:=(.n:PickO _ _ _)) ((.e (j:=0) rfl (by rw [hz];rfl) .n):SelR _ _ _)
theorem zTa {k1:Bool} {u1:Wd} {v1:Wd} {q1:Rat}:Con Tryz.prog 43 [.agg #[u1.b,u1.l,v1.b,v1.l]] [] [qF k1 u1 v1 (q1)] (Y:=(Wd)×(Wd)) (fun y=>True) (fun y=> .agg #[y.1.b,y.1.l,y.2.b,y.2.l]) (fun y=>[]) (fun y=>[qF true y.1 y.2 (q1)]):=by
  exact zIe (fun x hx hk h1 h2 hl=>by subst hx;exact zPd rfl rfl h1 h2)
theorem zFb {w1:Wd} {w2:Wd} {x1:Int} {x2:Int} (hl1:Big.ln x1≤1048576) (hl2:Big.ln x2≤1048576) (hd:x2≠0):Con Tryz.prog 68 [.agg #[w1.b,w1.l],.agg #[w2.b,w2.l]] [] [zF w1 x1,zF w2 x2] (Y:=Wd×Wd) (fun y=>True) (fun y=> .agg #[y.1.b,y.1.l,y.2.b,y.2.l]) (fun y=>[]) (fun y=>[qF true y.1 y.2 (Rat.divInt x1 x2)]):=by
 refine zq Tryz.func68 rfl rfl rfl (fun c=> ?_)
 show RunC _ _ _ _ _ [(0,.agg #[w1.b,w1.l]),(1,.agg #[w2.b,w2.l])] [] [zF w1 x1,zF w2 x2]
 refine zi<|zc<|zJ rfl rfl (zQ rfl rfl) (fun b1=> ?_)
 refine zJ rfl rfl (zQ rfl rfl) (fun b2=> ?_)
 refine zJ rfl rfl (zw zr32 rfl) (fun b3=> ?_)
 refine zj<|ze<|zi<|zc<|r_u rfl rfl (zf 2 ty30 rfl rfl (.take (.take .nil)))<|r_u rfl rfl (zf 1 ty30 rfl rfl (.take (.take .nil)))<|zy rfl rfl (.c rfl (.c rfl .n)) ce58 (zYe (w1:=w1) (w2:=w2) (x1:=x1) (x2:=x2) (hb1:=by first|rfl|assumption|omega|(rw [Big.zO];omega)|(decide +kernel)) (hb2:=by first|rfl|assumption|omega|(rw [Big.zO];omega)|(decide +kernel))) (.c (j:=0) rfl (.c (j:=1) rfl .n)) ?_
 rintro w34 -
 dsimp only [List.append_eq,List.nil_append,List.cons_append]
 refine zJ rfl rfl (zw zr30 rfl) (fun b5=> ?_)
 refine zn 0 rfl rfl rfl rfl rfl sz30 rfl (.take (.take .nil)) .z<|zj<|ze<|zi<|zi<|zc<|r_u rfl rfl (zf 2 ty30 rfl rfl (.take (.take .nil)))<|zN rfl rfl (.c rfl .n) ce56 (zZb (w1:=w2) (x1:=x2) (hln:=by first|rfl|assumption|omega|(rw [Big.zO];omega)|(decide +kernel))) (.c (j:=2) rfl .n)<|r_pv rfl rfl (zda rfl rfl)<|zj<|ze<|zG rfl (fun hneg=> ?_) (fun hneg=> ?_)
 ·
  have hs:x2<0:=by rcases Big.sign_le (x:=x2) with h|h|h <;> omega
  have hgp:=Big.gcd_pos_right (n:=x1) (d:=x2) (by omega)
  have hgl:=Big.zjd (n:=x1) (d:=x2) (by omega)
  obtain ⟨hr1,hr2⟩:=Big.red_neg (n:=x1) hs
  refine zc<|r_u rfl rfl (zf 0 ty30 rfl rfl (.take (.take .nil)))<|zy rfl rfl (.c rfl .n) ce71 (zrd (w1:=w34) (x1:=((Nat.gcd x1.natAbs x2.natAbs:Nat):Int)) (hln:=by first|rfl|assumption|omega|(rw [Big.zO];omega)|(decide +kernel))) (.c (j:=0) rfl .n) ?_
  rintro w36 -
  dsimp only [List.append_eq,List.nil_append,List.cons_append]
  refine zn 0 rfl rfl rfl rfl rfl sz30 rfl (.take (.take .nil)) .z<|zj<|ze<|zi<|zc<|r_u rfl rfl (zf 3 ty30 rfl rfl (.take (.take .nil)))<|r_u rfl rfl (zf 0 ty30 rfl rfl (.take (.take .nil)))<|zy rfl rfl (.c rfl (.c rfl .n)) ce97 (zhb (w1:=w1) (w2:=w36) (x1:=x1) (x2:= - ((Nat.gcd x1.natAbs x2.natAbs:Nat):Int)) (hb1:=by first|rfl|assumption|omega|(rw [Big.zO];omega)|(decide +kernel)) (hb2:=by first|rfl|assumption|omega|(rw [Big.zO];omega)|(decide +kernel)) (hy:=by first|rfl|assumption|omega|(rw [Big.zO];omega)|(decide +kernel))) (.c (j:=2) rfl (.c (j:=0) rfl .n)) ?_
  rintro ⟨w37,w48⟩ -
  dsimp only [List.append_eq,List.nil_append,List.cons_append]
  refine r_pv rfl rfl (za rfl)<|r_pv rfl rfl (zr rfl rfl)<|r_pv rfl rfl (zr rfl rfl)<|r_pv rfl rfl (zr rfl rfl)<|zJ rfl rfl (zw zr30 rfl) (fun b9=> ?_)
  refine zJ rfl rfl (zw zr30 rfl) (fun b10=> ?_)
  refine zn 1 rfl rfl rfl rfl rfl sz30 rfl (.take (.take .nil)) (.s .z)<|zn 0 rfl rfl rfl rfl rfl sz30 rfl (.take (.take .nil)) .z<|r_pv rfl rfl (zd rfl)<|zj<|ze<|zi<|zc<|r_u rfl rfl (zf 4 ty30 rfl rfl (.take (.take .nil)))<|r_u rfl rfl (zf 2 ty30 rfl rfl (.take (.take .nil)))<|zy rfl rfl (.c rfl (.c rfl .n)) ce97 (zhb (w1:=w2) (w2:=w36) (x1:=x2) (x2:= - ((Nat.gcd x1.natAbs x2.natAbs:Nat):Int)) (hb1:=by first|rfl|assumption|omega|(rw [Big.zO];omega)|(decide +kernel)) (hb2:=by first|rfl|assumption|omega|(rw [Big.zO];omega)|(decide +kernel)) (hy:=by first|rfl|assumption|omega|(rw [Big.zO];omega)|(decide +kernel))) (.c (j:=5) rfl (.c (j:=2) rfl .n)) ?_
  rintro ⟨w311,w412⟩ -
  dsimp only [List.append_eq,List.nil_append,List.cons_append]
  refine r_pv rfl rfl (za rfl)<|r_pv rfl rfl (zr rfl rfl)<|r_pv rfl rfl (zr rfl rfl)<|r_pv rfl rfl (zr rfl rfl)<|zJ rfl rfl (zw zr30 rfl) (fun b13=> ?_)
  refine zJ rfl rfl (zw zr30 rfl) (fun b14=> ?_)
  refine zn 1 rfl rfl rfl rfl rfl sz30 rfl (.take (.take .nil)) (.s .z)<|zn 0 rfl rfl rfl rfl rfl sz30 rfl (.take (.take .nil)) .z<|r_pv rfl rfl (zd rfl)<|zj<|ze<|zi<|zc<|r_u rfl rfl (zf 3 ty30 rfl rfl (.take (.take .nil)))<|r_u rfl rfl (zf 1 ty30 rfl rfl (.take (.take .nil)))<|r_pv rfl rfl (zK zr32 rfl Tryz.underlying32 (.c sz30 (.c sz30 .n)) (.c rfl (.c rfl .n)) (.c rfl rfl rfl (.take (.take .nil)) (.c rfl rfl rfl (.skip (.skip (.take (.take .nil)))) .n)))<|zn 5 rfl rfl rfl rfl rfl sz32 rfl (.take (.take (.take (.take .nil)))) (.s (.s (.s (.s (.s .z)))))<|zj<|ze<|zI<|zab (qF true w37 w311 (Rat.divInt x1 x2)) (qF_close 2 0 rfl rfl (by exact ⟨hr1,hr2,Nat.le_trans (Big.hq_divInt hd) (by omega)⟩)) ?_
  exact zE Tryz.results68 (w37,w311) trivial (zt 5 ty32 rfl rfl (.take (.take (.take (.take .nil))))) rfl (ho:=(.n:PickO _ _ _)) ((.c (j:=0) rfl .n):SelR _ _ _)
 ·
  have hs:0<x2:=by rcases Big.sign_le (x:=x2) with h|h|h <;> omega
  have hgp:=Big.gcd_pos_right (n:=x1) (d:=x2) (by omega)
  have hgl:=Big.zjd (n:=x1) (d:=x2) (by omega)
  obtain ⟨hr1,hr2⟩:=Big.red_pos (n:=x1) hs
  refine zB<|ze<|zi<|zc<|r_u rfl rfl (zf 3 ty30 rfl rfl (.take (.take .nil)))<|r_u rfl rfl (zf 0 ty30 rfl rfl (.take (.take .nil)))<|zy rfl rfl (.c rfl (.c rfl .n)) ce97 (zhb (w1:=w1) (w2:=w34) (x1:=x1) (x2:=((Nat.gcd x1.natAbs x2.natAbs:Nat):Int)) (hb1:=by first|rfl|assumption|omega|(rw [Big.zO];omega)|(decide +kernel)) (hb2:=by first|rfl|assumption|omega|(rw [Big.zO];omega)|(decide +kernel)) (hy:=by first|rfl|assumption|omega|(rw [Big.zO];omega)|(decide +kernel))) (.c (j:=1) rfl (.c (j:=0) rfl .n)) ?_
  rintro ⟨w315,w416⟩ -
  dsimp only [List.append_eq,List.nil_append,List.cons_append]
  refine r_pv rfl rfl (za rfl)<|r_pv rfl rfl (zr rfl rfl)<|r_pv rfl rfl (zr rfl rfl)<|r_pv rfl rfl (zr rfl rfl)<|zJ rfl rfl (zw zr30 rfl) (fun b17=> ?_)
  refine zJ rfl rfl (zw zr30 rfl) (fun b18=> ?_)
  refine zn 1 rfl rfl rfl rfl rfl sz30 rfl (.take (.take .nil)) (.s .z)<|zn 0 rfl rfl rfl rfl rfl sz30 rfl (.take (.take .nil)) .z<|r_pv rfl rfl (zd rfl)<|zj<|ze<|zi<|zc<|r_u rfl rfl (zf 4 ty30 rfl rfl (.take (.take .nil)))<|r_u rfl rfl (zf 2 ty30 rfl rfl (.take (.take .nil)))<|zy rfl rfl (.c rfl (.c rfl .n)) ce97 (zhb (w1:=w2) (w2:=w34) (x1:=x2) (x2:=((Nat.gcd x1.natAbs x2.natAbs:Nat):Int)) (hb1:=by first|rfl|assumption|omega|(rw [Big.zO];omega)|(decide +kernel)) (hb2:=by first|rfl|assumption|omega|(rw [Big.zO];omega)|(decide +kernel)) (hy:=by first|rfl|assumption|omega|(rw [Big.zO];omega)|(decide +kernel))) (.c (j:=4) rfl (.c (j:=2) rfl .n)) ?_
  rintro ⟨w319,w420⟩ -
  dsimp only [List.append_eq,List.nil_append,List.cons_append]
  refine r_pv rfl rfl (za rfl)<|r_pv rfl rfl (zr rfl rfl)<|r_pv rfl rfl (zr rfl rfl)<|r_pv rfl rfl (zr rfl rfl)<|zJ rfl rfl (zw zr30 rfl) (fun b21=> ?_)
  refine zJ rfl rfl (zw zr30 rfl) (fun b22=> ?_)
  refine zn 1 rfl rfl rfl rfl rfl sz30 rfl (.take (.take .nil)) (.s .z)<|zn 0 rfl rfl rfl rfl rfl sz30 rfl (.take (.take .nil)) .z<|r_pv rfl rfl (zd rfl)<|zj<|ze<|zi<|zc<|r_u rfl rfl (zf 3 ty30 rfl rfl (.take (.take .nil)))<|r_u rfl rfl (zf 1 ty30 rfl rfl (.take (.take .nil)))<|r_pv rfl rfl (zK zr32 rfl Tryz.underlying32 (.c sz30 (.c sz30 .n)) (.c rfl (.c rfl .n)) (.c rfl rfl rfl (.take (.take .nil)) (.c rfl rfl rfl (.skip (.skip (.take (.take .nil)))) .n)))<|zn 5 rfl rfl rfl rfl rfl sz32 rfl (.take (.take (.take (.take .nil)))) (.s (.s (.s (.s (.s .z)))))<|zj<|ze<|zI<|zab (qF true w315 w319 (Rat.divInt x1 x2)) (qF_close 2 0 rfl rfl (by exact ⟨hr1,hr2,Nat.le_trans (Big.hq_divInt hd) (by omega)⟩)) ?_
  exact zE Tryz.results68 (w315,w319) trivial (zt 5 ty32 rfl rfl (.take (.take (.take (.take .nil))))) rfl (ho:=(.n:PickO _ _ _)) ((.c (j:=0) rfl .n):SelR _ _ _)
theorem zvf {w1:Wd} {w2:Wd} {x1:Int} {x2:Int} (hl1:Big.ln x1≤1048576) (hl2:Big.ln x2≤1048576):Con Tryz.prog 52 [.agg #[w1.b,w1.l],.agg #[w2.b,w2.l]] [] [zF w1 x1,zF w2 x2] (Y:=Wd×Wd) (fun y=>True) (fun y=> .tuple #[.agg #[y.1.b,y.1.l,y.2.b,y.2.l],.int .i64 (if x2=0 then 14 else 0)]) (fun y=>[]) (fun y=>[qF (decide (x2≠0)) y.1 y.2 (Rat.divInt x1 x2)]):=by
 refine zq Tryz.func52 rfl rfl rfl (fun c=> ?_)
 show RunC _ _ _ _ _ [(0,.agg #[w1.b,w1.l]),(1,.agg #[w2.b,w2.l])] [] [zF w1 x1,zF w2 x2]
 refine zi<|zc<|zJ rfl rfl (zQ rfl rfl) (fun b1=> ?_)
 refine zJ rfl rfl (zQ rfl rfl) (fun b2=> ?_)
 refine zJ rfl rfl (zw zr32 rfl) (fun b3=> ?_)
 refine r_pv rfl rfl (zd rfl)<|zj<|ze<|zi<|zi<|zc<|r_u rfl rfl (zf 1 ty30 rfl rfl (.take (.take .nil)))<|zN rfl rfl (.c rfl .n) ce56 (zZb (w1:=w2) (x1:=x2) (hln:=by first|rfl|assumption|omega|(rw [Big.zO];omega)|(decide +kernel))) (.c (j:=1) rfl .n)<|r_pv rfl rfl (zva rfl rfl)<|zj<|ze<|zG rfl (fun hz0=> ?_) (fun hz0=> ?_)
 ·
  have hx0:x2=0:=Big.sign_zero.1 hz0
  refine zi<|zc<|r_pv rfl rfl (zK zr32 rfl Tryz.underlying32 (.c sz30 (.c sz30 .n)) .n .n)<|zn 0 rfl rfl rfl rfl rfl sz32 rfl (.take (.take (.take (.take .nil)))) .z<|r_pv rfl rfl (zd rfl)<|zj<|ze<|zI<|zp<|zab (qF false wz wz 0) (fun g _=>qF_none g) ?_
  exact zBa Tryz.results52 (wz,wz) trivial (zt 0 ty32 rfl rfl (.take (.take (.take (.take .nil))))) (zo rfl) (by rw [if_pos hx0];rfl) (ho:=(.n:PickO _ _ _)) ((.e (j:=0) rfl (by rw [Big.divInt_nil hx0,decide_eq_false (not_not_intro hx0)]) .n):SelR _ _ _)
 ·
  have hx0:x2≠0:=fun e=>hz0 (Big.sign_zero.2 e)
  refine zB<|ze<|zi<|zc<|r_u rfl rfl (zf 2 ty30 rfl rfl (.take (.take .nil)))<|r_u rfl rfl (zf 1 ty30 rfl rfl (.take (.take .nil)))<|zy rfl rfl (.c rfl (.c rfl .n)) ce68 (zFb (w1:=w1) (w2:=w2) (x1:=x1) (x2:=x2) (hl1:=by assumption) (hl2:=by assumption) (hd:=by first|rfl|assumption|omega|(rw [Big.zO];omega)|(decide +kernel))) (.c (j:=0) rfl (.c (j:=1) rfl .n)) ?_
  rintro ⟨w34,w45⟩ -
  dsimp only [List.append_eq,List.nil_append,List.cons_append]
  refine zn 0 rfl rfl rfl rfl rfl sz32 rfl (.take (.take (.take (.take .nil)))) .z<|r_pv rfl rfl (zd rfl)<|zj<|ze<|zI ?_
  exact zBa Tryz.results52 (w34,w45) trivial (zt 0 ty32 rfl rfl (.take (.take (.take (.take .nil))))) (zo rfl) (by rw [if_neg hx0]) (ho:=(.n:PickO _ _ _)) ((.e (j:=0) rfl (by rw [decide_eq_true hx0]) .n):SelR _ _ _)
theorem zwf {z1:Int} {z2:Int} (hz1: -9223372036854775808≤z1∧z1≤9223372036854775807) (hz2: -9223372036854775808≤z2∧z2≤9223372036854775807):Con Tryz.prog 25 [.int .i64 z1,.int .i64 z2] [] [] (Y:=Wd×Wd) (fun y=>True) (fun y=> .tuple #[.agg #[y.1.b,y.1.l,y.2.b,y.2.l],.int .i64 (if z2=0 then 14 else 0)]) (fun y=>[]) (fun y=>[qF (decide (z2≠0)) y.1 y.2 (Rat.divInt z1 z2)]):=by
 refine zq Tryz.func25 rfl rfl rfl (fun c=> ?_)
 show RunC _ _ _ _ _ [(0,.int .i64 z1),(1,.int .i64 z2)] [] []
 have g1:=Big.zhd hz1.1 hz1.2
 have g2:=Big.zhd hz2.1 hz2.2
 refine zi<|zc<|zJ rfl rfl (zw zr32 rfl) (fun b1=> ?_)
 refine r_pv rfl rfl (zd rfl)<|zj<|ze<|zi<|zc<|r_pv rfl rfl (za rfl)<|zy rfl rfl (.c rfl .n) ce44 (zub (z:=z1) (hz:=by assumption)) (.n) ?_
 rintro w32 -
 dsimp only [List.append_eq,List.nil_append,List.cons_append]
 refine r_pv rfl rfl (za rfl)<|zy rfl rfl (.c rfl .n) ce44 (zub (z:=z2) (hz:=by assumption)) (.n) ?_
 rintro w33 -
 dsimp only [List.append_eq,List.nil_append,List.cons_append]
 refine zy rfl rfl (.c rfl (.c rfl .n)) ce52 (zvf (w1:=w32) (w2:=w33) (x1:=z1) (x2:=z2) (hl1:=by first|rfl|assumption|omega|(rw [Big.zO];omega)|(decide +kernel)) (hl2:=by first|rfl|assumption|omega|(rw [Big.zO];omega)|(decide +kernel))) (.c (j:=1) rfl (.c (j:=0) rfl .n)) ?_
 rintro ⟨w34,w45⟩ -
 dsimp only [List.append_eq,List.nil_append,List.cons_append]
 refine r_pv rfl rfl (zr rfl rfl)<|r_pv rfl rfl (zr rfl rfl)<|zn 0 rfl rfl rfl rfl rfl sz32 rfl (.take (.take (.take (.take .nil)))) .z<|r_pv rfl rfl (zd rfl)<|zj<|ze<|zI ?_
 exact zBa Tryz.results25 (w34,w45) trivial (zt 0 ty32 rfl rfl (.take (.take (.take (.take .nil))))) (zo rfl) rfl (ho:=(.n:PickO _ _ _)) ((.c (j:=0) rfl .n):SelR _ _ _)
theorem zJc {z1:Int} {z2:Int} (hz1: -9223372036854775808≤z1∧z1≤9223372036854775807) (hz2: -9223372036854775808≤z2∧z2≤9223372036854775807) (hy:z2≠0):Con Tryz.prog 25 [.int .i64 (z1),.int .i64 (z2)] [] [] (Y:=(Wd)×(Wd)) (fun y=>True) (fun y=> .tuple #[.agg #[y.1.b,y.1.l,y.2.b,y.2.l],.int .i64 (0)]) (fun y=>[]) (fun y=>[qF true y.1 y.2 (Rat.divInt z1 z2)]):=by
  have h:=zwf hz1 hz2
  rw [if_neg hy,decide_eq_true hy] at h
  exact h
theorem zte {k1:Bool} {u1:Wd} {v1:Wd} {q1:Rat} (hl:Big.hq q1≤1048576):Con Tryz.prog 40 [.agg #[u1.b,u1.l,v1.b,v1.l]] [] [qF k1 u1 v1 q1] (Y:=Unit) (fun y=>True) (fun y=> .int .i64 (Big.sgq q1)) (fun y=>[]) (fun y=>[]):=by
 refine zq Tryz.func40 rfl rfl rfl (fun c=> ?_)
 show RunC _ _ _ _ _ [(0,.agg #[u1.b,u1.l,v1.b,v1.l])] [] [qF k1 u1 v1 q1]
 have a1:=Big.hq_num q1
 have a2:=Big.hq_den q1
 refine zi<|zc<|zJ rfl rfl (zQ rfl rfl) (fun b1=> ?_)
 refine r_pv rfl rfl (zd rfl)<|zj<|ze<|zi<|zc<|r_u rfl rfl (zf 0 ty32 rfl rfl (.take (.take (.take (.take .nil)))))<|zy rfl rfl (.c rfl .n) ce43 (zTa (k1:=k1) (u1:=u1) (v1:=v1) (q1:=q1)) (.c (j:=0) rfl .n) ?_
 rintro ⟨w32,w43⟩ -
 dsimp only [List.append_eq,List.nil_append,List.cons_append]
 refine r_pv rfl rfl (zXc Tryz.underlying32 rfl ty30 rfl (.take (.take .nil)))<|zkc (qF_open 0 rfl) (fun _ _=> ?_)
 refine zN rfl rfl (.c rfl .n) ce56 (zZb (w1:=w32) (x1:=(q1).num) (hln:=by first|rfl|assumption|omega|(rw [Big.zO];omega)|(decide +kernel))) (.c (j:=0) rfl .n)<|r_pv rfl rfl (zd rfl)<|zj<|ze<|zI ?_
 exact zE Tryz.results40 () trivial (zo rfl) rfl (ho:=(.n:PickO _ _ _)) (.n:SelR _ _ _)
theorem zZe {k1:Bool} {u1:Wd} {v1:Wd} {q1:Rat} (hl:Big.hq q1≤1048576):Con Tryz.prog 42 [.agg #[u1.b,u1.l,v1.b,v1.l]] [] [qF k1 u1 v1 q1] (Y:=Wd×Wd) (fun y=>True) (fun y=> .agg #[y.1.b,y.1.l,y.2.b,y.2.l]) (fun y=>[]) (fun y=>[qF true y.1 y.2 (- q1)]):=by
 refine zq Tryz.func42 rfl rfl rfl (fun c=> ?_)
 show RunC _ _ _ _ _ [(0,.agg #[u1.b,u1.l,v1.b,v1.l])] [] [qF k1 u1 v1 q1]
 have a1:=Big.hq_num q1
 have a2:=Big.hq_den q1
 refine zi<|zc<|zJ rfl rfl (zQ rfl rfl) (fun b1=> ?_)
 refine zJ rfl rfl (zw zr32 rfl) (fun b2=> ?_)
 refine zj<|ze<|zi<|zc<|r_u rfl rfl (zf 1 ty32 rfl rfl (.take (.take (.take (.take .nil)))))<|zy rfl rfl (.c rfl .n) ce43 (zTa (k1:=k1) (u1:=u1) (v1:=v1) (q1:=q1)) (.c (j:=0) rfl .n) ?_
 rintro ⟨w33,w44⟩ -
 dsimp only [List.append_eq,List.nil_append,List.cons_append]
 refine zJ rfl rfl (zw zr32 rfl) (fun b5=> ?_)
 refine zn 0 rfl rfl rfl rfl rfl sz32 rfl (.take (.take (.take (.take .nil)))) .z<|zj<|ze<|zi<|zsa (.c (i:=1) rfl (.c (i:=0) rfl (.c (i:=0) rfl .n)))<|zea (OW:=[boxA b2 32 [.bool false,.slice none 0 0,.bool false,.slice none 0 0]]) (O:=[boxA b5 32 [w33.b,w33.l,w44.b,w44.l],boxA b1 32 [u1.b,u1.l,v1.b,v1.l]]) 6 mixed (.then .ret) (by kernel_rfl)<|d_pv 0 rfl rfl (by kernel_rfl) (by kernel_rfl) rfl rfl (zg Tryz.underlying32 rfl sz30 rfl rfl)<|d_uw 1 rfl rfl (by kernel_rfl) (by kernel_rfl) (by kernel_rfl) rfl rfl (zf 1 ty30 rfl rfl (.take (.take .nil)))<|d_pv 3 rfl rfl (by kernel_rfl) (by kernel_rfl) rfl rfl (zg Tryz.underlying32 rfl sz30 rfl rfl)<|d_uw 4 rfl rfl (by kernel_rfl) (by kernel_rfl) (by kernel_rfl) rfl rfl (zf 1 ty30 rfl rfl (.skip (.skip (.take (.take .nil)))))<|zxb (qF_open 0 rfl) (fun _ _=> ?_)
 refine zL 2 (by kernel_rfl) (zH rfl rfl rfl rfl (.c rfl .n) ce71 (zrd (w1:=w33) (x1:=(q1).num) (hln:=by first|rfl|assumption|omega|(rw [Big.zO];omega)|(decide +kernel))) (.c (j:=0) rfl .n) ?_)
 rintro w36 -
 dsimp only [List.append_eq,List.nil_append,List.cons_append]
 refine d_pv 5 rfl rfl (by kernel_rfl) (by kernel_rfl) rfl rfl (zK zr32 rfl Tryz.underlying32 (.c sz30 (.c sz30 .n)) (.c rfl (.c rfl .n)) (.c rfl rfl rfl (.take (.take .nil)) (.c rfl rfl rfl (.skip (.skip (.take (.take .nil)))) .n)))<|zL 6 (by kernel_rfl) (zD (by kernel_rfl) rfl rfl rfl rfl rfl sz32 rfl (.take (.take (.take (.take .nil)))) ?_)
 refine zba (by kernel_rfl)<|ze<|zI<|zab (qF true w36 w44 (- q1)) (qF_close 0 2 rfl rfl (by exact ⟨(Rat.neg_num q1).symm,by rw [Rat.neg_den],by rw [Big.hq_neg];exact hl⟩)) ?_
 exact zE Tryz.results42 (w36,w44) trivial (zt 0 ty32 rfl rfl (.take (.take (.take (.take .nil))))) rfl (ho:=(.n:PickO _ _ _)) ((.c (j:=0) rfl .n):SelR _ _ _)
theorem zaf {k1:Bool} {u1:Wd} {v1:Wd} {q1:Rat} {k2:Bool} {u2:Wd} {v2:Wd} {q2:Rat} (hl:Big.hq q1+Big.hq q2+1≤1048576):Con Tryz.prog 70 [.agg #[u1.b,u1.l,v1.b,v1.l],.agg #[u2.b,u2.l,v2.b,v2.l]] [] [qF k1 u1 v1 q1,qF k2 u2 v2 q2] (Y:=Wd×Wd) (fun y=>True) (fun y=> .agg #[y.1.b,y.1.l,y.2.b,y.2.l]) (fun y=>[]) (fun y=>[qF true y.1 y.2 (q1+q2)]):=by
 refine zq Tryz.func70 rfl rfl rfl (fun c=> ?_)
 show RunC _ _ _ _ _ [(0,.agg #[u1.b,u1.l,v1.b,v1.l]),(1,.agg #[u2.b,u2.l,v2.b,v2.l])] [] [qF k1 u1 v1 q1,qF k2 u2 v2 q2]
 have a1:=Big.hq_num q1
 have a2:=Big.hq_den q1
 have a3:=Big.hq_num q2
 have a4:=Big.hq_den q2
 have b1:=Big.zCa q1.num q2.den
 have b2:=Big.zCa q2.num q1.den
 have b3:=Big.zoc (q1.num*q2.den) (q2.num*q1.den)
 have b4:=Big.zCa (q1.den:Int) q2.den
 have b5:=Big.zCa q1.num q2.num
 refine zi<|zc<|zJ rfl rfl (zQ rfl rfl) (fun b1=> ?_)
 refine zJ rfl rfl (zQ rfl rfl) (fun b2=> ?_)
 refine zJ rfl rfl (zw zr32 rfl) (fun b3=> ?_)
 refine zj<|ze<|zi<|zc<|r_u rfl rfl (zf 2 ty32 rfl rfl (.take (.take (.take (.take .nil)))))<|zy rfl rfl (.c rfl .n) ce43 (zTa (k1:=k1) (u1:=u1) (v1:=v1) (q1:=q1)) (.c (j:=0) rfl .n) ?_
 rintro ⟨w34,w45⟩ -
 dsimp only [List.append_eq,List.nil_append,List.cons_append]
 refine zJ rfl rfl (zw zr32 rfl) (fun b6=> ?_)
 refine zn 0 rfl rfl rfl rfl rfl sz32 rfl (.take (.take (.take (.take .nil)))) .z<|zj<|ze<|zi<|zc<|r_u rfl rfl (zf 2 ty32 rfl rfl (.take (.take (.take (.take .nil)))))<|zy rfl rfl (.c rfl .n) ce43 (zTa (k1:=k2) (u1:=u2) (v1:=v2) (q1:=q2)) (.c (j:=2) rfl .n) ?_
 rintro ⟨w37,w48⟩ -
 dsimp only [List.append_eq,List.nil_append,List.cons_append]
 refine zJ rfl rfl (zw zr32 rfl) (fun b9=> ?_)
 refine zn 0 rfl rfl rfl rfl rfl sz32 rfl (.take (.take (.take (.take .nil)))) .z<|zj<|ze<|zi<|zsa (.c (i:=2) rfl (.c (i:=0) rfl (.c (i:=0) rfl (.c (i:=0) rfl (.c (i:=0) rfl .n)))))<|zea (OW:=[boxA b3 32 [.bool false,.slice none 0 0,.bool false,.slice none 0 0]]) (O:=[boxA b9 32 [w37.b,w37.l,w48.b,w48.l],boxA b6 32 [w34.b,w34.l,w45.b,w45.l],boxA b2 32 [u2.b,u2.l,v2.b,v2.l],boxA b1 32 [u1.b,u1.l,v1.b,v1.l]]) 17 mixed (.then .ret) (by kernel_rfl)<|d_pv 0 rfl rfl (by kernel_rfl) (by kernel_rfl) rfl rfl (zg Tryz.underlying32 rfl sz30 rfl rfl)<|d_uw 1 rfl rfl (by kernel_rfl) (by kernel_rfl) (by kernel_rfl) rfl rfl (zf 2 ty30 rfl rfl (.take (.take .nil)))<|d_pv 2 rfl rfl (by kernel_rfl) (by kernel_rfl) rfl rfl (zg Tryz.underlying32 rfl sz30 rfl rfl)<|d_uw 3 rfl rfl (by kernel_rfl) (by kernel_rfl) (by kernel_rfl) rfl rfl (zf 1 ty30 rfl rfl (.skip (.skip (.take (.take .nil)))))<|d_pv 5 rfl rfl (by kernel_rfl) (by kernel_rfl) rfl rfl (zg Tryz.underlying32 rfl sz30 rfl rfl)<|d_uw 6 rfl rfl (by kernel_rfl) (by kernel_rfl) (by kernel_rfl) rfl rfl (zf 1 ty30 rfl rfl (.take (.take .nil)))<|d_pv 7 rfl rfl (by kernel_rfl) (by kernel_rfl) rfl rfl (zg Tryz.underlying32 rfl sz30 rfl rfl)<|d_uw 8 rfl rfl (by kernel_rfl) (by kernel_rfl) (by kernel_rfl) rfl rfl (zf 2 ty30 rfl rfl (.skip (.skip (.take (.take .nil)))))<|d_pv 11 rfl rfl (by kernel_rfl) (by kernel_rfl) rfl rfl (zg Tryz.underlying32 rfl sz30 rfl rfl)<|d_uw 12 rfl rfl (by kernel_rfl) (by kernel_rfl) (by kernel_rfl) rfl rfl (zf 2 ty30 rfl rfl (.skip (.skip (.take (.take .nil)))))<|d_pv 13 rfl rfl (by kernel_rfl) (by kernel_rfl) rfl rfl (zg Tryz.underlying32 rfl sz30 rfl rfl)<|d_uw 14 rfl rfl (by kernel_rfl) (by kernel_rfl) (by kernel_rfl) rfl rfl (zf 1 ty30 rfl rfl (.skip (.skip (.take (.take .nil)))))<|zxb (qF_open 1 rfl) (fun _ _=> ?_)
 refine zxb (qF_open 2 rfl) (fun _ _=> ?_)
 refine zL 4 (by kernel_rfl) (zH rfl rfl rfl rfl (.c rfl (.c rfl .n)) ce69 (zEb (w1:=w34) (w2:=w48) (x1:=(q1).num) (x2:=(((q2).den:Nat):Int)) (hb1:=by first|rfl|assumption|omega|(rw [Big.zO];omega)|(decide +kernel)) (hb2:=by first|rfl|assumption|omega|(rw [Big.zO];omega)|(decide +kernel))) (.c (j:=2) rfl (.c (j:=1) rfl .n)) ?_)
 rintro w310 -
 dsimp only [List.append_eq,List.nil_append,List.cons_append]
 refine zL 9 (by kernel_rfl) (zH rfl rfl rfl rfl (.c rfl (.c rfl .n)) ce69 (zEb (w1:=w37) (w2:=w45) (x1:=(q2).num) (x2:=(((q1).den:Nat):Int)) (hb1:=by first|rfl|assumption|omega|(rw [Big.zO];omega)|(decide +kernel)) (hb2:=by first|rfl|assumption|omega|(rw [Big.zO];omega)|(decide +kernel))) (.c (j:=1) rfl (.c (j:=4) rfl .n)) ?_)
 rintro w311 -
 dsimp only [List.append_eq,List.nil_append,List.cons_append]
 refine zL 10 (by kernel_rfl) (zH rfl rfl rfl rfl (.c rfl (.c rfl .n)) ce98 (zWe (w1:=w310) (w2:=w311) (x1:=((q1).num)*(((q2).den:Nat):Int)) (x2:=((q2).num)*(((q1).den:Nat):Int)) (hb1:=by first|rfl|assumption|omega|(rw [Big.zO];omega)|(decide +kernel)) (hb2:=by first|rfl|assumption|omega|(rw [Big.zO];omega)|(decide +kernel))) (.c (j:=1) rfl (.c (j:=0) rfl .n)) ?_)
 rintro w312 -
 dsimp only [List.append_eq,List.nil_append,List.cons_append]
 refine zL 15 (by kernel_rfl) (zH rfl rfl rfl rfl (.c rfl (.c rfl .n)) ce69 (zEb (w1:=w45) (w2:=w48) (x1:=(((q1).den:Nat):Int)) (x2:=(((q2).den:Nat):Int)) (hb1:=by first|rfl|assumption|omega|(rw [Big.zO];omega)|(decide +kernel)) (hb2:=by first|rfl|assumption|omega|(rw [Big.zO];omega)|(decide +kernel))) (.c (j:=6) rfl (.c (j:=4) rfl .n)) ?_)
 rintro w313 -
 dsimp only [List.append_eq,List.nil_append,List.cons_append]
 refine zL 16 (by kernel_rfl) (zH rfl rfl rfl rfl (.c rfl (.c rfl .n)) ce68 (zFb (w1:=w312) (w2:=w313) (x1:=(((q1).num)*(((q2).den:Nat):Int))+(((q2).num)*(((q1).den:Nat):Int))) (x2:=(((q1).den:Nat):Int)*(((q2).den:Nat):Int)) (hl1:=by first|rfl|assumption|omega|(rw [Big.zO];omega)|(decide +kernel)) (hl2:=by first|rfl|assumption|omega|(rw [Big.zO];omega)|(decide +kernel)) (hd:=by exact Int.mul_ne_zero (Big.den_ne q1) (Big.den_ne q2))) (.c (j:=1) rfl (.c (j:=0) rfl .n)) ?_)
 rintro ⟨w314,w415⟩ -
 dsimp only [List.append_eq,List.nil_append,List.cons_append]
 refine zL 17 (by kernel_rfl) (zD (by kernel_rfl) rfl rfl rfl rfl rfl sz32 rfl (.take (.take (.take (.take .nil)))) ?_)
 refine zba (by kernel_rfl)<|ze<|zI ?_
 exact zE Tryz.results70 (w314,w415) trivial (zt 0 ty32 rfl rfl (.take (.take (.take (.take .nil))))) rfl (ho:=(.n:PickO _ _ _)) ((.e (j:=0) rfl (by rw [Big.add_parts]) .n):SelR _ _ _)
theorem zbf {k1:Bool} {u1:Wd} {v1:Wd} {q1:Rat} {k2:Bool} {u2:Wd} {v2:Wd} {q2:Rat} (hl:Big.hq q1+Big.hq q2+1≤1048576):Con Tryz.prog 39 [.agg #[u1.b,u1.l,v1.b,v1.l],.agg #[u2.b,u2.l,v2.b,v2.l]] [] [qF k1 u1 v1 q1,qF k2 u2 v2 q2] (Y:=Wd×Wd) (fun y=>True) (fun y=> .agg #[y.1.b,y.1.l,y.2.b,y.2.l]) (fun y=>[]) (fun y=>[qF true y.1 y.2 (q1*q2)]):=by
 refine zq Tryz.func39 rfl rfl rfl (fun c=> ?_)
 show RunC _ _ _ _ _ [(0,.agg #[u1.b,u1.l,v1.b,v1.l]),(1,.agg #[u2.b,u2.l,v2.b,v2.l])] [] [qF k1 u1 v1 q1,qF k2 u2 v2 q2]
 have a1:=Big.hq_num q1
 have a2:=Big.hq_den q1
 have a3:=Big.hq_num q2
 have a4:=Big.hq_den q2
 have b1:=Big.zCa q1.num q2.den
 have b2:=Big.zCa q2.num q1.den
 have b3:=Big.zoc (q1.num*q2.den) (q2.num*q1.den)
 have b4:=Big.zCa (q1.den:Int) q2.den
 have b5:=Big.zCa q1.num q2.num
 refine zi<|zc<|zJ rfl rfl (zQ rfl rfl) (fun b1=> ?_)
 refine zJ rfl rfl (zQ rfl rfl) (fun b2=> ?_)
 refine zJ rfl rfl (zw zr32 rfl) (fun b3=> ?_)
 refine zj<|ze<|zi<|zc<|r_u rfl rfl (zf 2 ty32 rfl rfl (.take (.take (.take (.take .nil)))))<|zy rfl rfl (.c rfl .n) ce43 (zTa (k1:=k1) (u1:=u1) (v1:=v1) (q1:=q1)) (.c (j:=0) rfl .n) ?_
 rintro ⟨w34,w45⟩ -
 dsimp only [List.append_eq,List.nil_append,List.cons_append]
 refine zJ rfl rfl (zw zr32 rfl) (fun b6=> ?_)
 refine zn 0 rfl rfl rfl rfl rfl sz32 rfl (.take (.take (.take (.take .nil)))) .z<|zj<|ze<|zi<|zc<|r_u rfl rfl (zf 2 ty32 rfl rfl (.take (.take (.take (.take .nil)))))<|zy rfl rfl (.c rfl .n) ce43 (zTa (k1:=k2) (u1:=u2) (v1:=v2) (q1:=q2)) (.c (j:=2) rfl .n) ?_
 rintro ⟨w37,w48⟩ -
 dsimp only [List.append_eq,List.nil_append,List.cons_append]
 refine zJ rfl rfl (zw zr32 rfl) (fun b9=> ?_)
 refine zn 0 rfl rfl rfl rfl rfl sz32 rfl (.take (.take (.take (.take .nil)))) .z<|zj<|ze<|zi<|zsa (.c (i:=2) rfl (.c (i:=0) rfl (.c (i:=0) rfl (.c (i:=0) rfl (.c (i:=0) rfl .n)))))<|zea (OW:=[boxA b3 32 [.bool false,.slice none 0 0,.bool false,.slice none 0 0]]) (O:=[boxA b9 32 [w37.b,w37.l,w48.b,w48.l],boxA b6 32 [w34.b,w34.l,w45.b,w45.l],boxA b2 32 [u2.b,u2.l,v2.b,v2.l],boxA b1 32 [u1.b,u1.l,v1.b,v1.l]]) 11 mixed (.then .ret) (by kernel_rfl)<|d_pv 0 rfl rfl (by kernel_rfl) (by kernel_rfl) rfl rfl (zg Tryz.underlying32 rfl sz30 rfl rfl)<|d_uw 1 rfl rfl (by kernel_rfl) (by kernel_rfl) (by kernel_rfl) rfl rfl (zf 2 ty30 rfl rfl (.take (.take .nil)))<|d_pv 2 rfl rfl (by kernel_rfl) (by kernel_rfl) rfl rfl (zg Tryz.underlying32 rfl sz30 rfl rfl)<|d_uw 3 rfl rfl (by kernel_rfl) (by kernel_rfl) (by kernel_rfl) rfl rfl (zf 1 ty30 rfl rfl (.take (.take .nil)))<|d_pv 5 rfl rfl (by kernel_rfl) (by kernel_rfl) rfl rfl (zg Tryz.underlying32 rfl sz30 rfl rfl)<|d_uw 6 rfl rfl (by kernel_rfl) (by kernel_rfl) (by kernel_rfl) rfl rfl (zf 2 ty30 rfl rfl (.skip (.skip (.take (.take .nil)))))<|d_pv 7 rfl rfl (by kernel_rfl) (by kernel_rfl) rfl rfl (zg Tryz.underlying32 rfl sz30 rfl rfl)<|d_uw 8 rfl rfl (by kernel_rfl) (by kernel_rfl) (by kernel_rfl) rfl rfl (zf 1 ty30 rfl rfl (.skip (.skip (.take (.take .nil)))))<|zxb (qF_open 1 rfl) (fun _ _=> ?_)
 refine zxb (qF_open 2 rfl) (fun _ _=> ?_)
 refine zL 4 (by kernel_rfl) (zH rfl rfl rfl rfl (.c rfl (.c rfl .n)) ce69 (zEb (w1:=w34) (w2:=w37) (x1:=(q1).num) (x2:=(q2).num) (hb1:=by first|rfl|assumption|omega|(rw [Big.zO];omega)|(decide +kernel)) (hb2:=by first|rfl|assumption|omega|(rw [Big.zO];omega)|(decide +kernel))) (.c (j:=2) rfl (.c (j:=0) rfl .n)) ?_)
 rintro w310 -
 dsimp only [List.append_eq,List.nil_append,List.cons_append]
 refine zL 9 (by kernel_rfl) (zH rfl rfl rfl rfl (.c rfl (.c rfl .n)) ce69 (zEb (w1:=w45) (w2:=w48) (x1:=(((q1).den:Nat):Int)) (x2:=(((q2).den:Nat):Int)) (hb1:=by first|rfl|assumption|omega|(rw [Big.zO];omega)|(decide +kernel)) (hb2:=by first|rfl|assumption|omega|(rw [Big.zO];omega)|(decide +kernel))) (.c (j:=4) rfl (.c (j:=2) rfl .n)) ?_)
 rintro w311 -
 dsimp only [List.append_eq,List.nil_append,List.cons_append]
 refine zL 10 (by kernel_rfl) (zH rfl rfl rfl rfl (.c rfl (.c rfl .n)) ce68 (zFb (w1:=w310) (w2:=w311) (x1:=((q1).num)*((q2).num)) (x2:=(((q1).den:Nat):Int)*(((q2).den:Nat):Int)) (hl1:=by first|rfl|assumption|omega|(rw [Big.zO];omega)|(decide +kernel)) (hl2:=by first|rfl|assumption|omega|(rw [Big.zO];omega)|(decide +kernel)) (hd:=by exact Int.mul_ne_zero (Big.den_ne q1) (Big.den_ne q2))) (.c (j:=1) rfl (.c (j:=0) rfl .n)) ?_)
 rintro ⟨w312,w413⟩ -
 dsimp only [List.append_eq,List.nil_append,List.cons_append]
 refine zL 11 (by kernel_rfl) (zD (by kernel_rfl) rfl rfl rfl rfl rfl sz32 rfl (.take (.take (.take (.take .nil)))) ?_)
 refine zba (by kernel_rfl)<|ze<|zI ?_
 exact zE Tryz.results39 (w312,w413) trivial (zt 0 ty32 rfl rfl (.take (.take (.take (.take .nil))))) rfl (ho:=(.n:PickO _ _ _)) ((.e (j:=0) rfl (by rw [Big.mul_parts]) .n):SelR _ _ _)
theorem zcf {k1:Bool} {u1:Wd} {v1:Wd} {q1:Rat} {k2:Bool} {u2:Wd} {v2:Wd} {q2:Rat} (hl:Big.hq q1+Big.hq q2+1≤1048576):Con Tryz.prog 41 [.agg #[u1.b,u1.l,v1.b,v1.l],.agg #[u2.b,u2.l,v2.b,v2.l]] [] [qF k1 u1 v1 q1,qF k2 u2 v2 q2] (Y:=Wd×Wd) (fun y=>True) (fun y=> .agg #[y.1.b,y.1.l,y.2.b,y.2.l]) (fun y=>[]) (fun y=>[qF true y.1 y.2 (q1 - q2)]):=by
 refine zq Tryz.func41 rfl rfl rfl (fun c=> ?_)
 show RunC _ _ _ _ _ [(0,.agg #[u1.b,u1.l,v1.b,v1.l]),(1,.agg #[u2.b,u2.l,v2.b,v2.l])] [] [qF k1 u1 v1 q1,qF k2 u2 v2 q2]
 have a1:=Big.hq_num q1
 have a2:=Big.hq_den q1
 have a3:=Big.hq_num q2
 have a4:=Big.hq_den q2
 refine zi<|zc<|zJ rfl rfl (zQ rfl rfl) (fun b1=> ?_)
 refine zJ rfl rfl (zQ rfl rfl) (fun b2=> ?_)
 refine zJ rfl rfl (zw zr32 rfl) (fun b3=> ?_)
 refine zj<|ze<|zi<|zea (OW:=[boxA b3 32 [.bool false,.slice none 0 0,.bool false,.slice none 0 0]]) (O:=[boxA b2 32 [u2.b,u2.l,v2.b,v2.l],boxA b1 32 [u1.b,u1.l,v1.b,v1.l]]) 4 mixed (.then .ret) (by kernel_rfl)<|d_uw 0 rfl rfl (by kernel_rfl) (by kernel_rfl) (by kernel_rfl) rfl rfl (zf 2 ty32 rfl rfl (.take (.take (.take (.take .nil)))))<|d_uw 1 rfl rfl (by kernel_rfl) (by kernel_rfl) (by kernel_rfl) rfl rfl (zf 1 ty32 rfl rfl (.take (.take (.take (.take .nil)))))<|zL 2 (by kernel_rfl) (zH rfl rfl rfl rfl (.c rfl .n) ce42 (zZe (k1:=k2) (u1:=u2) (v1:=v2) (q1:=q2) (hl:=by first|rfl|assumption|omega|(rw [Big.zO];omega)|(decide +kernel)|(rw [Big.hq_neg];omega))) (.c (j:=1) rfl .n) ?_)
 rintro ⟨w34,w45⟩ -
 dsimp only [List.append_eq,List.nil_append,List.cons_append]
 refine zL 3 (by kernel_rfl) (zH rfl rfl rfl rfl (.c rfl (.c rfl .n)) ce70 (zaf (k1:=k1) (u1:=u1) (v1:=v1) (q1:=q1) (k2:=true) (u2:=w34) (v2:=w45) (q2:= - q2) (hl:=by first|rfl|assumption|omega|(rw [Big.zO];omega)|(decide +kernel)|(rw [Big.hq_neg];omega))) (.c (j:=1) rfl (.c (j:=0) rfl .n)) ?_)
 rintro ⟨w36,w47⟩ -
 dsimp only [List.append_eq,List.nil_append,List.cons_append]
 refine zL 4 (by kernel_rfl) (zD (by kernel_rfl) rfl rfl rfl rfl rfl sz32 rfl (.take (.take (.take (.take .nil)))) ?_)
 refine zba (by kernel_rfl)<|ze<|zI ?_
 exact zE Tryz.results41 (w36,w47) trivial (zt 0 ty32 rfl rfl (.take (.take (.take (.take .nil))))) rfl (ho:=(.n:PickO _ _ _)) ((.e (j:=0) rfl (by rw [Rat.sub_eq_add_neg]) .n):SelR _ _ _)
theorem zvb {k1:Bool} {u1:Wd} {v1:Wd} {q1:Rat} {k2:Bool} {u2:Wd} {v2:Wd} {q2:Rat} (hl:Big.hq q1+Big.hq q2+1≤1048576):Con Tryz.prog 14 [.agg #[u1.b,u1.l,v1.b,v1.l],.agg #[u2.b,u2.l,v2.b,v2.l]] [] [qF k1 u1 v1 q1,qF k2 u2 v2 q2] (Y:=Unit) (fun y=>True) (fun y=> .int .i64 (Big.sgq (q1 - q2))) (fun y=>[]) (fun y=>[]):=by
 refine zq Tryz.func14 rfl rfl rfl (fun c=> ?_)
 show RunC _ _ _ _ _ [(0,.agg #[u1.b,u1.l,v1.b,v1.l]),(1,.agg #[u2.b,u2.l,v2.b,v2.l])] [] [qF k1 u1 v1 q1,qF k2 u2 v2 q2]
 have hsb:=Big.hq_sub q1 q2
 refine zi<|zc<|zJ rfl rfl (zQ rfl rfl) (fun b1=> ?_)
 refine zJ rfl rfl (zQ rfl rfl) (fun b2=> ?_)
 refine r_pv rfl rfl (zd rfl)<|zj<|ze<|zi<|zc<|r_u rfl rfl (zf 1 ty32 rfl rfl (.take (.take (.take (.take .nil)))))<|r_u rfl rfl (zf 0 ty32 rfl rfl (.take (.take (.take (.take .nil)))))<|zy rfl rfl (.c rfl (.c rfl .n)) ce41 (zcf (k1:=k1) (u1:=u1) (v1:=v1) (q1:=q1) (k2:=k2) (u2:=u2) (v2:=v2) (q2:=q2) (hl:=by assumption)) (.c (j:=0) rfl (.c (j:=1) rfl .n)) ?_
 rintro ⟨w33,w44⟩ -
 dsimp only [List.append_eq,List.nil_append,List.cons_append]
 refine zN rfl rfl (.c rfl .n) ce40 (zte (k1:=true) (u1:=w33) (v1:=w44) (q1:=q1 - q2) (hl:=by first|rfl|assumption|omega|(rw [Big.zO];omega)|(decide +kernel))) (.c (j:=0) rfl .n)<|r_pv rfl rfl (zd rfl)<|zj<|ze<|zI ?_
 exact zE Tryz.results14 () trivial (zo rfl) rfl (ho:=(.n:PickO _ _ _)) (.n:SelR _ _ _)
theorem zKc {u1:Wd} {v1:Wd} {q1:Rat} {u2:Wd} {v2:Wd} {q2:Rat} (hl:Big.hq q1+Big.hq q2+1≤1048576):Con Tryz.prog 22 [.agg #[u1.b,u1.l,v1.b,v1.l],.agg #[u2.b,u2.l,v2.b,v2.l]] [] [qF true u1 v1 q1,qF true u2 v2 q2] (Y:=Unit) (fun y=>True) (fun y=> .bool (decide (q1=q2))) (fun y=>[]) (fun y=>[]):=by
 refine zq Tryz.func22 rfl rfl rfl (fun c=> ?_)
 show RunC _ _ _ _ _ [(0,.agg #[u1.b,u1.l,v1.b,v1.l]),(1,.agg #[u2.b,u2.l,v2.b,v2.l])] [] [qF true u1 v1 q1,qF true u2 v2 q2]
 refine zi<|zc<|zJ rfl rfl (zQ rfl rfl) (fun b1=> ?_)
 refine zJ rfl rfl (zQ rfl rfl) (fun b2=> ?_)
 refine r_pv rfl rfl (zd rfl)<|zj<|ze<|zGa (X:=Unit) (fun x=>True) (fun x=>[(4,.bool (decide (Big.sgq (q1 - q2)=0)))]) (fun x=>[boxA b2 32 (cw [u2,v2]),boxA b1 32 (cw [u1,v1])]) (fun x=>[qF true u1 v1 q1,qF true u2 v2 q2]) ?_ ?_
 ·
  refine zc<|r_u rfl rfl (zf 1 ty32 rfl rfl (.take (.take (.take (.take .nil)))))<|zN rfl rfl (.c rfl .n) ce28 (zec (u1:=u1) (v1:=v1) (q1:=q1)) (.c (j:=0) rfl .n)<|r_pv rfl rfl (za rfl)<|r_u rfl rfl (zf 0 ty32 rfl rfl (.take (.take (.take (.take .nil)))))<|zN rfl rfl (.c rfl .n) ce28 (zec (u1:=u2) (v1:=v2) (q1:=q2)) (.c (j:=1) rfl .n)<|r_pv rfl rfl (zm rfl rfl)<|r_pv rfl rfl (za rfl)<|r_u rfl rfl (zf 1 ty32 rfl rfl (.take (.take (.take (.take .nil)))))<|r_u rfl rfl (zf 0 ty32 rfl rfl (.take (.take (.take (.take .nil)))))<|zN rfl rfl (.c rfl (.c rfl .n)) ce14 (zvb (k1:=true) (u1:=u1) (v1:=v1) (q1:=q1) (k2:=true) (u2:=u2) (v2:=v2) (q2:=q2) (hl:=by assumption)) (.c (j:=0) rfl (.c (j:=1) rfl .n))<|r_pv rfl rfl (zva rfl rfl)<|r_pv rfl rfl (zm rfl rfl)<|r_pv rfl rfl (zd rfl)<|zj ?_
  exact zca () (show True from by first|trivial|omega|simp_all) ((.c rfl .n):SubM _ _) (ho:=((.of [0,0] rfl):PickO _ _ _)) ((.of [0,1] rfl):SelR _ _ _)
 ·
  rintro ⟨⟩ -
  try dsimp only [cw]
  refine zI ?_
  exact zE Tryz.results22 () trivial (zo rfl) (congrArg Value.bool (decide_eq_decide.2 Big.sgq_sub_zero.symm)) (ho:=(.n:PickO _ _ _)) (.n:SelR _ _ _)
end Go.Proofs.YtkamccndgblheaaGreat.Sp
namespace Go.Proofs.YtkamccndgblheaaGreat.Sp
open Go
set_option linter.unusedVariables false
set_option maxRecDepth 100000
set_option maxHeartbeats 1000000
theorem zSc {wi1:Int} {hi1:Int} {m1:Int} {p1:Option Addr} {n1:Nat} {c1:Nat} {l1:List Int} {wi2:Int} {hi2:Int} {m2:Int} {p2:Option Addr} {n2:Nat} {c2:Nat} {l2:List Int} (hn1:l1.length=n1) (hn2:l2.length=n2):Con Tryz.prog 34 [.agg #[.int .i64 wi1,.int .i64 hi1,.int .i64 m1,.slice p1 n1 c1],.agg #[.int .i64 wi2,.int .i64 hi2,.int .i64 m2,.slice p2 n2 c2]] [] [slF (rI .i64) p1 c1 l1,slF (rI .i64) p2 c2 l2] (Y:=Unit) (fun y=>True) (fun y=> .int .i64 (if (Cr.rk2 wi1 hi1 m1 l1 wi2 hi2 m2 l2) then 0 else 1)) (fun y=>[]) (fun y=>[]):=by
 refine zq Tryz.func34 rfl rfl rfl (fun c=> ?_)
 show RunC _ _ _ _ _ [(0,.agg #[.int .i64 wi1,.int .i64 hi1,.int .i64 m1,.slice p1 n1 c1]),(1,.agg #[.int .i64 wi2,.int .i64 hi2,.int .i64 m2,.slice p2 n2 c2])] [] [slF (rI .i64) p1 c1 l1,slF (rI .i64) p2 c2 l2]
 refine zY 0 rfl (fun hL0=> ?_)
 refine zY 1 rfl (fun hL1=> ?_)
 refine zi<|zc<|zJ rfl rfl (zQ rfl rfl) (fun b1=> ?_)
 refine zJ rfl rfl (zQ rfl rfl) (fun b2=> ?_)
 refine r_pv rfl rfl (zd rfl)<|zj<|ze<|zi<|zi<|zc<|r_u rfl rfl (zf 1 ty24 rfl rfl (.take (.take (.take (.take .nil)))))<|zN rfl rfl (.c rfl .n) ce61 (zlb (w:=wi1) (h:=hi1) (m:=m1) (p:=p1) (n:=n1) (cap:=c1) (l:=l1) (hn:=by assumption)) (.c (j:=0) rfl .n)<|r_pv rfl rfl (zd rfl)<|zj<|ze<|zi<|zc<|r_pv rfl rfl (za rfl)<|r_pv rfl rfl (zKa rfl rfl)<|zj<|ze<|zG rfl (fun hc=> ?_) (fun hc=> ?_)
 ·
  have hno:¬Bl.rok wi1 hi1 m1 l1:=fun k=>hc (if_pos k)
  refine zi<|zc<|r_pv rfl rfl (za rfl)<|r_pv rfl rfl (zd rfl)<|zj<|ze<|zI<|zp ?_
  exact zE Tryz.results34 () trivial (zo rfl) (by rw [if_neg hno,if_neg (fun k=>hno k.1)]) (ho:=(.n:PickO _ _ _)) (.n:SelR _ _ _)
 ·
  have hok:Bl.rok wi1 hi1 m1 l1:=Bl.c0.1 (Decidable.not_not.1 hc)
  refine zB<|ze<|zi<|zc<|r_u rfl rfl (zf 0 ty24 rfl rfl (.take (.take (.take (.take .nil)))))<|zN rfl rfl (.c rfl .n) ce61 (zlb (w:=wi2) (h:=hi2) (m:=m2) (p:=p2) (n:=n2) (cap:=c2) (l:=l2) (hn:=by assumption)) (.c (j:=1) rfl .n)<|r_pv rfl rfl (zd rfl)<|zj<|ze<|zI ?_
  exact zE Tryz.results34 () trivial (zo rfl) (by by_cases h9:Bl.rok wi2 hi2 m2 l2;rw [if_pos h9,if_pos (show (Cr.rk2 wi1 hi1 m1 l1 wi2 hi2 m2 l2) from ⟨hok,h9⟩)];rw [if_neg h9,if_neg (fun k=>h9 k.2)]) (ho:=(.n:PickO _ _ _)) (.n:SelR _ _ _)
theorem zQd {wi1:Int} {hi1:Int} {m1:Int} {p1:Option Addr} {n1:Nat} {c1:Nat} {l1:List Int} (hn1:l1.length=n1):Con Tryz.prog 32 [.agg #[.int .i64 wi1,.int .i64 hi1,.int .i64 m1,.slice p1 n1 c1]] [] [slF (rI .i64) p1 c1 l1] (Y:=(Option Addr)×Nat×Nat×(List (List Int))) (fun y=>y.2.2.2.length=y.2.1∧(y.2.2.2=if Bl.rok wi1 hi1 m1 l1 then Cr.tab (Cr.sq l1) (Int.toNat wi1) (Int.toNat hi1+1) else [])) (fun y=> .tuple #[.slice (y.1) (y.2.1) (y.2.2.1),.int .i64 (if Bl.rok wi1 hi1 m1 l1 then 0 else 1)]) (fun y=>[]) (fun y=>[slF (rS (rI .i64)) (y.1) (y.2.2.1) (y.2.2.2)]):=by
 refine zq Tryz.func32 rfl rfl rfl (fun c=> ?_)
 show RunC _ _ _ _ _ [(0,.agg #[.int .i64 wi1,.int .i64 hi1,.int .i64 m1,.slice p1 n1 c1])] [] [slF (rI .i64) p1 c1 l1]
 refine zY 0 rfl (fun hL0=> ?_)
 refine zi<|zc<|zJ rfl rfl (zQ rfl rfl) (fun b1=> ?_)
 refine r_pv rfl rfl (zd rfl)<|r_pv rfl rfl (zd rfl)<|zj<|ze<|zi<|zi<|zc<|r_u rfl rfl (zf 0 ty24 rfl rfl (.take (.take (.take (.take .nil)))))<|zN rfl rfl (.c rfl .n) ce61 (zlb (w:=wi1) (h:=hi1) (m:=m1) (p:=p1) (n:=n1) (cap:=c1) (l:=l1) (hn:=by assumption)) (.c (j:=0) rfl .n)<|r_pv rfl rfl (zd rfl)<|zj<|ze<|zi<|zc<|r_pv rfl rfl (za rfl)<|r_pv rfl rfl (zKa rfl rfl)<|zj<|ze<|zG rfl (fun hc=> ?_) (fun hc=> ?_)
 ·
  have hno:¬Bl.rok wi1 hi1 m1 l1:=fun k=>hc (if_pos k)
  refine zi<|zc<|r_pv rfl rfl (za rfl)<|r_pv rfl rfl (zd rfl)<|r_pv rfl rfl (zd rfl)<|zj<|ze<|zI<|zp<|zbb 22 (rS (rI .i64))<|zta 0 rfl .z ?_
  exact zBa Tryz.results32 (none,0,0,[]) (⟨rfl,(if_neg hno).symm⟩) (zo rfl) (zo rfl) (by rw [if_neg hno]) (ho:=(.n:PickO _ _ _)) ((.c (j:=0) rfl .n):SelR _ _ _)
 ·
  have hok:Bl.rok wi1 hi1 m1 l1:=Bl.c0.1 (Decidable.not_not.1 hc)
  obtain ⟨w1,vh1,rfl,rfl,hw1,hh1,hwh1,hb1,hg1⟩:=Cr.rokN hok hn1
  refine zB<|ze<|zi<|zc<|r_u rfl rfl (zf 0 ty24 rfl rfl (.take (.take (.take (.take .nil)))))<|zy rfl rfl (.c rfl .n) ce62 (zpc (w:=w1) (h:=vh1) (m:=m1) (p:=p1) (n:=n1) (cap:=c1) (l:=l1) (hn:=by assumption) (hw:=by first|rfl|assumption|omega) (hh:=by first|rfl|assumption|omega) (hwh:=by first|rfl|assumption|omega) (hb:=by first|rfl|assumption|omega) (hg:=by first|rfl|assumption|omega)) (.c (j:=0) rfl .n) ?_
  rintro ⟨p32,c33⟩ -
  dsimp only [List.append_eq,List.nil_append,List.cons_append]
  refine r_pv rfl rfl (zd rfl)<|r_pv rfl rfl (zd rfl)<|zj<|ze<|zI ?_
  exact zBa Tryz.results32 (p32,(vh1+1),c33,(Cr.tab (Cr.sq l1) w1 (vh1+1))) (⟨Cr.tab_len _ _ _,(if_pos hok).symm⟩) (zo rfl) (zo rfl) (by rw [if_pos hok]) (ho:=(.n:PickO _ _ _)) ((.c (j:=0) rfl .n):SelR _ _ _)
theorem zxd {k1:Bool} {u1:Wd} {v1:Wd} {q1:Rat} {k2:Bool} {u2:Wd} {v2:Wd} {q2:Rat} (hl:Big.hq q1+Big.hq q2+1≤1048576):Con Tryz.prog 46 [.agg #[u1.b,u1.l,v1.b,v1.l],.agg #[u2.b,u2.l,v2.b,v2.l]] [] [qF k1 u1 v1 q1,qF k2 u2 v2 q2] (Y:=Unit) (fun y=>True) (fun y=> .bool (decide (q2<q1))) (fun y=>[]) (fun y=>[]):=by
 refine zq Tryz.func46 rfl rfl rfl (fun c=> ?_)
 show RunC _ _ _ _ _ [(0,.agg #[u1.b,u1.l,v1.b,v1.l]),(1,.agg #[u2.b,u2.l,v2.b,v2.l])] [] [qF k1 u1 v1 q1,qF k2 u2 v2 q2]
 refine zi<|zc<|zJ rfl rfl (zQ rfl rfl) (fun b1=> ?_)
 refine zJ rfl rfl (zQ rfl rfl) (fun b2=> ?_)
 refine r_pv rfl rfl (zd rfl)<|zj<|ze<|zi<|zc<|r_u rfl rfl (zf 1 ty32 rfl rfl (.take (.take (.take (.take .nil)))))<|r_u rfl rfl (zf 0 ty32 rfl rfl (.take (.take (.take (.take .nil)))))<|zN rfl rfl (.c rfl (.c rfl .n)) ce73 (zpd (k1:=k1) (u1:=u1) (v1:=v1) (q1:=q1) (k2:=k2) (u2:=u2) (v2:=v2) (q2:=q2) (hl:=by assumption)) (.c (j:=0) rfl (.c (j:=1) rfl .n))<|r_pv rfl rfl (zoa rfl rfl)<|r_pv rfl rfl (zd rfl)<|zj<|ze<|zI ?_
 exact zE Tryz.results46 () trivial (zo rfl) (congrArg Value.bool (decide_eq_decide.2 (by rw [Big.sgq_pos];exact Cr.sub_pos.symm))) (ho:=(.n:PickO _ _ _)) (.n:SelR _ _ _)
theorem zdf {wi1:Int} {hi1:Int} {m1:Int} {p1:Option Addr} {n1:Nat} {c1:Nat} {l1:List Int} {wi2:Int} {hi2:Int} {m2:Int} {p2:Option Addr} {n2:Nat} {c2:Nat} {l2:List Int} {ex:Int} {ey:Int} (hn1:l1.length=n1) (hn2:l2.length=n2):Con Tryz.prog 9 [.agg #[.int .i64 wi1,.int .i64 hi1,.int .i64 m1,.slice p1 n1 c1],.agg #[.int .i64 wi2,.int .i64 hi2,.int .i64 m2,.slice p2 n2 c2],.int .i64 ex,.int .i64 ey] [] [slF (rI .i64) p1 c1 l1,slF (rI .i64) p2 c2 l2] (Y:=Wd×Wd) (fun y=>(Cr.sok wi1 hi1 m1 l1 wi2 hi2 m2 l2 ex ey)∨(y.1=wz∧y.2=wz)) (fun y=> .tuple #[.agg #[y.1.b,y.1.l,y.2.b,y.2.l],.int .i64 (if (Cr.rk2 wi1 hi1 m1 l1 wi2 hi2 m2 l2) then (if (Cr.pos wi1 hi1 wi2 hi2 ex ey) then 0 else 15) else 1)]) (fun y=>[]) (fun y=>[qF (decide (Cr.sok wi1 hi1 m1 l1 wi2 hi2 m2 l2 ex ey)) y.1 y.2 (if (Cr.sok wi1 hi1 m1 l1 wi2 hi2 m2 l2 ex ey) then (Cr.scq l1 l2 wi1 hi1 wi2 ex ey) else 0)]):=by
 refine zq Tryz.func9 rfl rfl rfl (fun c=> ?_)
 show RunC _ _ _ _ _ [(0,.agg #[.int .i64 wi1,.int .i64 hi1,.int .i64 m1,.slice p1 n1 c1]),(1,.agg #[.int .i64 wi2,.int .i64 hi2,.int .i64 m2,.slice p2 n2 c2]),(2,.int .i64 ex),(3,.int .i64 ey)] [] [slF (rI .i64) p1 c1 l1,slF (rI .i64) p2 c2 l2]
 refine zY 0 rfl (fun hL0=> ?_)
 refine zY 1 rfl (fun hL1=> ?_)
 refine zi<|zc<|zJ rfl rfl (zQ rfl rfl) (fun b1=> ?_)
 refine zJ rfl rfl (zQ rfl rfl) (fun b2=> ?_)
 refine zJ rfl rfl (zw zr32 rfl) (fun b3=> ?_)
 refine r_pv rfl rfl (zd rfl)<|zj<|ze<|zi<|zi<|zc<|r_u rfl rfl (zf 2 ty24 rfl rfl (.take (.take (.take (.take .nil)))))<|r_u rfl rfl (zf 1 ty24 rfl rfl (.take (.take (.take (.take .nil)))))<|zN rfl rfl (.c rfl (.c rfl .n)) ce34 (zSc (wi1:=wi1) (hi1:=hi1) (m1:=m1) (p1:=p1) (n1:=n1) (c1:=c1) (l1:=l1) (wi2:=wi2) (hi2:=hi2) (m2:=m2) (p2:=p2) (n2:=n2) (c2:=c2) (l2:=l2) (hn1:=by assumption) (hn2:=by assumption)) (.c (j:=0) rfl (.c (j:=1) rfl .n))<|r_pv rfl rfl (zd rfl)<|zj<|ze<|zi<|zc<|r_pv rfl rfl (za rfl)<|r_pv rfl rfl (zKa rfl rfl)<|zj<|ze<|zG rfl (fun hc=> ?_) (fun hc=> ?_)
 ·
  have hno:¬(Cr.rk2 wi1 hi1 m1 l1 wi2 hi2 m2 l2):=fun k=>hc (if_pos k)
  refine zi<|zc<|r_pv rfl rfl (zK zr32 rfl Tryz.underlying32 (.c sz30 (.c sz30 .n)) .n .n)<|r_pv rfl rfl (za rfl)<|zn 0 rfl rfl rfl rfl rfl sz32 rfl (.take (.take (.take (.take .nil)))) .z<|r_pv rfl rfl (zd rfl)<|zj<|ze<|zI<|zp<|zab (qF false wz wz 0) (fun g _=>qF_none g) ?_
  have hg9:¬(Cr.sok wi1 hi1 m1 l1 wi2 hi2 m2 l2 ex ey):=fun k=>hno k.1
  exact zBa Tryz.results9 (wz,wz) (Or.inr ⟨rfl,rfl⟩) (zt 0 ty32 rfl rfl (.take (.take (.take (.take .nil))))) (zo rfl) (by simp only [if_neg hno];rfl) (ho:=(.n:PickO _ _ _)) ((.e (j:=0) rfl (by rw [if_neg hg9,decide_eq_false hg9]) .n):SelR _ _ _)
 ·
  have hok:(Cr.rk2 wi1 hi1 m1 l1 wi2 hi2 m2 l2):=Bl.c0.1 (Decidable.not_not.1 hc)
  obtain ⟨w1,vh1,rfl,rfl,hw1,hh1,hwh1,hb1,hg1⟩:=Cr.rokN (hok.1) hn1
  obtain ⟨w2,vh2,rfl,rfl,hw2,hh2,hwh2,hb2,hg2⟩:=Cr.rokN (hok.2) hn2
  refine zB<|ze<|zi<|zc<|r_u rfl rfl (zf 2 ty24 rfl rfl (.take (.take (.take (.take .nil)))))<|r_u rfl rfl (zf 1 ty24 rfl rfl (.take (.take (.take (.take .nil)))))<|zy rfl rfl (.c rfl (.c rfl .n)) ce35 (zPa (w1:=w1) (vh1:=vh1) (m1:=m1) (p1:=p1) (n1:=n1) (c1:=c1) (l1:=l1) (w2:=w2) (vh2:=vh2) (m2:=m2) (p2:=p2) (n2:=n2) (c2:=c2) (l2:=l2) (hn1:=by assumption) (hw1:=by first|rfl|assumption|omega) (hh1:=by first|rfl|assumption|omega) (hwh1:=by first|rfl|assumption|omega) (hb1:=by first|rfl|assumption|omega) (hg1:=by first|rfl|assumption|omega) (hn2:=by assumption) (hw2:=by first|rfl|assumption|omega) (hh2:=by first|rfl|assumption|omega) (hwh2:=by first|rfl|assumption|omega) (hb2:=by first|rfl|assumption|omega) (hg2:=by first|rfl|assumption|omega) (hok:=by exact hok.2)) (.c (j:=0) rfl (.c (j:=1) rfl .n)) ?_
  rintro ⟨bm4,ps5,cs6,pq7,cq8⟩ -
  dsimp only [List.append_eq,List.nil_append,List.cons_append]
  refine r_pv rfl rfl (zd rfl)<|zj<|ze<|zi<|zi<|zc<|r_pv rfl rfl (za rfl)<|r_pv rfl rfl (za rfl)<|r_pv rfl rfl (za rfl)<|zN rfl rfl (.c rfl (.c rfl (.c rfl .n))) ce36 (zMe (w1:=w1) (vh1:=vh1) (m1:=m1) (p1:=p1) (n1:=n1) (c1:=c1) (w2:=w2) (vh2:=vh2) (m2:=m2) (p2:=p2) (n2:=n2) (c2:=c2) (bm:=bm4) (ps:=ps5) (cs:=cs6) (pq:=pq7) (cq:=cq8) (sm:=(Cr.sumN (Cr.px l1) n1)) (sp:=((((n1:Nat):Int)*(Cr.sumN (Cr.sq l1) n1)) - ((Cr.sumN (Cr.px l1) n1)*(Cr.sumN (Cr.px l1) n1)))) (ex:=ex) (ey:=ey) (hw1:=by first|rfl|assumption|omega) (hh1:=by first|rfl|assumption|omega) (hw2:=by first|rfl|assumption|omega) (hh2:=by first|rfl|assumption|omega)) (.c (j:=0) rfl .n)<|r_pv rfl rfl (zXa rfl)<|zj<|ze<|zG rfl (fun hp=> ?_) (fun hp=> ?_)
  ·
   have hn9:¬(Cr.pos ((w1:Nat):Int) ((vh1:Nat):Int) ((w2:Nat):Int) ((vh2:Nat):Int) ex ey):=fun k=>hp k
   refine zi<|zc<|r_pv rfl rfl (zK zr32 rfl Tryz.underlying32 (.c sz30 (.c sz30 .n)) .n .n)<|zn 0 rfl rfl rfl rfl rfl sz32 rfl (.take (.take (.take (.take .nil)))) .z<|r_pv rfl rfl (zd rfl)<|zj<|ze<|zI<|zp<|zab (qF false wz wz 0) (fun g _=>qF_none g) ?_
   have hg9:¬(Cr.sok ((w1:Nat):Int) ((vh1:Nat):Int) m1 l1 ((w2:Nat):Int) ((vh2:Nat):Int) m2 l2 ex ey):=fun k=>hn9 k.2
   exact zBa Tryz.results9 (wz,wz) (Or.inr ⟨rfl,rfl⟩) (zt 0 ty32 rfl rfl (.take (.take (.take (.take .nil))))) (zo rfl) (by rw [if_pos hok,if_neg hn9];rfl) (ho:=(.n:PickO _ _ _)) ((.e (j:=0) rfl (by rw [if_neg hg9,decide_eq_false hg9]) .n):SelR _ _ _)
  ·
   have hp9:(Cr.pos ((w1:Nat):Int) ((vh1:Nat):Int) ((w2:Nat):Int) ((vh2:Nat):Int) ex ey):=Decidable.not_not.1 hp
   obtain ⟨xx,e9⟩:∃q:Nat,ex=(q:Int):=⟨ex.toNat,by have:=hp9.1;omega⟩
   subst e9
   obtain ⟨yy,e10⟩:∃q:Nat,ey=(q:Int):=⟨ey.toNat,by have:=hp9.2.1;omega⟩
   subst e10
   have hx:xx+w1≤w2:=by have:=hp9.2.2.1;omega
   have hy:yy+vh1≤vh2:=by have:=hp9.2.2.2;omega
   refine zB<|ze<|zi<|zc<|r_pv rfl rfl (za rfl)<|r_pv rfl rfl (za rfl)<|r_pv rfl rfl (za rfl)<|zy rfl rfl (.c rfl (.c rfl (.c rfl .n))) ce37 (zqd (w1:=w1) (vh1:=vh1) (m1:=m1) (p1:=p1) (n1:=n1) (c1:=c1) (l1:=l1) (w2:=w2) (vh2:=vh2) (m2:=m2) (p2:=p2) (n2:=n2) (c2:=c2) (l2:=l2) (bm:=bm4) (ps:=ps5) (cs:=cs6) (pq:=pq7) (cq:=cq8) (xx:=xx) (yy:=yy) (hn1:=by assumption) (hw1:=by first|rfl|assumption|omega) (hh1:=by first|rfl|assumption|omega) (hwh1:=by first|rfl|assumption|omega) (hb1:=by first|rfl|assumption|omega) (hg1:=by first|rfl|assumption|omega) (hn2:=by assumption) (hw2:=by first|rfl|assumption|omega) (hh2:=by first|rfl|assumption|omega) (hwh2:=by first|rfl|assumption|omega) (hb2:=by first|rfl|assumption|omega) (hg2:=by first|rfl|assumption|omega) (hx:=by first|rfl|assumption|omega) (hy:=by first|rfl|assumption|omega)) (.c (j:=0) rfl (.c (j:=3) rfl (.c (j:=4) rfl (.c (j:=1) rfl (.c (j:=2) rfl .n))))) ?_
   rintro ⟨w311,w412⟩ -
   dsimp only [List.append_eq,List.nil_append,List.cons_append]
   refine zn 0 rfl rfl rfl rfl rfl sz32 rfl (.take (.take (.take (.take .nil)))) .z<|r_pv rfl rfl (zd rfl)<|zj<|ze<|zI ?_
   have hg9:(Cr.sok ((w1:Nat):Int) ((vh1:Nat):Int) m1 l1 ((w2:Nat):Int) ((vh2:Nat):Int) m2 l2 ((xx:Nat):Int) ((yy:Nat):Int)):=⟨hok,hp9⟩
   exact zBa Tryz.results9 (w311,w412) (Or.inl hg9) (zt 0 ty32 rfl rfl (.take (.take (.take (.take .nil))))) (zo rfl) (by rw [if_pos hok,if_pos hp9]) (ho:=(.n:PickO _ _ _)) ((.e (j:=0) rfl (by rw [if_pos hg9,decide_eq_true hg9,←Cr.scq_nat hn1]) .n):SelR _ _ _)
end Go.Proofs.YtkamccndgblheaaGreat.Sp
namespace Go.Proofs.YtkamccndgblheaaGreat.Sp
open Go
structure Gr where
  (w h m:Int) (p:Option Addr) (n c:Nat)
def gr0:Gr:=⟨0,0,0,none,0,0⟩
def okG (z:Gr):Prop:=InK .i64 z.w∧InK .i64 z.h∧InK .i64 z.m
def rG:Rp Gr:=fl 4 (fun z=>[.int .i64 z.w,.int .i64 z.h,.int .i64 z.m,.slice z.p z.n z.c]) okG (fun _=>rfl) (fun _=>rfl)
def gsF (l:List Gr) (ls:List (List Int)):Fa:=⟨fun g=>∀i,i<l.length→Sl (rI .i64) g (l.getD i gr0).p (l.getD i gr0).c (ls.getD i []),fun _ _ h k i hi=>(k i hi).mono h⟩
theorem gsF_get {R:List Fa} (q:Nat) {l:List Gr} {ls:List (List Int)} (hq:R[q]? =some (gsF l ls)) (i:Nat) (hi:i<l.length):∀g,Holds g R→(slF (rI .i64) (l.getD i gr0).p (l.getD i gr0).c (ls.getD i [])).on g:=fun g h=>Holds.get q hq h i hi
theorem gsF_2 {R:List Fa} (q q':Nat) {w h m w' h' m':Int} {p p':Option Addr} {n c n' c':Nat} {l l':List Int} (hq:R[q]? =some (slF (rI .i64) p c l)) (hq':R[q']? =some (slF (rI .i64) p' c' l')):∀g,Holds g R→(gsF [⟨w,h,m,p,n,c⟩,⟨w',h',m',p',n',c'⟩] [l,l']).on g:=fun g hh i hi=>by
  have:i=0∨i=1:=by simp at hi;omega
  rcases this with rfl|rfl
  · exact Holds.get q hq hh
  · exact Holds.get q' hq' hh
end Go.Proofs.YtkamccndgblheaaGreat.Sp
namespace Go.Proofs.YtkamccndgblheaaGreat.Cr
open Sp
def allok (l:List Gr) (ls:List (List Int)) (n:Nat):Prop:=∀i,i<n→Bl.rok (l.getD i gr0).w (l.getD i gr0).h (l.getD i gr0).m (ls.getD i [])
instance (l:List Gr) (ls:List (List Int)) (n:Nat):Decidable (allok l ls n):=Nat.decidableBallLT n _
theorem chk2 {x y:Gr} {l k:List Int}:(if allok [x,y] [l,k] 2 then (0:Int) else 1)=if rk2 x.w x.h x.m l y.w y.h y.m k then 0 else 1:=by
  by_cases h:rk2 x.w x.h x.m l y.w y.h y.m k
  · rw [if_pos h, if_pos]; intro i hi
    rcases (show i=0∨i=1 by omega) with rfl|rfl
    · exact h.1
    · exact h.2
  · rw [if_neg h,if_neg];intro t;exact h ⟨t 0 (by omega),t 1 (by omega)⟩
theorem self_eq {α:Type} {a:α} [h:Decidable (a=a)]: @decide (a=a) h=true:=decide_eq_true rfl
theorem self_ne {α:Type} {a:α} [h:Decidable (a≠a)]: @decide (a≠a) h=false:=decide_eq_false (fun k=>k rfl)
def exT:List (List Int):=[[0,0,0,0],[0,4,20,29]]
end Go.Proofs.YtkamccndgblheaaGreat.Cr
namespace Go.Proofs.YtkamccndgblheaaGreat.Sp
open Go
set_option linter.unusedVariables false
set_option maxRecDepth 100000
set_option maxHeartbeats 1000000
theorem zjc {w1:Nat} {vh1:Nat} {m1:Int} {p1:Option Addr} {n1:Nat} {c1:Nat} {l1:List Int} {w2:Nat} {vh2:Nat} {m2:Int} {p2:Option Addr} {n2:Nat} {c2:Nat} {l2:List Int} {bm:Nat} {ps:Option Addr} {cs:Nat} {pq:Option Addr} {cq:Nat} {le:Int} {tp:Int} {ri:Int} {bo:Int} (hn1:l1.length=n1) (hw1:1≤w1∧w1≤64) (hh1:1≤vh1∧vh1≤64) (hwh1:n1=w1*vh1) (hb1:n1≤4096) (hg1:∀i,i<n1→0≤l1.getD i 0∧l1.getD i 0≤65535) (hn2:l2.length=n2) (hw2:1≤w2∧w2≤64) (hh2:1≤vh2∧vh2≤64) (hwh2:n2=w2*vh2) (hb2:n2≤4096) (hg2:∀i,i<n2→0≤l2.getD i 0∧l2.getD i 0≤65535) (hle: -1000000≤le∧le≤1000000) (htp: -1000000≤tp∧tp≤1000000) (hri: -1000000≤ri∧ri≤1000000) (hbo: -1000000≤bo∧bo≤1000000):Con Tryz.prog 45 [.pointer (some ⟨bm,0,none⟩),.int .i64 le,.int .i64 tp,.int .i64 ri,.int .i64 bo,.func (.func 46) #[] #[]] [] [atF bm 0 [.int .i64 ((w1:Nat):Int),.int .i64 ((vh1:Nat):Int),.int .i64 m1,.slice p1 n1 c1,.int .i64 ((w2:Nat):Int),.int .i64 ((vh2:Nat):Int),.int .i64 m2,.slice p2 n2 c2,.slice ps (vh2+1) cs,.slice pq (vh2+1) cq,.int .i64 (Cr.sumN (Cr.px l1) n1),.int .i64 ((((n1:Nat):Int)*(Cr.sumN (Cr.sq l1) n1)) - ((Cr.sumN (Cr.px l1) n1)*(Cr.sumN (Cr.px l1) n1)))],slF (rI .i64) p1 c1 l1,slF (rI .i64) p2 c2 l2,slF (rS (rI .i64)) ps cs (Cr.tab (Cr.px l2) w2 (vh2+1)),slF (rS (rI .i64)) pq cq (Cr.tab (Cr.sq l2) w2 (vh2+1))] (Y:=Wd×Wd) (fun y=>((Cr.allP (Cr.pat l1 l2 ((w1:Nat):Int) ((vh1:Nat):Int) ((w2:Nat):Int) ((vh2:Nat):Int)) le tp (ri - le+1).toNat (bo - tp+1).toNat).isSome=false→y.1=wz∧y.2=wz)∧Big.hq (Cr.pQ (Cr.allP (Cr.pat l1 l2 ((w1:Nat):Int) ((vh1:Nat):Int) ((w2:Nat):Int) ((vh2:Nat):Int)) le tp (ri - le+1).toNat (bo - tp+1).toNat))≤6) (fun y=> .tuple #[.int .i64 (Cr.pX (Cr.allP (Cr.pat l1 l2 ((w1:Nat):Int) ((vh1:Nat):Int) ((w2:Nat):Int) ((vh2:Nat):Int)) le tp (ri - le+1).toNat (bo - tp+1).toNat)),.int .i64 (Cr.pY (Cr.allP (Cr.pat l1 l2 ((w1:Nat):Int) ((vh1:Nat):Int) ((w2:Nat):Int) ((vh2:Nat):Int)) le tp (ri - le+1).toNat (bo - tp+1).toNat)),.agg #[y.1.b,y.1.l,y.2.b,y.2.l],.bool ((Cr.allP (Cr.pat l1 l2 ((w1:Nat):Int) ((vh1:Nat):Int) ((w2:Nat):Int) ((vh2:Nat):Int)) le tp (ri - le+1).toNat (bo - tp+1).toNat).isSome)]) (fun y=>[]) (fun y=>[qF ((Cr.allP (Cr.pat l1 l2 ((w1:Nat):Int) ((vh1:Nat):Int) ((w2:Nat):Int) ((vh2:Nat):Int)) le tp (ri - le+1).toNat (bo - tp+1).toNat).isSome) y.1 y.2 (Cr.pQ (Cr.allP (Cr.pat l1 l2 ((w1:Nat):Int) ((vh1:Nat):Int) ((w2:Nat):Int) ((vh2:Nat):Int)) le tp (ri - le+1).toNat (bo - tp+1).toNat))]):=by
 refine zq Tryz.func45 rfl rfl rfl (fun c=> ?_)
 show RunC _ _ _ _ _ [(0,.pointer (some ⟨bm,0,none⟩)),(1,.int .i64 le),(2,.int .i64 tp),(3,.int .i64 ri),(4,.int .i64 bo),(5,.func (.func 46) #[] #[])] [] [atF bm 0 [.int .i64 ((w1:Nat):Int),.int .i64 ((vh1:Nat):Int),.int .i64 m1,.slice p1 n1 c1,.int .i64 ((w2:Nat):Int),.int .i64 ((vh2:Nat):Int),.int .i64 m2,.slice p2 n2 c2,.slice ps (vh2+1) cs,.slice pq (vh2+1) cq,.int .i64 (Cr.sumN (Cr.px l1) n1),.int .i64 ((((n1:Nat):Int)*(Cr.sumN (Cr.sq l1) n1)) - ((Cr.sumN (Cr.px l1) n1)*(Cr.sumN (Cr.px l1) n1)))],slF (rI .i64) p1 c1 l1,slF (rI .i64) p2 c2 l2,slF (rS (rI .i64)) ps cs (Cr.tab (Cr.px l2) w2 (vh2+1)),slF (rS (rI .i64)) pq cq (Cr.tab (Cr.sq l2) w2 (vh2+1))]
 refine zY 1 rfl (fun hL1=> ?_)
 refine zY 2 rfl (fun hL2=> ?_)
 refine zY 3 rfl (fun hL3=> ?_)
 refine zY 4 rfl (fun hL4=> ?_)
 refine zi<|zc<|r_pv rfl rfl (zd rfl)<|r_pv rfl rfl (zd rfl)<|zJ rfl rfl (zw zr32 rfl) (fun b1=> ?_)
 refine r_pv rfl rfl (zd rfl)<|zj<|ze<|zi<|zi<|zCb (qF false wz wz 0) (fun g _=>qF_none g)<|zc<|r_pv rfl rfl (za rfl)<|r_pv rfl rfl (zd rfl)<|zj<|ze<|zA<|zka (X:=Nat×(Cr.Pk)×Wd×Wd) (fun x:Nat×(Cr.Pk)×Wd×Wd=>x.1≤(bo - tp+1).toNat∧x.2.1=(Cr.allP (Cr.pat l1 l2 ((w1:Nat):Int) ((vh1:Nat):Int) ((w2:Nat):Int) ((vh2:Nat):Int)) le tp (ri - le+1).toNat x.1)∧(x.2.1.isSome=false→x.2.2.1=wz∧x.2.2.2=wz)∧Big.hq (Cr.pQ x.2.1)≤6) (fun x=>[(15,.bool (x.2.1.isSome)),(13,.int .i64 (Cr.pY x.2.1)),(12,.int .i64 (Cr.pX x.2.1)),(16,.int .i64 (tp+((x.1:Nat):Int))),(14,.pointer (some ⟨b1,0,none⟩)),(0,.pointer (some ⟨bm,0,none⟩)),(1,.int .i64 le),(3,.int .i64 ri),(4,.int .i64 bo),(5,.func (.func 46) #[] #[])]) (fun x=>[boxA b1 32 (cw [x.2.2.1,x.2.2.2])]) (fun x=>[qF x.2.1.isSome x.2.2.1 x.2.2.2 (Cr.pQ x.2.1),qF false wz wz 0,atF bm 0 [.int .i64 ((w1:Nat):Int),.int .i64 ((vh1:Nat):Int),.int .i64 m1,.slice p1 n1 c1,.int .i64 ((w2:Nat):Int),.int .i64 ((vh2:Nat):Int),.int .i64 m2,.slice p2 n2 c2,.slice ps (vh2+1) cs,.slice pq (vh2+1) cq,.int .i64 (Cr.sumN (Cr.px l1) n1),.int .i64 ((((n1:Nat):Int)*(Cr.sumN (Cr.sq l1) n1)) - ((Cr.sumN (Cr.px l1) n1)*(Cr.sumN (Cr.px l1) n1)))],slF (rI .i64) p1 c1 l1,slF (rI .i64) p2 c2 l2,slF (rS (rI .i64)) ps cs (Cr.tab (Cr.px l2) w2 (vh2+1)),slF (rS (rI .i64)) pq cq (Cr.tab (Cr.sq l2) w2 (vh2+1))]) (fun x:Nat×(Cr.Pk)×Wd×Wd=>(bo - tp+1).toNat - x.1) (0,(none:Cr.Pk),wz,wz) (show 0≤(bo - tp+1).toNat∧(none:Cr.Pk)=(Cr.allP (Cr.pat l1 l2 ((w1:Nat):Int) ((vh1:Nat):Int) ((w2:Nat):Int) ((vh2:Nat):Int)) le tp (ri - le+1).toNat 0)∧((none:Cr.Pk).isSome=false→wz=wz∧wz=wz)∧Big.hq (Cr.pQ (none:Cr.Pk))≤6 from by exact ⟨Nat.zero_le _,rfl,fun _=>⟨rfl,rfl⟩,by decide⟩) ((.e rfl (by first|rfl|(congr 1;omega)|simp_all) (.e rfl (by first|rfl|(congr 1;omega)|simp_all) (.e rfl (by first|rfl|(congr 1;omega)|simp_all) (.e rfl (by first|rfl|(congr 1;omega)|simp_all) (.of rfl))))):SubM _ _) (ho:=((.e (i:=0) rfl (by first|rfl|(congr 1;omega)|simp_all) .n):PickO _ _ _)) ((.e (j:=0) rfl (by first|rfl|simp_all) (.of [0,1,2,3,4,5] rfl)):SelR _ _ _) ?_
 rintro ⟨j,B,u0,v0⟩ hI
 replace hI:j≤(bo - tp+1).toNat∧B=(Cr.allP (Cr.pat l1 l2 ((w1:Nat):Int) ((vh1:Nat):Int) ((w2:Nat):Int) ((vh2:Nat):Int)) le tp (ri - le+1).toNat j)∧(B.isSome=false→u0=wz∧v0=wz)∧Big.hq (Cr.pQ B)≤6:=hI
 try dsimp only [cw]
 obtain ⟨hj,hB,hBw,hBq⟩:=hI
 refine zi<|zi<|zc<|r_pv rfl rfl (za rfl)<|r_pv rfl rfl (za rfl)<|r_pv rfl rfl (zdb rfl rfl)<|zj<|ze<|zG rfl (fun h2=> ?_) (fun h2=> ?_)
 ·
  refine zB<|ze<|zi<|zA<|zi<|zc<|r_pv rfl rfl (za rfl)<|r_pv rfl rfl (zd rfl)<|zj<|ze<|zA<|zka (X:=Nat×(Cr.Pk)×Wd×Wd) (fun x:Nat×(Cr.Pk)×Wd×Wd=>x.1≤(ri - le+1).toNat∧x.2.1=Cr.rowP (Cr.pat l1 l2 ((w1:Nat):Int) ((vh1:Nat):Int) ((w2:Nat):Int) ((vh2:Nat):Int)) le (tp+((j:Nat):Int)) B x.1∧(x.2.1.isSome=false→x.2.2.1=wz∧x.2.2.2=wz)∧Big.hq (Cr.pQ x.2.1)≤6) (fun x=>[(15,.bool (x.2.1.isSome)),(13,.int .i64 (Cr.pY x.2.1)),(12,.int .i64 (Cr.pX x.2.1)),(17,.int .i64 (le+((x.1:Nat):Int))),(16,.int .i64 (tp+((j:Nat):Int))),(14,.pointer (some ⟨b1,0,none⟩)),(0,.pointer (some ⟨bm,0,none⟩)),(1,.int .i64 le),(3,.int .i64 ri),(4,.int .i64 bo),(5,.func (.func 46) #[] #[])]) (fun x=>[boxA b1 32 (cw [x.2.2.1,x.2.2.2])]) (fun x=>[qF x.2.1.isSome x.2.2.1 x.2.2.2 (Cr.pQ x.2.1),qF B.isSome u0 v0 (Cr.pQ B),qF false wz wz 0,atF bm 0 [.int .i64 ((w1:Nat):Int),.int .i64 ((vh1:Nat):Int),.int .i64 m1,.slice p1 n1 c1,.int .i64 ((w2:Nat):Int),.int .i64 ((vh2:Nat):Int),.int .i64 m2,.slice p2 n2 c2,.slice ps (vh2+1) cs,.slice pq (vh2+1) cq,.int .i64 (Cr.sumN (Cr.px l1) n1),.int .i64 ((((n1:Nat):Int)*(Cr.sumN (Cr.sq l1) n1)) - ((Cr.sumN (Cr.px l1) n1)*(Cr.sumN (Cr.px l1) n1)))],slF (rI .i64) p1 c1 l1,slF (rI .i64) p2 c2 l2,slF (rS (rI .i64)) ps cs (Cr.tab (Cr.px l2) w2 (vh2+1)),slF (rS (rI .i64)) pq cq (Cr.tab (Cr.sq l2) w2 (vh2+1))]) (fun x:Nat×(Cr.Pk)×Wd×Wd=>(ri - le+1).toNat - x.1) (0,B,u0,v0) (show 0≤(ri - le+1).toNat∧B=Cr.rowP (Cr.pat l1 l2 ((w1:Nat):Int) ((vh1:Nat):Int) ((w2:Nat):Int) ((vh2:Nat):Int)) le (tp+((j:Nat):Int)) B 0∧(B.isSome=false→u0=wz∧v0=wz)∧Big.hq (Cr.pQ B)≤6 from by exact ⟨Nat.zero_le _,rfl,hBw,hBq⟩) ((.c rfl (.c rfl (.c rfl (.e rfl (by first|rfl|(congr 1;omega)|simp_all) (.of rfl))))):SubM _ _) (ho:=((.c (i:=0) rfl .n):PickO _ _ _)) ((.of [0,0,1,2,3,4,5,6] rfl):SelR _ _ _) ?_
  rintro ⟨i,A,ub,vb⟩ hJ
  replace hJ:i≤(ri - le+1).toNat∧A=Cr.rowP (Cr.pat l1 l2 ((w1:Nat):Int) ((vh1:Nat):Int) ((w2:Nat):Int) ((vh2:Nat):Int)) le (tp+((j:Nat):Int)) B i∧(A.isSome=false→ub=wz∧vb=wz)∧Big.hq (Cr.pQ A)≤6:=hJ
  try dsimp only [cw]
  obtain ⟨hi,hA,hAw,hAq⟩:=hJ
  refine zi<|zi<|zc<|r_pv rfl rfl (za rfl)<|r_pv rfl rfl (za rfl)<|r_pv rfl rfl (zdb rfl rfl)<|zj<|ze<|zG rfl (fun h3=> ?_) (fun h3=> ?_)
  ·
   refine zB<|ze<|zi<|zA<|zi<|zi<|zc<|r_pv rfl rfl (za rfl)<|r_pv rfl rfl (za rfl)<|r_pv rfl rfl (za rfl)<|zN rfl rfl (.c rfl (.c rfl (.c rfl .n))) ce36 (zMe (w1:=w1) (vh1:=vh1) (m1:=m1) (p1:=p1) (n1:=n1) (c1:=c1) (w2:=w2) (vh2:=vh2) (m2:=m2) (p2:=p2) (n2:=n2) (c2:=c2) (bm:=bm) (ps:=ps) (cs:=cs) (pq:=pq) (cq:=cq) (sm:=(Cr.sumN (Cr.px l1) n1)) (sp:=((((n1:Nat):Int)*(Cr.sumN (Cr.sq l1) n1)) - ((Cr.sumN (Cr.px l1) n1)*(Cr.sumN (Cr.px l1) n1)))) (ex:=(le+((i:Nat):Int))) (ey:=(tp+((j:Nat):Int))) (hw1:=by assumption) (hh1:=by assumption) (hw2:=by assumption) (hh2:=by assumption)) (.c (j:=3) rfl .n)<|r_pv rfl rfl (zXa rfl)<|zj<|ze<|zG rfl (fun hp=> ?_) (fun hp=> ?_)
   ·
    have hn9:¬Cr.pos ((w1:Nat):Int) ((vh1:Nat):Int) ((w2:Nat):Int) ((vh2:Nat):Int) (le+((i:Nat):Int)) (tp+((j:Nat):Int)):=hp
    refine zja<|zl<|zu<|ze<|zc<|r_pv rfl rfl (za rfl)<|r_pv rfl rfl (zx (z:=((le+((i:Nat):Int))+1)) rfl rfl (w64 (by omega)))<|r_pv rfl rfl (zd rfl)<|zj<|zha ((i+1),A,ub,vb) (show (i+1)≤(ri - le+1).toNat∧A=Cr.rowP (Cr.pat l1 l2 ((w1:Nat):Int) ((vh1:Nat):Int) ((w2:Nat):Int) ((vh2:Nat):Int)) le (tp+((j:Nat):Int)) B (i+1)∧(A.isSome=false→ub=wz∧vb=wz)∧Big.hq (Cr.pQ A)≤6 from by exact ⟨by omega,by rw [Cr.rowP,←hA,Cr.stp_none (Cr.pat_none hn9)],hAw,hAq⟩) (by show (ri - le+1).toNat - (i+1)<(ri - le+1).toNat - i;omega) ((.c rfl (.c rfl (.c rfl (.e rfl (by rw [Int.natCast_add,←Int.add_assoc];rfl) (.of rfl))))):SubM _ _) (ho:=((.c (i:=0) rfl .n):PickO _ _ _)) ((.of [0,1,2,3,4,5,6,7] rfl):SelR _ _ _)
   ·
    have hp9:Cr.pos ((w1:Nat):Int) ((vh1:Nat):Int) ((w2:Nat):Int) ((vh2:Nat):Int) (le+((i:Nat):Int)) (tp+((j:Nat):Int)):=Decidable.not_not.1 hp
    have hp8:=hp9
    unfold Cr.pos at hp8
    have hsq:=Cr.scr_hq (l1:=l1) (l2:=l2) (yy:=(tp+((j:Nat):Int)).toNat) (xx:=(le+((i:Nat):Int)).toNat) hg1 hg2 hw1 hh1 hwh1 hwh2 hb1 (by omega) (by omega)
    refine zB<|ze<|zi<|zc<|r_pv rfl rfl (za rfl)<|r_pv rfl rfl (za rfl)<|r_pv rfl rfl (za rfl)<|zy rfl rfl (.c rfl (.c rfl (.c rfl .n))) ce37 (zse (w1:=w1) (vh1:=vh1) (m1:=m1) (p1:=p1) (n1:=n1) (c1:=c1) (l1:=l1) (w2:=w2) (vh2:=vh2) (m2:=m2) (p2:=p2) (n2:=n2) (c2:=c2) (l2:=l2) (bm:=bm) (ps:=ps) (cs:=cs) (pq:=pq) (cq:=cq) (ex:=(le+((i:Nat):Int))) (ey:=(tp+((j:Nat):Int))) (hn1:=by assumption) (hw1:=by assumption) (hh1:=by assumption) (hwh1:=by assumption) (hb1:=by assumption) (hg1:=by assumption) (hn2:=by assumption) (hw2:=by assumption) (hh2:=by assumption) (hwh2:=by assumption) (hb2:=by assumption) (hg2:=by assumption) (hx:=by first|rfl|assumption|omega) (hy:=by first|rfl|assumption|omega)) (.c (j:=3) rfl (.c (j:=4) rfl (.c (j:=5) rfl (.c (j:=6) rfl (.c (j:=7) rfl .n))))) ?_
    rintro ⟨w34,w45⟩ -
    dsimp only [List.append_eq,List.nil_append,List.cons_append]
    refine zJ rfl rfl (zw zr32 rfl) (fun b6=> ?_)
    refine zn 0 rfl rfl rfl rfl rfl sz32 rfl (.take (.take (.take (.take .nil)))) .z<|zj<|ze<|zGa (X:=Unit) (fun x=>True) (fun x=>[(47,.bool (decide (A.isSome=false∨Cr.pQ A<(Cr.scr l1 l2 w1 vh1 n1 w2 ((tp+((j:Nat):Int)).toNat) ((le+((i:Nat):Int)).toNat))))),(18,.pointer (some ⟨b6,0,none⟩)),(15,.bool (A.isSome)),(13,.int .i64 (Cr.pY A)),(12,.int .i64 (Cr.pX A)),(17,.int .i64 (le+((i:Nat):Int))),(16,.int .i64 (tp+((j:Nat):Int))),(14,.pointer (some ⟨b1,0,none⟩)),(0,.pointer (some ⟨bm,0,none⟩)),(1,.int .i64 le),(3,.int .i64 ri),(4,.int .i64 bo),(5,.func (.func 46) #[] #[])]) (fun x=>[boxA b6 32 (cw [w34,w45]),boxA b1 32 (cw [ub,vb])]) (fun x=>[qF true w34 w45 (Cr.scr l1 l2 w1 vh1 n1 w2 (tp+((j:Nat):Int)).toNat (le+((i:Nat):Int)).toNat),qF A.isSome ub vb (Cr.pQ A),qF B.isSome u0 v0 (Cr.pQ B),qF false wz wz 0,atF bm 0 [.int .i64 ((w1:Nat):Int),.int .i64 ((vh1:Nat):Int),.int .i64 m1,.slice p1 n1 c1,.int .i64 ((w2:Nat):Int),.int .i64 ((vh2:Nat):Int),.int .i64 m2,.slice p2 n2 c2,.slice ps (vh2+1) cs,.slice pq (vh2+1) cq,.int .i64 (Cr.sumN (Cr.px l1) n1),.int .i64 ((((n1:Nat):Int)*(Cr.sumN (Cr.sq l1) n1)) - ((Cr.sumN (Cr.px l1) n1)*(Cr.sumN (Cr.px l1) n1)))],slF (rI .i64) p1 c1 l1,slF (rI .i64) p2 c2 l2,slF (rS (rI .i64)) ps cs (Cr.tab (Cr.px l2) w2 (vh2+1)),slF (rS (rI .i64)) pq cq (Cr.tab (Cr.sq l2) w2 (vh2+1))]) ?_ ?_
    ·
     refine zc<|r_pv rfl rfl (za rfl)<|r_pv rfl rfl (zjb rfl)<|zYd rfl rfl (za rfl) (fun h7=> ?_) (fun h7=> ?_)
     ·
      refine zb rfl rfl<|zb rfl rfl<|zb rfl rfl<|zb rfl rfl<|r_pv rfl rfl (zm rfl rfl)<|zj ?_
      exact zca () (show True from by first|trivial|omega|simp_all) ((.e rfl (congrArg Value.bool (by simp_all)) (.of rfl)):SubM _ _) (ho:=((.of [0,0] rfl):PickO _ _ _)) ((.of [0,1,2,3,4,5,6,7,8] rfl):SelR _ _ _)
     ·
      refine r_pv rfl rfl (za rfl)<|r_u rfl rfl (zf 0 ty32 rfl rfl (.take (.take (.take (.take .nil)))))<|r_u rfl rfl (zf 1 ty32 rfl rfl (.take (.take (.take (.take .nil)))))<|zZc (first:=[]) (cap:=[]) rfl rfl rfl (.c rfl (.c rfl .n)) ce46 (zxd (k1:=true) (u1:=w34) (v1:=w45) (q1:=(Cr.scr l1 l2 w1 vh1 n1 w2 (tp+((j:Nat):Int)).toNat (le+((i:Nat):Int)).toNat)) (k2:=A.isSome) (u2:=ub) (v2:=vb) (q2:=(Cr.pQ A)) (hl:=by first|rfl|assumption|omega)) (.c (j:=0) rfl (.c (j:=1) rfl .n)) ?_
      rintro ⟨⟩ -
      dsimp only [List.append_eq,List.nil_append,List.cons_append]
      refine r_pv rfl rfl (zm rfl rfl)<|zj ?_
      exact zca () (show True from by first|trivial|omega|simp_all) ((.e rfl (congrArg Value.bool (by simp_all)) (.of rfl)):SubM _ _) (ho:=((.of [0,0] rfl):PickO _ _ _)) ((.of [0,1,2,3,4,5,6,7,8] rfl):SelR _ _ _)
    ·
     rintro ⟨⟩ -
     try dsimp only [cw]
     refine zG rfl (fun hb=> ?_) (fun hb=> ?_)
     ·
      refine zsa (.c (i:=1) rfl (.c (i:=0) rfl .n))<|zea (OW:=[boxA b1 32 [ub.b,ub.l,vb.b,vb.l]]) (O:=[boxA b6 32 [w34.b,w34.l,w45.b,w45.l]]) 5 mixed (.block (.then (.then (.block (.block (.then (.then (.block (.then .ret))))))))) (by kernel_rfl)<|d_pv 0 rfl rfl (by kernel_rfl) (by kernel_rfl) rfl rfl (za rfl)<|d_pv 1 rfl rfl (by kernel_rfl) (by kernel_rfl) rfl rfl (za rfl)<|d_uw 2 rfl rfl (by kernel_rfl) (by kernel_rfl) (by kernel_rfl) rfl rfl (zf 1 ty32 rfl rfl (.take (.take (.take (.take .nil)))))<|d_pv 3 rfl rfl (by kernel_rfl) (by kernel_rfl) rfl rfl (zd rfl)<|d_pv 4 rfl rfl (by kernel_rfl) (by kernel_rfl) rfl rfl (zd rfl)<|zL 5 (by kernel_rfl) (zD (by kernel_rfl) rfl rfl rfl rfl rfl sz32 rfl (.take (.take (.take (.take .nil)))) ?_)
      refine d_pv 6 rfl rfl (by kernel_rfl) (by kernel_rfl) rfl rfl (zd rfl)<|zba (by kernel_rfl)<|zT<|ze<|zc<|r_pv rfl rfl (za rfl)<|r_pv rfl rfl (zx (z:=((le+((i:Nat):Int))+1)) rfl rfl (w64 (by omega)))<|r_pv rfl rfl (zd rfl)<|zj<|zha ((i+1),(some ((le+((i:Nat):Int)),(tp+((j:Nat):Int)),(Cr.scr l1 l2 w1 vh1 n1 w2 ((tp+((j:Nat):Int)).toNat) ((le+((i:Nat):Int)).toNat)))),w34,w45) (show (i+1)≤(ri - le+1).toNat∧(some ((le+((i:Nat):Int)),(tp+((j:Nat):Int)),(Cr.scr l1 l2 w1 vh1 n1 w2 ((tp+((j:Nat):Int)).toNat) ((le+((i:Nat):Int)).toNat))))=Cr.rowP (Cr.pat l1 l2 ((w1:Nat):Int) ((vh1:Nat):Int) ((w2:Nat):Int) ((vh2:Nat):Int)) le (tp+((j:Nat):Int)) B (i+1)∧((some ((le+((i:Nat):Int)),(tp+((j:Nat):Int)),(Cr.scr l1 l2 w1 vh1 n1 w2 ((tp+((j:Nat):Int)).toNat) ((le+((i:Nat):Int)).toNat)))).isSome=false→w34=wz∧w45=wz)∧Big.hq (Cr.pQ (some ((le+((i:Nat):Int)),(tp+((j:Nat):Int)),(Cr.scr l1 l2 w1 vh1 n1 w2 ((tp+((j:Nat):Int)).toNat) ((le+((i:Nat):Int)).toNat)))))≤6 from by exact ⟨by omega,by rw [Cr.rowP,←hA,Cr.stp_new (Cr.pat_some hn1 hp9) hb],fun h9=>(by cases h9),hsq⟩) (by show (ri - le+1).toNat - (i+1)<(ri - le+1).toNat - i;omega) ((.e rfl (by first|rfl|(congr 1;omega)|simp_all) (.e rfl (by first|rfl|(congr 1;omega)|simp_all) (.e rfl (by first|rfl|(congr 1;omega)|simp_all) (.e rfl (by rw [Int.natCast_add,←Int.add_assoc];rfl) (.of rfl))))):SubM _ _) (ho:=((.c (i:=0) rfl .n):PickO _ _ _)) ((.e (j:=0) rfl (by first|rfl|simp_all) (.of [2,3,4,5,6,7,8] rfl)):SelR _ _ _)
     ·
      refine zB<|zT<|ze<|zc<|r_pv rfl rfl (za rfl)<|r_pv rfl rfl (zx (z:=((le+((i:Nat):Int))+1)) rfl rfl (w64 (by omega)))<|r_pv rfl rfl (zd rfl)<|zj<|zha ((i+1),A,ub,vb) (show (i+1)≤(ri - le+1).toNat∧A=Cr.rowP (Cr.pat l1 l2 ((w1:Nat):Int) ((vh1:Nat):Int) ((w2:Nat):Int) ((vh2:Nat):Int)) le (tp+((j:Nat):Int)) B (i+1)∧(A.isSome=false→ub=wz∧vb=wz)∧Big.hq (Cr.pQ A)≤6 from by exact ⟨by omega,by rw [Cr.rowP,←hA,Cr.stp_old (Cr.pat_some hn1 hp9) hb],hAw,hAq⟩) (by show (ri - le+1).toNat - (i+1)<(ri - le+1).toNat - i;omega) ((.c rfl (.c rfl (.c rfl (.e rfl (by rw [Int.natCast_add,←Int.add_assoc];rfl) (.of rfl))))):SubM _ _) (ho:=((.c (i:=1) rfl .n):PickO _ _ _)) ((.of [1,2,3,4,5,6,7,8] rfl):SelR _ _ _)
  ·
   refine zja<|zl<|zl<|zu<|zT<|ze<|zc<|r_pv rfl rfl (za rfl)<|r_pv rfl rfl (zx (z:=((tp+((j:Nat):Int))+1)) rfl rfl (w64 (by omega)))<|r_pv rfl rfl (zd rfl)<|zj<|zha ((j+1),A,ub,vb) (show (j+1)≤(bo - tp+1).toNat∧A=(Cr.allP (Cr.pat l1 l2 ((w1:Nat):Int) ((vh1:Nat):Int) ((w2:Nat):Int) ((vh2:Nat):Int)) le tp (ri - le+1).toNat (j+1))∧(A.isSome=false→ub=wz∧vb=wz)∧Big.hq (Cr.pQ A)≤6 from by exact ⟨by omega,by rw [hA,hB,show i=(ri - le+1).toNat by omega];rfl,hAw,hAq⟩) (by show (bo - tp+1).toNat - (j+1)<(bo - tp+1).toNat - j;omega) ((.c rfl (.c rfl (.c rfl (.e rfl (by rw [Int.natCast_add,←Int.add_assoc];rfl) (.of rfl))))):SubM _ _) (ho:=((.c (i:=0) rfl .n):PickO _ _ _)) ((.of [0,2,3,4,5,6,7] rfl):SelR _ _ _)
 ·
  refine zja<|zl<|zl<|zu<|ze<|zi<|zea (OW:=[boxA b1 32 [u0.b,u0.l,v0.b,v0.l]]) (O:=[]) 6 mixed (.then .ret) (by kernel_rfl)<|d_pv 0 rfl rfl (by kernel_rfl) (by kernel_rfl) rfl rfl (za rfl)<|d_pv 1 rfl rfl (by kernel_rfl) (by kernel_rfl) rfl rfl (za rfl)<|d_uw 2 rfl rfl (by kernel_rfl) (by kernel_rfl) (by kernel_rfl) rfl rfl (zf 0 ty32 rfl rfl (.take (.take (.take (.take .nil)))))<|d_pv 3 rfl rfl (by kernel_rfl) (by kernel_rfl) rfl rfl (za rfl)<|d_pv 4 rfl rfl (by kernel_rfl) (by kernel_rfl) rfl rfl (zd rfl)<|d_pv 5 rfl rfl (by kernel_rfl) (by kernel_rfl) rfl rfl (zd rfl)<|zL 6 (by kernel_rfl) (zD (by kernel_rfl) rfl rfl rfl rfl rfl sz32 rfl (.take (.take (.take (.take .nil)))) ?_)
  refine d_pv 7 rfl rfl (by kernel_rfl) (by kernel_rfl) rfl rfl (zd rfl)<|zba (by kernel_rfl)<|ze<|zI ?_
  have hB9:B=(Cr.allP (Cr.pat l1 l2 ((w1:Nat):Int) ((vh1:Nat):Int) ((w2:Nat):Int) ((vh2:Nat):Int)) le tp (ri - le+1).toNat (bo - tp+1).toNat):=by rw [hB,show j=(bo - tp+1).toNat by omega]
  rw [hB9] at hBw hBq ⊢
  exact zbe Tryz.results45 (u0,v0) (⟨hBw,hBq⟩) (zo rfl) (zo rfl) (zt 0 ty32 rfl rfl (.take (.take (.take (.take .nil))))) (zo rfl) rfl (ho:=(.n:PickO _ _ _)) ((.c (j:=0) rfl .n):SelR _ _ _)
end Go.Proofs.YtkamccndgblheaaGreat.Sp
namespace Go.Proofs.YtkamccndgblheaaGreat.Sp
open Go
set_option linter.unusedVariables false
set_option maxRecDepth 100000
set_option maxHeartbeats 1000000
theorem zxf {wi1:Int} {hi1:Int} {m1:Int} {p1:Option Addr} {n1:Nat} {c1:Nat} {l1:List Int} {wi2:Int} {hi2:Int} {m2:Int} {p2:Option Addr} {n2:Nat} {c2:Nat} {l2:List Int} (hn1:l1.length=n1) (hn2:l2.length=n2):Con Tryz.prog 18 [.agg #[.int .i64 wi1,.int .i64 hi1,.int .i64 m1,.slice p1 n1 c1],.agg #[.int .i64 wi2,.int .i64 hi2,.int .i64 m2,.slice p2 n2 c2]] [] [slF (rI .i64) p1 c1 l1,slF (rI .i64) p2 c2 l2] (Y:=Wd×Wd) (fun y=>((if (Cr.rk2 wi1 hi1 m1 l1 wi2 hi2 m2 l2) then Cr.best l1 l2 wi1 hi1 wi2 hi2 else none).isSome=false→y.1=wz∧y.2=wz)∧Big.hq (Cr.pQ (if (Cr.rk2 wi1 hi1 m1 l1 wi2 hi2 m2 l2) then Cr.best l1 l2 wi1 hi1 wi2 hi2 else none))≤6) (fun y=> .tuple #[.int .i64 (Cr.pX (if (Cr.rk2 wi1 hi1 m1 l1 wi2 hi2 m2 l2) then Cr.best l1 l2 wi1 hi1 wi2 hi2 else none)),.int .i64 (Cr.pY (if (Cr.rk2 wi1 hi1 m1 l1 wi2 hi2 m2 l2) then Cr.best l1 l2 wi1 hi1 wi2 hi2 else none)),.agg #[y.1.b,y.1.l,y.2.b,y.2.l],.int .i64 (if (Cr.rk2 wi1 hi1 m1 l1 wi2 hi2 m2 l2) then (if (if (Cr.rk2 wi1 hi1 m1 l1 wi2 hi2 m2 l2) then Cr.best l1 l2 wi1 hi1 wi2 hi2 else none).isSome then 0 else 6) else 1)]) (fun y=>[]) (fun y=>[qF ((if (Cr.rk2 wi1 hi1 m1 l1 wi2 hi2 m2 l2) then Cr.best l1 l2 wi1 hi1 wi2 hi2 else none).isSome) y.1 y.2 (Cr.pQ (if (Cr.rk2 wi1 hi1 m1 l1 wi2 hi2 m2 l2) then Cr.best l1 l2 wi1 hi1 wi2 hi2 else none))]):=by
 refine zq Tryz.func18 rfl rfl rfl (fun c=> ?_)
 show RunC _ _ _ _ _ [(0,.agg #[.int .i64 wi1,.int .i64 hi1,.int .i64 m1,.slice p1 n1 c1]),(1,.agg #[.int .i64 wi2,.int .i64 hi2,.int .i64 m2,.slice p2 n2 c2])] [] [slF (rI .i64) p1 c1 l1,slF (rI .i64) p2 c2 l2]
 refine zY 0 rfl (fun hL0=> ?_)
 refine zY 1 rfl (fun hL1=> ?_)
 refine zi<|zc<|zJ rfl rfl (zQ rfl rfl) (fun b1=> ?_)
 refine zJ rfl rfl (zQ rfl rfl) (fun b2=> ?_)
 refine r_pv rfl rfl (zd rfl)<|r_pv rfl rfl (zd rfl)<|zJ rfl rfl (zw zr32 rfl) (fun b3=> ?_)
 refine r_pv rfl rfl (zd rfl)<|zj<|ze<|zi<|zi<|zc<|r_u rfl rfl (zf 2 ty24 rfl rfl (.take (.take (.take (.take .nil)))))<|r_u rfl rfl (zf 1 ty24 rfl rfl (.take (.take (.take (.take .nil)))))<|zN rfl rfl (.c rfl (.c rfl .n)) ce34 (zSc (wi1:=wi1) (hi1:=hi1) (m1:=m1) (p1:=p1) (n1:=n1) (c1:=c1) (l1:=l1) (wi2:=wi2) (hi2:=hi2) (m2:=m2) (p2:=p2) (n2:=n2) (c2:=c2) (l2:=l2) (hn1:=by assumption) (hn2:=by assumption)) (.c (j:=0) rfl (.c (j:=1) rfl .n))<|r_pv rfl rfl (zd rfl)<|zj<|ze<|zi<|zc<|r_pv rfl rfl (za rfl)<|r_pv rfl rfl (zKa rfl rfl)<|zj<|ze<|zG rfl (fun hc=> ?_) (fun hc=> ?_)
 ·
  have hno:¬(Cr.rk2 wi1 hi1 m1 l1 wi2 hi2 m2 l2):=fun k=>hc (if_pos k)
  refine zi<|zc<|r_pv rfl rfl (zK zr32 rfl Tryz.underlying32 (.c sz30 (.c sz30 .n)) .n .n)<|r_pv rfl rfl (za rfl)<|r_pv rfl rfl (zd rfl)<|r_pv rfl rfl (zd rfl)<|zn 0 rfl rfl rfl rfl rfl sz32 rfl (.take (.take (.take (.take .nil)))) .z<|r_pv rfl rfl (zd rfl)<|zj<|ze<|zI<|zp<|zab (qF false wz wz 0) (fun g _=>qF_none g) ?_
  have hk9:(if (Cr.rk2 wi1 hi1 m1 l1 wi2 hi2 m2 l2) then Cr.best l1 l2 wi1 hi1 wi2 hi2 else none)=none:=if_neg hno
  exact zbe Tryz.results18 (wz,wz) (⟨fun _=>⟨rfl,rfl⟩,by rw [hk9];decide⟩) (zo rfl) (zo rfl) (zt 0 ty32 rfl rfl (.take (.take (.take (.take .nil))))) (zo rfl) (by simp only [hk9,if_neg hno];rfl) (ho:=(.n:PickO _ _ _)) ((.e (j:=0) rfl (by rw [hk9];rfl) .n):SelR _ _ _)
 ·
  have hok:(Cr.rk2 wi1 hi1 m1 l1 wi2 hi2 m2 l2):=Bl.c0.1 (Decidable.not_not.1 hc)
  obtain ⟨w1,vh1,rfl,rfl,hw1,hh1,hwh1,hb1,hg1⟩:=Cr.rokN (hok.1) hn1
  obtain ⟨w2,vh2,rfl,rfl,hw2,hh2,hwh2,hb2,hg2⟩:=Cr.rokN (hok.2) hn2
  refine zB<|ze<|zi<|zea (OW:=[]) (O:=[boxA b3 32 [.bool false,.slice none 0 0,.bool false,.slice none 0 0],boxA b2 24 [.int .i64 ((w2:Nat):Int),.int .i64 ((vh2:Nat):Int),.int .i64 m2,.slice p2 n2 c2],boxA b1 24 [.int .i64 ((w1:Nat):Int),.int .i64 ((vh1:Nat):Int),.int .i64 m1,.slice p1 n1 c1]]) 16 mixed (.then .ret) (by kernel_rfl)<|d_u 0 rfl rfl (by kernel_rfl) (by kernel_rfl) rfl rfl (zf 2 ty24 rfl rfl (.take (.take (.take (.take .nil)))))<|d_u 1 rfl rfl (by kernel_rfl) (by kernel_rfl) rfl rfl (zf 1 ty24 rfl rfl (.take (.take (.take (.take .nil)))))<|d_pv 3 rfl rfl (by kernel_rfl) (by kernel_rfl) rfl rfl (zg Tryz.underlying24 rfl sz3 rfl rfl)<|d_u 4 rfl rfl (by kernel_rfl) (by kernel_rfl) rfl rfl (zh 1 ty3 rfl rfl rfl)<|d_pv 5 rfl rfl (by kernel_rfl) (by kernel_rfl) rfl rfl (zg Tryz.underlying24 rfl sz3 rfl rfl)<|d_u 6 rfl rfl (by kernel_rfl) (by kernel_rfl) rfl rfl (zh 1 ty3 rfl rfl rfl)<|zfd (m':=[(27,.int .i64 ((vh2:Nat):Int)),(25,.int .i64 ((w2:Nat):Int)),(22,.agg #[.int .i64 ((w2:Nat):Int),.int .i64 ((vh2:Nat):Int),.int .i64 m2,.slice p2 n2 c2]),(21,.agg #[.int .i64 ((w1:Nat):Int),.int .i64 ((vh1:Nat):Int),.int .i64 m1,.slice p1 n1 c1]),(7,.int .i64 0),(6,.pointer (some ⟨b3,0,none⟩)),(5,.int .i64 0),(4,.int .i64 0)]) (R':=[slF (rI .i64) p1 c1 l1,slF (rI .i64) p2 c2 l2]) ((.of rfl):SubM _ _) (List.Perm.refl _) (List.Perm.refl _) ((.of [0,1] rfl):SelR _ _ _)<|zya (X:=Nat×Option Addr×Nat×Option Addr×Nat×Wd×Wd×Nat) (k':=0) (L':=(lb 18 262143)) (fun (u2_1,u2_2,u2_3,u2_4,u2_5,u7_1,u7_2,u13_1)=>([(12,.bool ((Cr.allP (Cr.pat l1 l2 ((w1:Nat):Int) ((vh1:Nat):Int) ((w2:Nat):Int) ((vh2:Nat):Int)) 0 0 (((w2:Nat):Int) - 0+1).toNat (((vh2:Nat):Int) - 0+1).toNat).isSome)),(10,.int .i64 (Cr.pY (Cr.allP (Cr.pat l1 l2 ((w1:Nat):Int) ((vh1:Nat):Int) ((w2:Nat):Int) ((vh2:Nat):Int)) 0 0 (((w2:Nat):Int) - 0+1).toNat (((vh2:Nat):Int) - 0+1).toNat))),(9,.int .i64 (Cr.pX (Cr.allP (Cr.pat l1 l2 ((w1:Nat):Int) ((vh1:Nat):Int) ((w2:Nat):Int) ((vh2:Nat):Int)) 0 0 (((w2:Nat):Int) - 0+1).toNat (((vh2:Nat):Int) - 0+1).toNat))),(11,.pointer (some ⟨u13_1,0,none⟩)),(7,.int .i64 0),(6,.pointer (some ⟨b3,0,none⟩)),(5,.int .i64 0),(4,.int .i64 0)],[boxA u13_1 32 (cw [u7_1,u7_2])],[boxA b3 32 [.bool false,.slice none 0 0,.bool false,.slice none 0 0],boxA b2 24 [.int .i64 ((w2:Nat):Int),.int .i64 ((vh2:Nat):Int),.int .i64 m2,.slice p2 n2 c2],boxA b1 24 [.int .i64 ((w1:Nat):Int),.int .i64 ((vh1:Nat):Int),.int .i64 m1,.slice p1 n1 c1]],[qF ((Cr.allP (Cr.pat l1 l2 ((w1:Nat):Int) ((vh1:Nat):Int) ((w2:Nat):Int) ((vh2:Nat):Int)) 0 0 (((w2:Nat):Int) - 0+1).toNat (((vh2:Nat):Int) - 0+1).toNat).isSome) u7_1 u7_2 (Cr.pQ (Cr.allP (Cr.pat l1 l2 ((w1:Nat):Int) ((vh1:Nat):Int) ((w2:Nat):Int) ((vh2:Nat):Int)) 0 0 (((w2:Nat):Int) - 0+1).toNat (((vh2:Nat):Int) - 0+1).toNat)),atF u2_1 0 [.int .i64 ((w1:Nat):Int),.int .i64 ((vh1:Nat):Int),.int .i64 m1,.slice p1 n1 c1,.int .i64 ((w2:Nat):Int),.int .i64 ((vh2:Nat):Int),.int .i64 m2,.slice p2 n2 c2,.slice u2_2 (vh2+1) u2_3,.slice u2_4 (vh2+1) u2_5,.int .i64 (Cr.sumN (Cr.px l1) n1),.int .i64 ((((n1:Nat):Int)*(Cr.sumN (Cr.sq l1) n1)) - ((Cr.sumN (Cr.px l1) n1)*(Cr.sumN (Cr.px l1) n1)))],slF (rS (rI .i64)) u2_2 u2_3 (Cr.tab (Cr.px l2) w2 (vh2+1)),slF (rS (rI .i64)) u2_4 u2_5 (Cr.tab (Cr.sq l2) w2 (vh2+1)),slF (rI .i64) p1 c1 l1,slF (rI .i64) p2 c2 l2])) ?_ (fun hD0=> ?_)
  ·
   rintro ⟨u2_1,u2_2,u2_3,u2_4,u2_5,u7_1,u7_2,u13_1⟩
   dsimp only [cw]
   refine zba (by kernel_rfl)<|ze<|zi<|zi<|zc<|r_pv rfl rfl (za rfl)<|r_pv rfl rfl (zjb rfl)<|zj<|ze<|zyb rfl (fun hf=> ?_) (fun hf=> ?_)
   ·
    refine zi<|zc<|r_pv rfl rfl (zK zr32 rfl Tryz.underlying32 (.c sz30 (.c sz30 .n)) .n .n)<|r_pv rfl rfl (zd rfl)<|r_pv rfl rfl (zd rfl)<|zn 1 rfl rfl rfl rfl rfl sz32 rfl (.take (.take (.take (.take .nil)))) (.s .z)<|r_pv rfl rfl (zd rfl)<|zj<|ze<|zI<|zp<|zab (qF false wz wz 0) (fun g _=>qF_none g) ?_
    have hk9:(if (Cr.rk2 ((w1:Nat):Int) ((vh1:Nat):Int) m1 l1 ((w2:Nat):Int) ((vh2:Nat):Int) m2 l2) then Cr.best l1 l2 ((w1:Nat):Int) ((vh1:Nat):Int) ((w2:Nat):Int) ((vh2:Nat):Int) else none)=none:=by rw [if_pos hok];exact Cr.none_of (Cr.bnt hf)
    exact zbe Tryz.results18 (wz,wz) (⟨fun _=>⟨rfl,rfl⟩,by rw [hk9];decide⟩) (zo rfl) (zo rfl) (zt 1 ty32 rfl rfl (.take (.take (.take (.take .nil))))) (zo rfl) (by simp only [hk9,if_pos hok];rfl) (ho:=(.n:PickO _ _ _)) ((.e (j:=0) rfl (by rw [hk9];rfl) .n):SelR _ _ _)
   ·
    refine zB<|ze<|zi<|zsa (.c (i:=1) rfl (.c (i:=0) rfl (.c (i:=0) rfl (.c (i:=0) rfl .n))))<|zea (OW:=[boxA b3 32 [.bool false,.slice none 0 0,.bool false,.slice none 0 0]]) (O:=[boxA u13_1 32 [u7_1.b,u7_1.l,u7_2.b,u7_2.l],boxA b2 24 [.int .i64 ((w2:Nat):Int),.int .i64 ((vh2:Nat):Int),.int .i64 m2,.slice p2 n2 c2],boxA b1 24 [.int .i64 ((w1:Nat):Int),.int .i64 ((vh1:Nat):Int),.int .i64 m1,.slice p1 n1 c1]]) 5 mixed (.then .ret) (by kernel_rfl)<|d_pv 0 rfl rfl (by kernel_rfl) (by kernel_rfl) rfl rfl (za rfl)<|d_pv 1 rfl rfl (by kernel_rfl) (by kernel_rfl) rfl rfl (za rfl)<|d_uw 2 rfl rfl (by kernel_rfl) (by kernel_rfl) (by kernel_rfl) rfl rfl (zf 1 ty32 rfl rfl (.take (.take (.take (.take .nil)))))<|d_pv 3 rfl rfl (by kernel_rfl) (by kernel_rfl) rfl rfl (zd rfl)<|d_pv 4 rfl rfl (by kernel_rfl) (by kernel_rfl) rfl rfl (zd rfl)<|zL 5 (by kernel_rfl) (zD (by kernel_rfl) rfl rfl rfl rfl rfl sz32 rfl (.take (.take (.take (.take .nil)))) ?_)
    refine d_pv 6 rfl rfl (by kernel_rfl) (by kernel_rfl) rfl rfl (zd rfl)<|zba (by kernel_rfl)<|ze<|zI ?_
    have hf9:(Cr.best l1 l2 ((w1:Nat):Int) ((vh1:Nat):Int) ((w2:Nat):Int) ((vh2:Nat):Int)).isSome=true:=Cr.bnf hf
    have hk9:(if (Cr.rk2 ((w1:Nat):Int) ((vh1:Nat):Int) m1 l1 ((w2:Nat):Int) ((vh2:Nat):Int) m2 l2) then Cr.best l1 l2 ((w1:Nat):Int) ((vh1:Nat):Int) ((w2:Nat):Int) ((vh2:Nat):Int) else none)=(Cr.best l1 l2 ((w1:Nat):Int) ((vh1:Nat):Int) ((w2:Nat):Int) ((vh2:Nat):Int)):=if_pos hok
    exact zbe Tryz.results18 (u7_1,u7_2) (⟨fun h9=>(by rw [hk9,hf9] at h9;cases h9),(by rw [hk9];exact Cr.best_hq hn1 hg1 hg2 hw1 hh1 hwh1 hwh2 hb1)⟩) (zo rfl) (zo rfl) (zt 0 ty32 rfl rfl (.take (.take (.take (.take .nil))))) (zo rfl) (by simp only [hk9,if_pos hok,hf9];rfl) (ho:=(.n:PickO _ _ _)) ((.e (j:=0) rfl (by rw [hk9];rfl) .n):SelR _ _ _)
  refine zya (X:=Nat×Option Addr×Nat×Option Addr×Nat×Wd×Wd×Nat) (k':=2) (L':=(lb 18 65535)) (fun (u2_1,u2_2,u2_3,u2_4,u2_5,u7_1,u7_2,u13_1)=>([(10,.int .i64 (Cr.pY (Cr.allP (Cr.pat l1 l2 ((w1:Nat):Int) ((vh1:Nat):Int) ((w2:Nat):Int) ((vh2:Nat):Int)) 0 0 (((w2:Nat):Int) - 0+1).toNat (((vh2:Nat):Int) - 0+1).toNat))),(9,.int .i64 (Cr.pX (Cr.allP (Cr.pat l1 l2 ((w1:Nat):Int) ((vh1:Nat):Int) ((w2:Nat):Int) ((vh2:Nat):Int)) 0 0 (((w2:Nat):Int) - 0+1).toNat (((vh2:Nat):Int) - 0+1).toNat))),(11,.pointer (some ⟨u13_1,0,none⟩)),(32,.bool ((Cr.allP (Cr.pat l1 l2 ((w1:Nat):Int) ((vh1:Nat):Int) ((w2:Nat):Int) ((vh2:Nat):Int)) 0 0 (((w2:Nat):Int) - 0+1).toNat (((vh2:Nat):Int) - 0+1).toNat).isSome)),(31,.agg (cw [u7_1,u7_2]).toArray),(7,.int .i64 0),(6,.pointer (some ⟨b3,0,none⟩)),(5,.int .i64 0),(4,.int .i64 0)],[boxA u13_1 32 [.bool false,.slice none 0 0,.bool false,.slice none 0 0]],[boxA b3 32 [.bool false,.slice none 0 0,.bool false,.slice none 0 0],boxA b2 24 [.int .i64 ((w2:Nat):Int),.int .i64 ((vh2:Nat):Int),.int .i64 m2,.slice p2 n2 c2],boxA b1 24 [.int .i64 ((w1:Nat):Int),.int .i64 ((vh1:Nat):Int),.int .i64 m1,.slice p1 n1 c1]],[qF ((Cr.allP (Cr.pat l1 l2 ((w1:Nat):Int) ((vh1:Nat):Int) ((w2:Nat):Int) ((vh2:Nat):Int)) 0 0 (((w2:Nat):Int) - 0+1).toNat (((vh2:Nat):Int) - 0+1).toNat).isSome) u7_1 u7_2 (Cr.pQ (Cr.allP (Cr.pat l1 l2 ((w1:Nat):Int) ((vh1:Nat):Int) ((w2:Nat):Int) ((vh2:Nat):Int)) 0 0 (((w2:Nat):Int) - 0+1).toNat (((vh2:Nat):Int) - 0+1).toNat)),atF u2_1 0 [.int .i64 ((w1:Nat):Int),.int .i64 ((vh1:Nat):Int),.int .i64 m1,.slice p1 n1 c1,.int .i64 ((w2:Nat):Int),.int .i64 ((vh2:Nat):Int),.int .i64 m2,.slice p2 n2 c2,.slice u2_2 (vh2+1) u2_3,.slice u2_4 (vh2+1) u2_5,.int .i64 (Cr.sumN (Cr.px l1) n1),.int .i64 ((((n1:Nat):Int)*(Cr.sumN (Cr.sq l1) n1)) - ((Cr.sumN (Cr.px l1) n1)*(Cr.sumN (Cr.px l1) n1)))],slF (rS (rI .i64)) u2_2 u2_3 (Cr.tab (Cr.px l2) w2 (vh2+1)),slF (rS (rI .i64)) u2_4 u2_5 (Cr.tab (Cr.sq l2) w2 (vh2+1)),slF (rI .i64) p1 c1 l1,slF (rI .i64) p2 c2 l2])) ?_ (fun hD1=> ?_)
  ·
   rintro ⟨u2_1,u2_2,u2_3,u2_4,u2_5,u7_1,u7_2,u13_1⟩
   dsimp only [cw]
   refine zL 16 (by kernel_rfl) ?_
   ·
    refine zD (by kernel_rfl) rfl rfl rfl rfl rfl sz32 rfl (.take (.take (.take (.take .nil))))<|d_pv 17 rfl rfl (by kernel_rfl) (by kernel_rfl) rfl rfl (zd rfl) ?_
    exact zla (hD0 (u2_1,u2_2,u2_3,u2_4,u2_5,u7_1,u7_2,u13_1)) (by kernel_rfl) ((.of rfl):SubM _ _) .rfl .rfl ((.of [0,1,2,3,4,5] rfl):SelR _ _ _)
  refine zya (X:=Nat×Option Addr×Nat×Option Addr×Nat×Wd×Wd) (k':=5) (L':=(lb 18 8191)) (fun (u2_1,u2_2,u2_3,u2_4,u2_5,u7_1,u7_2)=>([(32,.bool ((Cr.allP (Cr.pat l1 l2 ((w1:Nat):Int) ((vh1:Nat):Int) ((w2:Nat):Int) ((vh2:Nat):Int)) 0 0 (((w2:Nat):Int) - 0+1).toNat (((vh2:Nat):Int) - 0+1).toNat).isSome)),(31,.agg (cw [u7_1,u7_2]).toArray),(30,.int .i64 (Cr.pY (Cr.allP (Cr.pat l1 l2 ((w1:Nat):Int) ((vh1:Nat):Int) ((w2:Nat):Int) ((vh2:Nat):Int)) 0 0 (((w2:Nat):Int) - 0+1).toNat (((vh2:Nat):Int) - 0+1).toNat))),(29,.int .i64 (Cr.pX (Cr.allP (Cr.pat l1 l2 ((w1:Nat):Int) ((vh1:Nat):Int) ((w2:Nat):Int) ((vh2:Nat):Int)) 0 0 (((w2:Nat):Int) - 0+1).toNat (((vh2:Nat):Int) - 0+1).toNat))),(7,.int .i64 0),(6,.pointer (some ⟨b3,0,none⟩)),(5,.int .i64 0),(4,.int .i64 0)],[],[boxA b3 32 [.bool false,.slice none 0 0,.bool false,.slice none 0 0],boxA b2 24 [.int .i64 ((w2:Nat):Int),.int .i64 ((vh2:Nat):Int),.int .i64 m2,.slice p2 n2 c2],boxA b1 24 [.int .i64 ((w1:Nat):Int),.int .i64 ((vh1:Nat):Int),.int .i64 m1,.slice p1 n1 c1]],[qF ((Cr.allP (Cr.pat l1 l2 ((w1:Nat):Int) ((vh1:Nat):Int) ((w2:Nat):Int) ((vh2:Nat):Int)) 0 0 (((w2:Nat):Int) - 0+1).toNat (((vh2:Nat):Int) - 0+1).toNat).isSome) u7_1 u7_2 (Cr.pQ (Cr.allP (Cr.pat l1 l2 ((w1:Nat):Int) ((vh1:Nat):Int) ((w2:Nat):Int) ((vh2:Nat):Int)) 0 0 (((w2:Nat):Int) - 0+1).toNat (((vh2:Nat):Int) - 0+1).toNat)),atF u2_1 0 [.int .i64 ((w1:Nat):Int),.int .i64 ((vh1:Nat):Int),.int .i64 m1,.slice p1 n1 c1,.int .i64 ((w2:Nat):Int),.int .i64 ((vh2:Nat):Int),.int .i64 m2,.slice p2 n2 c2,.slice u2_2 (vh2+1) u2_3,.slice u2_4 (vh2+1) u2_5,.int .i64 (Cr.sumN (Cr.px l1) n1),.int .i64 ((((n1:Nat):Int)*(Cr.sumN (Cr.sq l1) n1)) - ((Cr.sumN (Cr.px l1) n1)*(Cr.sumN (Cr.px l1) n1)))],slF (rS (rI .i64)) u2_2 u2_3 (Cr.tab (Cr.px l2) w2 (vh2+1)),slF (rS (rI .i64)) u2_4 u2_5 (Cr.tab (Cr.sq l2) w2 (vh2+1)),slF (rI .i64) p1 c1 l1,slF (rI .i64) p2 c2 l2])) ?_ (fun hD2=> ?_)
  ·
   rintro ⟨u2_1,u2_2,u2_3,u2_4,u2_5,u7_1,u7_2⟩
   dsimp only [cw]
   refine zL 13 (by kernel_rfl) ?_
   ·
    refine zgb rfl rfl rfl rfl (zw zr32 rfl) (fun u13_1 _=> ?_)
    refine d_pv 14 rfl rfl (by kernel_rfl) (by kernel_rfl) rfl rfl (zd rfl)<|d_pv 15 rfl rfl (by kernel_rfl) (by kernel_rfl) rfl rfl (zd rfl) ?_
    exact zla (hD1 (u2_1,u2_2,u2_3,u2_4,u2_5,u7_1,u7_2,u13_1)) (by kernel_rfl) ((.of rfl):SubM _ _) .rfl .rfl ((.of [0,1,2,3,4,5] rfl):SelR _ _ _)
  refine zya (X:=Nat×Option Addr×Nat×Option Addr×Nat×Nat) (k':=10) (L':=(lb 18 8319)) (fun (u2_1,u2_2,u2_3,u2_4,u2_5,u13_1)=>([(11,.pointer (some ⟨u13_1,0,none⟩)),(23,.pointer (some ⟨u2_1,0,none⟩)),(27,.int .i64 ((vh2:Nat):Int)),(25,.int .i64 ((w2:Nat):Int)),(7,.int .i64 0),(6,.pointer (some ⟨b3,0,none⟩)),(5,.int .i64 0),(4,.int .i64 0)],[boxA u13_1 32 [.bool false,.slice none 0 0,.bool false,.slice none 0 0]],[boxA b3 32 [.bool false,.slice none 0 0,.bool false,.slice none 0 0],boxA b2 24 [.int .i64 ((w2:Nat):Int),.int .i64 ((vh2:Nat):Int),.int .i64 m2,.slice p2 n2 c2],boxA b1 24 [.int .i64 ((w1:Nat):Int),.int .i64 ((vh1:Nat):Int),.int .i64 m1,.slice p1 n1 c1]],[atF u2_1 0 [.int .i64 ((w1:Nat):Int),.int .i64 ((vh1:Nat):Int),.int .i64 m1,.slice p1 n1 c1,.int .i64 ((w2:Nat):Int),.int .i64 ((vh2:Nat):Int),.int .i64 m2,.slice p2 n2 c2,.slice u2_2 (vh2+1) u2_3,.slice u2_4 (vh2+1) u2_5,.int .i64 (Cr.sumN (Cr.px l1) n1),.int .i64 ((((n1:Nat):Int)*(Cr.sumN (Cr.sq l1) n1)) - ((Cr.sumN (Cr.px l1) n1)*(Cr.sumN (Cr.px l1) n1)))],slF (rS (rI .i64)) u2_2 u2_3 (Cr.tab (Cr.px l2) w2 (vh2+1)),slF (rS (rI .i64)) u2_4 u2_5 (Cr.tab (Cr.sq l2) w2 (vh2+1)),slF (rI .i64) p1 c1 l1,slF (rI .i64) p2 c2 l2])) ?_ (fun hD3=> ?_)
  ·
   rintro ⟨u2_1,u2_2,u2_3,u2_4,u2_5,u13_1⟩
   dsimp only
   refine zL 7 (by kernel_rfl) ?_
   ·
    refine zH rfl rfl rfl rfl (.c rfl (.c rfl (.c rfl (.c rfl (.c rfl (.c rfl .n)))))) ce45 (zjc (w1:=w1) (vh1:=vh1) (m1:=m1) (p1:=p1) (n1:=n1) (c1:=c1) (l1:=l1) (w2:=w2) (vh2:=vh2) (m2:=m2) (p2:=p2) (n2:=n2) (c2:=c2) (l2:=l2) (bm:=u2_1) (ps:=u2_2) (cs:=u2_3) (pq:=u2_4) (cq:=u2_5) (le:=0) (tp:=0) (ri:=((w2:Nat):Int)) (bo:=((vh2:Nat):Int)) (hn1:=by assumption) (hw1:=by first|rfl|assumption|omega) (hh1:=by first|rfl|assumption|omega) (hwh1:=by first|rfl|assumption|omega) (hb1:=by first|rfl|assumption|omega) (hg1:=by first|rfl|assumption|omega) (hn2:=by assumption) (hw2:=by first|rfl|assumption|omega) (hh2:=by first|rfl|assumption|omega) (hwh2:=by first|rfl|assumption|omega) (hb2:=by first|rfl|assumption|omega) (hg2:=by first|rfl|assumption|omega) (hle:=by first|rfl|assumption|omega) (htp:=by first|rfl|assumption|omega) (hri:=by first|rfl|assumption|omega) (hbo:=by first|rfl|assumption|omega)) (.c (j:=0) rfl (.c (j:=3) rfl (.c (j:=4) rfl (.c (j:=1) rfl (.c (j:=2) rfl .n))))) ?_
    rintro ⟨u7_1,u7_2⟩ hy6
    dsimp only [List.append_eq,List.nil_append,List.cons_append]
    replace hy6:((Cr.allP (Cr.pat l1 l2 ((w1:Nat):Int) ((vh1:Nat):Int) ((w2:Nat):Int) ((vh2:Nat):Int)) 0 0 (((w2:Nat):Int) - 0+1).toNat (((vh2:Nat):Int) - 0+1).toNat).isSome=false→u7_1=wz∧u7_2=wz)∧Big.hq (Cr.pQ (Cr.allP (Cr.pat l1 l2 ((w1:Nat):Int) ((vh1:Nat):Int) ((w2:Nat):Int) ((vh2:Nat):Int)) 0 0 (((w2:Nat):Int) - 0+1).toNat (((vh2:Nat):Int) - 0+1).toNat))≤6:=hy6
    refine d_pv 8 rfl rfl (by kernel_rfl) (by kernel_rfl) rfl rfl (za rfl)<|d_pv 9 rfl rfl (by kernel_rfl) (by kernel_rfl) rfl rfl (zr rfl rfl)<|d_pv 10 rfl rfl (by kernel_rfl) (by kernel_rfl) rfl rfl (zr rfl rfl)<|d_pv 11 rfl rfl (by kernel_rfl) (by kernel_rfl) rfl rfl (zr rfl rfl)<|d_pv 12 rfl rfl (by kernel_rfl) (by kernel_rfl) rfl rfl (zr rfl rfl)<|d_pv 14 rfl rfl (by kernel_rfl) (by kernel_rfl) rfl rfl (zd rfl)<|d_pv 15 rfl rfl (by kernel_rfl) (by kernel_rfl) rfl rfl (zd rfl) ?_
    exact zla (hD1 (u2_1,u2_2,u2_3,u2_4,u2_5,u7_1,u7_2,u13_1)) (by kernel_rfl) ((.of rfl):SubM _ _) .rfl .rfl ((.of [0,1,2,3,4,5] rfl):SelR _ _ _)
  refine zya (X:=Nat×Option Addr×Nat×Option Addr×Nat) (k':=11) (L':=(lb 18 127)) (fun (u2_1,u2_2,u2_3,u2_4,u2_5)=>([(23,.pointer (some ⟨u2_1,0,none⟩)),(27,.int .i64 ((vh2:Nat):Int)),(25,.int .i64 ((w2:Nat):Int)),(7,.int .i64 0),(6,.pointer (some ⟨b3,0,none⟩)),(5,.int .i64 0),(4,.int .i64 0)],[],[boxA b3 32 [.bool false,.slice none 0 0,.bool false,.slice none 0 0],boxA b2 24 [.int .i64 ((w2:Nat):Int),.int .i64 ((vh2:Nat):Int),.int .i64 m2,.slice p2 n2 c2],boxA b1 24 [.int .i64 ((w1:Nat):Int),.int .i64 ((vh1:Nat):Int),.int .i64 m1,.slice p1 n1 c1]],[atF u2_1 0 [.int .i64 ((w1:Nat):Int),.int .i64 ((vh1:Nat):Int),.int .i64 m1,.slice p1 n1 c1,.int .i64 ((w2:Nat):Int),.int .i64 ((vh2:Nat):Int),.int .i64 m2,.slice p2 n2 c2,.slice u2_2 (vh2+1) u2_3,.slice u2_4 (vh2+1) u2_5,.int .i64 (Cr.sumN (Cr.px l1) n1),.int .i64 ((((n1:Nat):Int)*(Cr.sumN (Cr.sq l1) n1)) - ((Cr.sumN (Cr.px l1) n1)*(Cr.sumN (Cr.px l1) n1)))],slF (rS (rI .i64)) u2_2 u2_3 (Cr.tab (Cr.px l2) w2 (vh2+1)),slF (rS (rI .i64)) u2_4 u2_5 (Cr.tab (Cr.sq l2) w2 (vh2+1)),slF (rI .i64) p1 c1 l1,slF (rI .i64) p2 c2 l2])) ?_ (fun hD4=> ?_)
  ·
   rintro ⟨u2_1,u2_2,u2_3,u2_4,u2_5⟩
   dsimp only
   refine znc 7 13 (by kernel_rfl) ?_ ?_
   ·
    refine zH rfl rfl rfl rfl (.c rfl (.c rfl (.c rfl (.c rfl (.c rfl (.c rfl .n)))))) ce45 (zjc (w1:=w1) (vh1:=vh1) (m1:=m1) (p1:=p1) (n1:=n1) (c1:=c1) (l1:=l1) (w2:=w2) (vh2:=vh2) (m2:=m2) (p2:=p2) (n2:=n2) (c2:=c2) (l2:=l2) (bm:=u2_1) (ps:=u2_2) (cs:=u2_3) (pq:=u2_4) (cq:=u2_5) (le:=0) (tp:=0) (ri:=((w2:Nat):Int)) (bo:=((vh2:Nat):Int)) (hn1:=by assumption) (hw1:=by first|rfl|assumption|omega) (hh1:=by first|rfl|assumption|omega) (hwh1:=by first|rfl|assumption|omega) (hb1:=by first|rfl|assumption|omega) (hg1:=by first|rfl|assumption|omega) (hn2:=by assumption) (hw2:=by first|rfl|assumption|omega) (hh2:=by first|rfl|assumption|omega) (hwh2:=by first|rfl|assumption|omega) (hb2:=by first|rfl|assumption|omega) (hg2:=by first|rfl|assumption|omega) (hle:=by first|rfl|assumption|omega) (htp:=by first|rfl|assumption|omega) (hri:=by first|rfl|assumption|omega) (hbo:=by first|rfl|assumption|omega)) (.c (j:=0) rfl (.c (j:=3) rfl (.c (j:=4) rfl (.c (j:=1) rfl (.c (j:=2) rfl .n))))) ?_
    rintro ⟨u7_1,u7_2⟩ hy7
    dsimp only [List.append_eq,List.nil_append,List.cons_append]
    replace hy7:((Cr.allP (Cr.pat l1 l2 ((w1:Nat):Int) ((vh1:Nat):Int) ((w2:Nat):Int) ((vh2:Nat):Int)) 0 0 (((w2:Nat):Int) - 0+1).toNat (((vh2:Nat):Int) - 0+1).toNat).isSome=false→u7_1=wz∧u7_2=wz)∧Big.hq (Cr.pQ (Cr.allP (Cr.pat l1 l2 ((w1:Nat):Int) ((vh1:Nat):Int) ((w2:Nat):Int) ((vh2:Nat):Int)) 0 0 (((w2:Nat):Int) - 0+1).toNat (((vh2:Nat):Int) - 0+1).toNat))≤6:=hy7
    refine d_pv 8 rfl rfl (by kernel_rfl) (by kernel_rfl) rfl rfl (za rfl)<|d_pv 9 rfl rfl (by kernel_rfl) (by kernel_rfl) rfl rfl (zr rfl rfl)<|d_pv 10 rfl rfl (by kernel_rfl) (by kernel_rfl) rfl rfl (zr rfl rfl)<|d_pv 11 rfl rfl (by kernel_rfl) (by kernel_rfl) rfl rfl (zr rfl rfl)<|d_pv 12 rfl rfl (by kernel_rfl) (by kernel_rfl) rfl rfl (zr rfl rfl) ?_
    exact zla (hD2 (u2_1,u2_2,u2_3,u2_4,u2_5,u7_1,u7_2)) (by kernel_rfl) ((.of rfl):SubM _ _) .rfl .rfl ((.of [0,1,2,3,4,5] rfl):SelR _ _ _)
   ·
    refine zgb rfl rfl rfl rfl (zw zr32 rfl) (fun u13_1 _=> ?_)
    exact zla (hD3 (u2_1,u2_2,u2_3,u2_4,u2_5,u13_1)) (by kernel_rfl) ((.of rfl):SubM _ _) .rfl .rfl ((.of [0,1,2,3,4] rfl):SelR _ _ _)
  refine zya (X:=Nat) (k':=11) (L':=(lb 18 8315)) (fun u13_1=>([(11,.pointer (some ⟨u13_1,0,none⟩)),(27,.int .i64 ((vh2:Nat):Int)),(25,.int .i64 ((w2:Nat):Int)),(22,.agg #[.int .i64 ((w2:Nat):Int),.int .i64 ((vh2:Nat):Int),.int .i64 m2,.slice p2 n2 c2]),(21,.agg #[.int .i64 ((w1:Nat):Int),.int .i64 ((vh1:Nat):Int),.int .i64 m1,.slice p1 n1 c1]),(7,.int .i64 0),(6,.pointer (some ⟨b3,0,none⟩)),(5,.int .i64 0),(4,.int .i64 0)],[boxA u13_1 32 [.bool false,.slice none 0 0,.bool false,.slice none 0 0]],[boxA b3 32 [.bool false,.slice none 0 0,.bool false,.slice none 0 0],boxA b2 24 [.int .i64 ((w2:Nat):Int),.int .i64 ((vh2:Nat):Int),.int .i64 m2,.slice p2 n2 c2],boxA b1 24 [.int .i64 ((w1:Nat):Int),.int .i64 ((vh1:Nat):Int),.int .i64 m1,.slice p1 n1 c1]],[slF (rI .i64) p1 c1 l1,slF (rI .i64) p2 c2 l2])) ?_ (fun hD5=> ?_)
  ·
   rintro u13_1
   dsimp only
   refine zL 2 (by kernel_rfl) ?_
   ·
    refine zH rfl rfl rfl rfl (.c rfl (.c rfl .n)) ce35 (zPa (w1:=w1) (vh1:=vh1) (m1:=m1) (p1:=p1) (n1:=n1) (c1:=c1) (l1:=l1) (w2:=w2) (vh2:=vh2) (m2:=m2) (p2:=p2) (n2:=n2) (c2:=c2) (l2:=l2) (hn1:=by assumption) (hw1:=by first|rfl|assumption|omega) (hh1:=by first|rfl|assumption|omega) (hwh1:=by first|rfl|assumption|omega) (hb1:=by first|rfl|assumption|omega) (hg1:=by first|rfl|assumption|omega) (hn2:=by assumption) (hw2:=by first|rfl|assumption|omega) (hh2:=by first|rfl|assumption|omega) (hwh2:=by first|rfl|assumption|omega) (hb2:=by first|rfl|assumption|omega) (hg2:=by first|rfl|assumption|omega) (hok:=by exact hok.2)) (.c (j:=0) rfl (.c (j:=1) rfl .n)) ?_
    rintro ⟨u2_1,u2_2,u2_3,u2_4,u2_5⟩ -
    dsimp only [List.append_eq,List.nil_append,List.cons_append]
    exact zla (hD3 (u2_1,u2_2,u2_3,u2_4,u2_5,u13_1)) (by kernel_rfl) ((.of rfl):SubM _ _) .rfl .rfl ((.of [0,1,2,3,4] rfl):SelR _ _ _)
  refine znc 2 13 (by kernel_rfl) ?_ ?_
  ·
   refine zH rfl rfl rfl rfl (.c rfl (.c rfl .n)) ce35 (zPa (w1:=w1) (vh1:=vh1) (m1:=m1) (p1:=p1) (n1:=n1) (c1:=c1) (l1:=l1) (w2:=w2) (vh2:=vh2) (m2:=m2) (p2:=p2) (n2:=n2) (c2:=c2) (l2:=l2) (hn1:=by assumption) (hw1:=by first|rfl|assumption|omega) (hh1:=by first|rfl|assumption|omega) (hwh1:=by first|rfl|assumption|omega) (hb1:=by first|rfl|assumption|omega) (hg1:=by first|rfl|assumption|omega) (hn2:=by assumption) (hw2:=by first|rfl|assumption|omega) (hh2:=by first|rfl|assumption|omega) (hwh2:=by first|rfl|assumption|omega) (hb2:=by first|rfl|assumption|omega) (hg2:=by first|rfl|assumption|omega) (hok:=by exact hok.2)) (.c (j:=0) rfl (.c (j:=1) rfl .n)) ?_
   rintro ⟨u2_1,u2_2,u2_3,u2_4,u2_5⟩ -
   dsimp only [List.append_eq,List.nil_append,List.cons_append]
   exact zla (hD4 (u2_1,u2_2,u2_3,u2_4,u2_5)) (by kernel_rfl) ((.of rfl):SubM _ _) .rfl .rfl ((.of [0,1,2,3,4] rfl):SelR _ _ _)
  ·
   refine zgb rfl rfl rfl rfl (zw zr32 rfl) (fun u13_1 _=> ?_)
   exact zla (hD5 u13_1) (by kernel_rfl) ((.of rfl):SubM _ _) .rfl .rfl ((.of [0,1] rfl):SelR _ _ _)
end Go.Proofs.YtkamccndgblheaaGreat.Sp
