/- Lemmas on the walk and plain lemmas that the claim of this folder uses; each states its own conditions. Lines were printed by a program of ours. -/
import Derived.Test.YtjeahiahjgifgaaGreatDoorZ9D
set_option linter.unusedVariables false
set_option linter.unusedSimpArgs false
set_option linter.unusedSectionVars false
namespace Go.Proofs.YtjeahiahjgifgaaGreatDoor.Sp
open Go
set_option linter.unusedVariables false
set_option maxRecDepth 100000
set_option maxHeartbeats 8000000
theorem zWa {s:Bool} {p:Option Addr} {n:Nat} {cap:Nat} {l:List Int} (hn:l.length=n) (ho:Big.okL l) (hln:n≤4398046511104):Con Tryz.prog 91 [.bool s,.slice p n cap] [] [slF (rI .u32) p cap l] (Y:=(Option Addr)×Nat) (fun y=>True) (fun y=> .agg #[.bool (decide ((Big.sg s (Big.valL l))<0)),.slice (y.1) ((Big.digs ((Big.sg s (Big.valL l)).natAbs)).length) (y.2)]) (fun y=>[]) (fun y=>[slF (rI .u32) (y.1) (y.2) (Big.digs ((Big.sg s (Big.valL l)).natAbs))]):=by
 refine zw Tryz.func91 rfl rfl rfl (fun c=> ?_)
 show RunC _ _ _ _ _ [(0,.bool s),(1,.slice p n cap)] [] [slF (rI .u32) p cap l]
 refine zta 0 rfl (fun hL0=> ?_)
 refine zj<|zc<|zH rfl rfl (zo zr42 rfl) (fun b1=> ?_)
 refine zk<|zg<|zj<|zc<|e_mv rfl<|e_p (zea Tryz.underlying40 rfl)<|e_p (zh rfl)<|zk<|zg<|zj<|zv<|zya (X:=Nat) (fun x:Nat=>x≤n∧Big.trimL (l.take x)=Big.trimL l) (fun x=>[(5,.int .i64 ((x:Nat):Int)),(4,.pointer (some ⟨b1,0,none⟩)),(0,.bool s),(1,.slice p n cap)]) (fun x=>[boxA b1 42 [wz.b,wz.l]]) (fun x=>[slF (rI .u32) p cap l]) (fun x:Nat=>x) n (show n≤n∧Big.trimL (l.take n)=Big.trimL l from by exact ⟨by omega,by rw [List.take_of_length_le om]⟩) ((.of rfl):SubM _ _) (ho:=((.c (i:=0) rfl .n):PickO _ _ _)) ((.c (j:=0) rfl .n):SelR _ _ _) ?_
 rintro k hI
 replace hI:k≤n∧Big.trimL (l.take k)=Big.trimL l:=hI
 try dsimp only
 obtain ⟨hk,hT⟩:=hI
 refine zj<|zDa (X:=Unit) (fun x=>True) (fun x=>[(17,.bool (decide (0<k∧l.getD (k - 1) 0=0))),(5,.int .i64 ((k:Nat):Int)),(4,.pointer (some ⟨b1,0,none⟩)),(0,.bool s),(1,.slice p n cap)]) (fun x=>[boxA b1 42 [wz.b,wz.l]]) (fun x=>[slF (rI .u32) p cap l]) ?_ ?_
 ·
  refine zc<|e_mv rfl<|e_p (zYa rfl rfl)<|zia rfl rfl (zma rfl) (fun h2=> ?_) (fun h2=> ?_)
  ·
   refine e_mv rfl<|e_mv rfl<|e_p (zka (z:=(((k:Nat):Int) - 1)) rfl rfl (w64 om))<|zU (x0:=(l.getD ((((k:Nat):Int) - 1).toNat) 0)) 0 ((((k:Nat):Int) - 1).toNat) rfl Tryz.underlying40 sz131 rfl rfl rfl cbs rfl om (gD (d:=0) om) (fun b3 o4 hok5=> ?_)
   replace hok5:=zG.1 hok5
   refine e_ru (zA (j:=0) 0 ty131 rfl rfl rfl rfl)<|e_p (zIa rfl rfl)<|e_p (zI rfl rfl)<|zk ?_
   exact zha () (show True from by first|trivial|omega|simp_all) ((.e rfl (congrArg Value.bool (by have h1:0<k:=om;have h2:((k:Int) - 1).toNat=k - 1:=om;simp [h1,h2])) (.of rfl)):SubM _ _) (ho:=((.c (i:=0) rfl .n):PickO _ _ _)) ((.c (j:=1) rfl .n):SelR _ _ _)
  ·
   refine e_no<|e_no<|e_no<|e_no<|e_no<|e_no<|e_p (zI rfl rfl)<|zk ?_
   exact zha () (show True from by first|trivial|omega|simp_all) ((.e rfl (congrArg Value.bool (by have h1:¬0<k:=om;simp [h1])) (.of rfl)):SubM _ _) (ho:=((.c (i:=0) rfl .n):PickO _ _ _)) ((.c (j:=0) rfl .n):SelR _ _ _)
 ·
  rintro ⟨⟩ -
  try dsimp only
  refine zP rfl (fun hc=> ?_) (fun hc=> ?_)
  ·
   refine zx<|zg<|zv<|zc<|e_mv rfl<|e_p (zka (z:=(((k - 1):Nat):Int)) rfl rfl (w64 om))<|e_p (zh rfl)<|zk<|zK<|zxa (k - 1) (show (k - 1)≤n∧Big.trimL (l.take (k - 1))=Big.trimL l from by exact ⟨by omega,by rw [← hT,Big.trim_go l hc.1 om hc.2]⟩) (by show k - 1<k;omega) ((.e rfl (by first|rfl|(congr 1;omega)|simp_all) (.of rfl)):SubM _ _) (ho:=((.c (i:=0) rfl .n):PickO _ _ _)) ((.c (j:=0) rfl .n):SelR _ _ _)
  ·
   have htr:l.take k=Big.digs (Big.sg s (Big.valL l)).natAbs:=by rw [Big.sg_abs (Big.valL_nonneg ho),←Big.digs_valL ho,←hT];exact (Big.trim_stop l om hc).symm
   have hlt:(l.take k).length=k:=by rw [List.length_take];omega
   have hsg:=Big.made_sign (s:=s) ho htr hlt
   refine zpa<|zn<|zn<|zD<|zg<|zj<|zc<|e_mv rfl<|zJe rfl rfl (zma rfl) (fun hs=> ?_) (fun hs=> ?_)
   ·
    refine e_mv rfl<|e_p (zYa rfl rfl)<|e_p (zI rfl rfl)<|zLa rfl rfl (zFa (rI .u32) Tryz.underlying40 inf131) (fun b6 _=> ?_)
    refine e_mv rfl<|e_mv rfl<|e_p (zOb (hi:=k) Tryz.underlying40 sz131 rfl (.s rfl) (.inr ⟨_,rfl⟩) om)<|zGc (zPc 0 rfl k om) (fun _ _=> ?_)
    refine zdb 0 rfl rfl rfl (zRa 0 rfl Tryz.underlying40 inf131 dd rfl rfl cbs rfl cbs om om) (fun _=> .z) ?_
    rintro ⟨p7,c8⟩ -
    dsimp only [aq,nq,cq]
    refine e_p (zu zr42 rfl Tryz.underlying42 (.c sz4 (.c sz40 .n)) (.c rfl (.c rfl .n)) (.c rfl rfl rfl (.take .nil) (.c rfl rfl rfl (.skip (.take .nil)) .n)))<|zl 1 rfl rfl rfl rfl rfl sz42 rfl (.t2 .nil) (.s .z)<|zk<|zg<|zO ?_
    subst hs
    refine zXb 0 rfl .z ?_
    exact zL Tryz.results91 (p7,c8) trivial (zr 1 ty42 rfl rfl (.t2 .nil)) (by rw [hsg,←htr,hlt,Nat.zero_add] <;> simp) (ho:=(.n:PickO _ _ _)) ((.e (j:=0) rfl (by rw [htr] <;> rfl) .n):SelR _ _ _)
   ·
    refine e_no<|e_no<|e_p (zI rfl rfl)<|zLa rfl rfl (zFa (rI .u32) Tryz.underlying40 inf131) (fun b9 _=> ?_)
    refine e_mv rfl<|e_mv rfl<|e_p (zOb (hi:=k) Tryz.underlying40 sz131 rfl (.s rfl) (.inr ⟨_,rfl⟩) om)<|zGc (zPc 0 rfl k om) (fun _ _=> ?_)
    refine zdb 0 rfl rfl rfl (zRa 0 rfl Tryz.underlying40 inf131 dd rfl rfl cbs rfl cbs om om) (fun _=> .z) ?_
    rintro ⟨p10,c11⟩ -
    dsimp only [aq,nq,cq]
    refine e_p (zu zr42 rfl Tryz.underlying42 (.c sz4 (.c sz40 .n)) (.c rfl (.c rfl .n)) (.c rfl rfl rfl (.take .nil) (.c rfl rfl rfl (.skip (.take .nil)) .n)))<|zl 1 rfl rfl rfl rfl rfl sz42 rfl (.t2 .nil) (.s .z)<|zk<|zg<|zO ?_
    subst hs
    refine zXb 0 rfl .z ?_
    exact zL Tryz.results91 (p10,c11) trivial (zr 1 ty42 rfl rfl (.t2 .nil)) (by rw [hsg,←htr,hlt,Nat.zero_add] <;> simp) (ho:=(.n:PickO _ _ _)) ((.e (j:=0) rfl (by rw [htr] <;> rfl) .n):SelR _ _ _)
theorem zyb {s:Bool} {a:Nat} {p:Option Addr} {cap:Nat} (hln:(Big.digs (a)).length≤4398046511104):Con Tryz.prog 91 [.bool (s),.slice (p) ((Big.digs (a)).length) (cap)] [] [slF (rI .u32) (p) (cap) (Big.digs (a))] (Y:=(Option Addr)×(Nat)) (fun y=>True) (fun y=> .agg #[.bool (decide ((Big.sg s (a:Int))<0)),.slice (y.1) ((Big.digs ((Big.sg s (a:Int)).natAbs)).length) (y.2)]) (fun y=>[]) (fun y=>[slF (rI .u32) (y.1) (y.2) (Big.digs ((Big.sg s (a:Int)).natAbs))]):=by
  have h:= @zWa s p (Big.digs a).length cap (Big.digs a) rfl (Big.digs_ok a) hln
  rw [Big.valL_digs] at h
  exact h
theorem zlb {p:Option Addr} {n:Nat} {cap:Nat} {l:List Int} {i:Nat} (hn:l.length=n) (hi:i≤4611686018427387904):Con Tryz.prog 109 [.slice p n cap,.int .i64 ((i:Nat):Int)] [] [slF (rI .u32) p cap l] (Y:=Unit) (fun y=>True) (fun y=> .int .u64 (l.getD i 0)) (fun y=>[]) (fun y=>[]):=by
 refine zw Tryz.func109 rfl rfl rfl (fun c=> ?_)
 show RunC _ _ _ _ _ [(0,.slice p n cap),(1,.int .i64 ((i:Nat):Int))] [] [slF (rI .u32) p cap l]
 refine zta 0 rfl (fun hL0=> ?_)
 refine zj<|zc<|e_p (zh rfl)<|zk<|zg<|zj<|zj<|zc<|e_mv rfl<|e_mv rfl<|e_p (zea Tryz.underlying40 rfl)<|e_p (zV rfl rfl)<|zk<|zg<|zP rfl (fun h1=> ?_) (fun h1=> ?_)
 ·
  refine zj<|zc<|e_mv rfl<|e_mv rfl<|zU (x0:=(l.getD i 0)) 0 i rfl Tryz.underlying40 sz131 rfl rfl rfl cbs rfl rfl (gD (d:=0) om) (fun b2 o3 hok4=> ?_)
  replace hok4:=zG.1 hok4
  refine e_ru (zA (j:=0) 0 ty131 rfl rfl rfl rfl)<|e_p (zM (z:=(l.getD i 0)) rfl (by rw [Tryz.underlying131];rfl) Tryz.underlying130 (wu64 om))<|e_p (zh rfl)<|zk<|zg<|zO<|zt ?_
  exact zL Tryz.results109 () trivial (zB rfl) rfl (ho:=(.n:PickO _ _ _)) (.n:SelR _ _ _)
 ·
  refine zx<|zg<|zj<|zc<|e_p (zh rfl)<|zk<|zg<|zO ?_
  exact zL Tryz.results109 () trivial (zB rfl) (by rw [show l.getD i 0=0 by simp [List.getD,List.getElem?_eq_none (show l.length≤i by omega)]]) (ho:=(.n:PickO _ _ _)) (.n:SelR _ _ _)
theorem zCc {s:Bool} {p:Option Addr} {n:Nat} {cap:Nat} {l:List Int} (hn:l.length=n):Con Tryz.prog 65 [.agg #[.bool s,.slice p n cap]] [] [slF (rI .u32) p cap l] (Y:=Unit) (fun y=>True) (fun y=> .bool (decide (Big.canon s l))) (fun y=>[]) (fun y=>[]):=by
 refine zw Tryz.func65 rfl rfl rfl (fun c=> ?_)
 show RunC _ _ _ _ _ [(0,.agg #[.bool s,.slice p n cap])] [] [slF (rI .u32) p cap l]
 refine zta 0 rfl (fun hL0=> ?_)
 refine zj<|zc<|zH rfl rfl (zba rfl rfl) (fun b1=> ?_)
 refine e_p (zh rfl)<|zk<|zg<|zj<|zc<|e_p (zf Tryz.underlying42 rfl sz40 rfl rfl)<|e_ru (zd 0 ty40 rfl rfl rfl)<|e_p (zea Tryz.underlying40 rfl)<|e_p (zh rfl)<|zk<|zg<|zj<|zj<|zc<|e_p (zh rfl)<|zk<|zg<|zv<|zya (X:=Nat) (fun x:Nat=>x≤n∧∀j,j<x→l.getD j 0<1000000000) (fun x=>[(4,.int .i64 ((x:Nat):Int)),(3,.int .i64 ((n:Nat):Int)),(1,.pointer (some ⟨b1,0,none⟩))]) (fun x=>[boxA b1 42 [.bool s,.slice p n cap]]) (fun x=>[slF (rI .u32) p cap l]) (fun x:Nat=>n - x) 0 (show 0≤n∧∀j,j<0→l.getD j 0<1000000000 from by exact ⟨by omega,fun j h=>by omega⟩) ((.e rfl (by first|rfl|(congr 1;omega)|simp_all) (.c rfl (.c rfl .n))):SubM _ _) (ho:=((.c (i:=0) rfl .n):PickO _ _ _)) ((.c (j:=0) rfl .n):SelR _ _ _) ?_
 rintro i hI
 replace hI:i≤n∧∀j,j<i→l.getD j 0<1000000000:=hI
 try dsimp only
 obtain ⟨hi,hall⟩:=hI
 refine zj<|zj<|zc<|e_mv rfl<|e_mv rfl<|e_p (zV rfl rfl)<|zk<|zg<|zP rfl (fun h2=> ?_) (fun h2=> ?_)
 ·
  refine zx<|zg<|zj<|zv<|zj<|zc<|e_p (zf Tryz.underlying42 rfl sz40 rfl rfl)<|e_ru (zd 0 ty40 rfl rfl rfl)<|e_mv rfl<|zU (x0:=(l.getD i 0)) 0 i rfl Tryz.underlying40 sz131 rfl rfl rfl cbs rfl rfl (gD (d:=0) om) (fun b3 o4 hok5=> ?_)
  replace hok5:=zG.1 hok5
  refine e_ru (zA (j:=0) 0 ty131 rfl rfl rfl rfl)<|e_p (zsb rfl rfl)<|zk<|zg<|zP rfl (fun hb=> ?_) (fun hb=> ?_)
  ·
   refine zj<|zc<|e_p (zh rfl)<|zk<|zg<|zO<|zda<|zt<|zt<|zda<|zt ?_
   exact zL Tryz.results65 () trivial (zB rfl) (congrArg Value.bool (decide_eq_false (fun h=>((Big.canon_more om).1 h).2 ⟨_,Big.getD_mem om,hb⟩))) (ho:=(.n:PickO _ _ _)) (.n:SelR _ _ _)
  ·
   refine zx<|zK<|zg<|zc<|e_mv rfl<|e_p (zJ (z:=(((i+1):Nat):Int)) rfl rfl (w64 om))<|e_p (zh rfl)<|zk<|zxa (i+1) (show (i+1)≤n∧∀j,j<(i+1)→l.getD j 0<1000000000 from by refine ⟨by omega,fun j hj=> ?_⟩;by_cases e:j=i;subst e;omega;exact hall j om) (by show n - (i+1)<n - i;omega) ((.of rfl):SubM _ _) (ho:=((.c (i:=0) rfl .n):PickO _ _ _)) ((.c (j:=1) rfl .n):SelR _ _ _)
 ·
  refine zpa<|zn<|zn<|zD<|zg<|zj<|zj<|zc<|e_mv rfl<|e_p (zIa rfl rfl)<|zk<|zg<|zP rfl (fun h0=> ?_) (fun h0=> ?_)
  ·
   refine zj<|zc<|e_p (zf Tryz.underlying42 rfl sz4 rfl rfl)<|e_ru (zd 0 ty4 rfl rfl rfl)<|e_p (zec rfl)<|e_p (zh rfl)<|zk<|zg<|zO<|zt ?_
   exact zL Tryz.results65 () trivial (zB rfl) (congrArg Value.bool (by have:l.length=0:=om;cases s <;> simp [Big.canon,this])) (ho:=(.n:PickO _ _ _)) (.n:SelR _ _ _)
  ·
   refine zx<|zg<|zj<|zc<|e_p (zf Tryz.underlying42 rfl sz40 rfl rfl)<|e_ru (zd 0 ty40 rfl rfl rfl)<|e_mv rfl<|e_p (zka (z:=(((n:Nat):Int) - 1)) rfl rfl (w64 om))<|zU (x0:=(l.getD ((((n:Nat):Int) - 1).toNat) 0)) 0 ((((n:Nat):Int) - 1).toNat) rfl Tryz.underlying40 sz131 rfl rfl rfl cbs rfl om (gD (d:=0) om) (fun b6 o7 hok8=> ?_)
   replace hok8:=zG.1 hok8
   refine e_ru (zA (j:=0) 0 ty131 rfl rfl rfl rfl)<|e_p (zhb rfl rfl)<|e_p (zh rfl)<|zk<|zg<|zO ?_
   exact zL Tryz.results65 () trivial (zB rfl) (congrArg Value.bool (decide_eq_decide.2 (by rw [Big.canon_more om,hn];have e:((n:Int) - 1).toNat=n - 1:=om;rw [e];exact ⟨fun h=>h.1,fun h=>⟨h,fun ⟨g,hg,hb⟩=>by obtain ⟨j,hj,e⟩:=Big.mem_getD hg;have:=hall j om;omega⟩⟩))) (ho:=(.n:PickO _ _ _)) (.n:SelR _ _ _)
theorem zfb {s:Bool} {p:Option Addr} {n:Nat} {cap:Nat} {l:List Int} (hn:l.length=n) (hln:n≤1099511627776):Con Tryz.prog 90 [.agg #[.bool s,.slice p n cap]] [] [slF (rI .u32) p cap l] (Y:=(Option Addr)×Nat) (fun y=>True) (fun y=> .agg #[.bool (decide ((Big.raw s l)<0)),.slice (y.1) ((Big.digs ((Big.raw s l).natAbs)).length) (y.2)]) (fun y=>[]) (fun y=>[slF (rI .u32) (y.1) (y.2) (Big.digs ((Big.raw s l).natAbs))]):=by
 refine zw Tryz.func90 rfl rfl rfl (fun c=> ?_)
 show RunC _ _ _ _ _ [(0,.agg #[.bool s,.slice p n cap])] [] [slF (rI .u32) p cap l]
 refine zta 0 rfl (fun hL0=> ?_)
 refine zib 0 rfl (fun hE0=> ?_)
 have hnn:Big.nn l:=fun g hg=>(zG.1 (hE0 g hg)).1
 refine zj<|zc<|zH rfl rfl (zba rfl rfl) (fun b1=> ?_)
 refine zH rfl rfl (zo zr42 rfl) (fun b2=> ?_)
 refine zk<|zg<|zj<|zj<|zc<|e_ru (ze 1 ty42 rfl rfl (.t2 .nil))<|zR rfl rfl (.c rfl .n) ce65 (zCc (s:=s) (p:=p) (n:=n) (cap:=cap) (l:=l) (hn:=ass)) (.c (j:=0) rfl .n)<|e_p (zHa rfl)<|zk<|zg<|zP rfl (fun hc=> ?_) (fun hc=> ?_)
 ·
  refine zj<|zc<|e_p (zu zr42 rfl Tryz.underlying42 (.c sz4 (.c sz40 .n)) .n .n)<|zl 0 rfl rfl rfl rfl rfl sz42 rfl (.t2 .nil) .z<|zk<|zg<|zO<|zt ?_
  have hz:Big.raw s l=0:=by unfold Big.raw;rw [if_neg hc]
  refine zKd (rI .u32) ?_
  exact zL Tryz.results90 (none,0) trivial (zr 0 ty42 rfl rfl (.t2 .nil)) (by rw [hz];rfl) (ho:=(.n:PickO _ _ _)) ((.e (j:=0) rfl (by rw [hz];rfl) .n):SelR _ _ _)
 ·
  refine zx<|zg<|zj<|zT (OW:=[boxA b2 42 [wz.b,wz.l]]) (O:=[boxA b1 42 [.bool s,.slice p n cap]]) 5 mixed (.then .ret) kr<|e_pv 0 rfl rfl (zf Tryz.underlying42 rfl sz4 rfl rfl)<|e_u 1 rfl rfl (zd 0 ty4 rfl rfl rfl)<|e_pv 3 rfl rfl (zf Tryz.underlying42 rfl sz40 rfl rfl)<|e_uw 4 rfl rfl (zd 1 ty40 rfl rfl rfl)<|e_one 2 (zva rfl rfl rfl rfl (zFa (rI .u32) Tryz.underlying40 inf131) (fun b3 _=> ?_))
  refine e_one 5 (zLf (A':=fun v:Option Addr×Nat=>rowA 131 (rI .u32) v.1 v.2 (([])++l)) kr rfl rfl rfl (zRa 0 rfl Tryz.underlying40 inf131 dd rfl rfl cbs rfl cbs om om) ?_)
  rintro ⟨p4,c5⟩ -
  dsimp only [aq,nq,cq]
  refine e_pv 6 rfl rfl (zu zr42 rfl Tryz.underlying42 (.c sz4 (.c sz40 .n)) (.c rfl (.c rfl .n)) (.c rfl rfl rfl (.take .nil) (.c rfl rfl rfl (.skip (.take .nil)) .n)))<|zab (zla (i:=1) rfl)<|e_one 7 (zp kr rfl rfl rfl rfl rfl sz42 rfl (.t2 .nil) ?_)
  refine zQ kr<|zg<|zO ?_
  have hcc:Big.canon s l:=Decidable.not_not.1 hc
  have hd:Big.digs (Big.raw s l).natAbs=l:=by rw [Big.raw_digs hnn,if_pos hcc]
  have hs:=Big.raw_sign hnn hcc
  refine zXb 1 rfl (.s .z) ?_
  exact zL Tryz.results90 (p4,c5) trivial (zr 0 ty42 rfl rfl (.t2 .nil)) (by rw [hs,hd,hn,Nat.zero_add]) (ho:=(.n:PickO _ _ _)) ((.e (j:=0) rfl (by rw [hd] <;> rfl) .n):SelR _ _ _)
theorem zad {z:Int} {p:Option Addr} {cap:Nat} (hln:Big.ln z≤1099511627776):Con Tryz.prog 90 [.agg #[.bool (decide ((z)<0)),.slice (p) ((Big.digs ((z).natAbs)).length) (cap)]] [] [slF (rI .u32) (p) (cap) (Big.digs ((z).natAbs))] (Y:=(Option Addr)×(Nat)) (fun y=>True) (fun y=> .agg #[.bool (decide ((z)<0)),.slice (y.1) ((Big.digs ((z).natAbs)).length) (y.2)]) (fun y=>[]) (fun y=>[slF (rI .u32) (y.1) (y.2) (Big.digs ((z).natAbs))]):=by
  have h:= @zfb (decide ((z)<0)) p (Big.digs (z).natAbs).length cap (Big.digs (z).natAbs) rfl hln
  rw [Big.raw_big] at h
  exact h
theorem zaf {z:Int} (hz: -9223372036854775808≤z∧z≤9223372036854775807):Con Tryz.prog 87 [.int .i64 z] [] [] (Y:=(Option Addr)×Nat) (fun y=>True) (fun y=> .agg #[.bool (decide (z<0)),.slice (y.1) ((Big.digs ((z).natAbs)).length) (y.2)]) (fun y=>[]) (fun y=>[slF (rI .u32) (y.1) (y.2) (Big.digs ((z).natAbs))]):=by
 refine zw Tryz.func87 rfl rfl rfl (fun c=> ?_)
 show RunC _ _ _ _ _ [(0,.int .i64 z)] [] []
 refine zj<|zc<|zH rfl rfl (zo zr42 rfl) (fun b1=> ?_)
 refine zk<|zg<|zj<|zc<|e_mv rfl<|e_p (zM (z:=(z%18446744073709551616)) rfl (by rw [Tryz.underlying3];rfl) Tryz.underlying130 (wu64m om))<|e_p (zh rfl)<|zk<|zg<|zDa (X:=Unit) (fun x=>True) (fun x=>[(3,.int .u64 ((z.natAbs:Nat):Int)),(2,.pointer (some ⟨b1,0,none⟩)),(0,.int .i64 z)]) (fun x=>[boxA b1 42 [wz.b,wz.l]]) (fun x=>[]) ?_ ?_
 ·
  refine zj<|zc<|e_mv rfl<|e_p (zV rfl rfl)<|zk<|zg<|zP rfl (fun hs=> ?_) (fun hs=> ?_)
  ·
   refine zc<|e_mv rfl<|e_p (zJ (z:=(z+1)) rfl rfl (w64 om))<|e_p (zdc (z:=(-(z+1))) rfl (w64 om))<|e_p (zM (z:=(-(z+1))) rfl (by rw [Tryz.underlying3];rfl) Tryz.underlying130 (wu64 om))<|e_p (zJ (z:=((z.natAbs:Nat):Int)) rfl rfl (wu64 om))<|e_p (zh rfl)<|zk ?_
   exact zha () (show True from by first|trivial|omega|simp_all) ((.of rfl):SubM _ _) (ho:=((.c (i:=0) rfl .n):PickO _ _ _)) (.n:SelR _ _ _)
  ·
   have e2:((z%18446744073709551616):Int)=((z.natAbs:Nat):Int):=by omega
   rw [e2]
   refine zx ?_
   exact zha () (show True from by first|trivial|omega|simp_all) ((.of rfl):SubM _ _) (ho:=((.c (i:=0) rfl .n):PickO _ _ _)) (.n:SelR _ _ _)
 ·
  rintro ⟨⟩ -
  try dsimp only
  refine zj<|zc<|zLa rfl rfl (zFa (rI .u32) Tryz.underlying40 inf131) (fun b3 _=> ?_)
  refine e_p (zh rfl)<|zk<|zg<|zj<|zv<|zya (X:=Nat×(Option Addr)×Nat×(List Int)) (fun x:Nat×(Option Addr)×Nat×(List Int)=>x.1≤z.natAbs∧x.2.2.2++Big.digs x.1=Big.digs z.natAbs) (fun x=>[(4,.slice (x.2.1) (x.2.2.2.length) (x.2.2.1)),(3,.int .u64 ((x.1:Nat):Int)),(2,.pointer (some ⟨b1,0,none⟩)),(0,.int .i64 z)]) (fun x=>[rowA 131 (rI .u32) (x.2.1) (x.2.2.1) (x.2.2.2),boxA b1 42 [wz.b,wz.l]]) (fun x=>[]) (fun x:Nat×(Option Addr)×Nat×(List Int)=>x.1) (z.natAbs,some ⟨b3,0,none⟩,0,[]) (show z.natAbs≤z.natAbs∧([])++Big.digs z.natAbs=Big.digs z.natAbs from by exact ⟨Nat.le_refl _,rfl⟩) ((.e rfl (by first|rfl|(congr 1;omega)|simp_all) (.of rfl)):SubM _ _) (ho:=((.of [0,0] rfl):PickO _ _ _)) (.n:SelR _ _ _) ?_
  rintro ⟨m,p,c,os⟩ hI
  replace hI:m≤z.natAbs∧os++Big.digs m=Big.digs z.natAbs:=hI
  try dsimp only
  obtain ⟨hnn,hos⟩:=hI
  have hlen0:os.length+(Big.digs m).length≤3:=by have:=congrArg List.length hos;rw [List.length_append] at this;have:=Big.zSe (show z.natAbs<18446744073709551616 by omega);omega
  refine zj<|zj<|zc<|e_mv rfl<|e_p (zYa rfl rfl)<|zk<|zg<|zP rfl (fun h4=> ?_) (fun h4=> ?_)
  ·
   refine zx<|zg<|zv<|zj<|zc<|e_mv rfl<|e_mv rfl<|e_p (zgb (z:=(((m%1000000000):Nat):Int)) rfl rfl om (remN om om))<|e_p (zM (z:=(((m%1000000000):Nat):Int)) rfl (by rw [Tryz.underlying130];rfl) Tryz.underlying131 (wu32 om))<|zLa rfl rfl (zS (enc:=fun z:Int=>[.int .u32 z]) (ok:=InK .u32) (h1:=fun _=>rfl) (h2:=fun _=>rfl) (k:=1) Tryz.underlying40 inf131 rfl dd dd dd (.c (x:=(((m%1000000000):Nat):Int)) rfl rfl (fun _ _=>by exact zG.2 om) .n)) (fun b5 _=> ?_)
   refine zqa 0 rfl .z<|zdb 1 rfl rfl rfl (zRa 0 rfl Tryz.underlying40 inf131 dd rfl rfl cbs rfl cbs om om) (fun _=>(.s .z)) ?_
   rintro ⟨p6,c7⟩ -
   dsimp only [aq,nq,cq]
   refine e_p (zh rfl)<|zk<|zg<|zc<|e_mv rfl<|e_p (zUa (z:=(((m / 1000000000):Nat):Int)) rfl rfl om (by rw [quoN (z:=(((m / 1000000000):Nat):Int)) om om];exact wu64 om))<|e_p (zh rfl)<|zk<|zK<|zxa ((m / 1000000000),p6,c7,os++[((m%1000000000:Nat):Int)]) (show (m / 1000000000)≤z.natAbs∧(os++[((m%1000000000:Nat):Int)])++Big.digs (m / 1000000000)=Big.digs z.natAbs from by exact ⟨by omega,Big.split_step om hos⟩) (by show m / 1000000000<m;omega) ((.e rfl (by simp) (.of rfl)):SubM _ _) (ho:=((.e (i:=1) rfl (by first|rfl|(congr 1;omega)|simp_all) (.c (i:=1) rfl .n)):PickO _ _ _)) (.n:SelR _ _ _)
  ·
   have hm0:m=0:=by omega
   subst hm0
   have hd:os=Big.digs z.natAbs:=by simpa [Big.digs_zero] using hos
   have hok:Big.okL os:=by rw [hd];exact Big.digs_ok _
   have hlen:os.length≤3:=by rw [hd];exact Big.zSe om
   have hsg:Big.sg (decide (z<0)) (Big.valL os)=z:=by rw [hd,Big.valL_digs];exact Big.sg_big z
   refine zpa<|zn<|zn<|zD<|zg<|zj<|zc<|e_mv rfl<|e_p (zV rfl rfl)<|e_mv rfl<|zqa 0 rfl .z<|zE rfl rfl (.c rfl (.c rfl .n)) ce91 (zWa (s:=decide (z<0)) (p:=p) (n:=os.length) (cap:=c) (l:=os) (hn:=by first|rfl|omega) (ho:=by exact hok) (hln:=by first|rfl|omega)) (.c (j:=0) rfl .n) ?_
   rintro ⟨p28,c29⟩ -
   dsimp only [aq,nq,cq]
   refine zl 1 rfl rfl rfl rfl rfl sz42 rfl (.t2 .nil) (.s .z)<|zk<|zg<|zO ?_
   exact zL Tryz.results87 (p28,c29) trivial (zr 1 ty42 rfl rfl (.t2 .nil)) (by rw [hsg]) (ho:=(.n:PickO _ _ _)) ((.e (j:=0) rfl (by rw [hsg]) .n):SelR _ _ _)
theorem zbf {a:Nat} {b:Nat} {p1:Option Addr} {c1:Nat} {p2:Option Addr} {c2:Nat} (hb1:(Big.digs a).length≤1099511627776) (hb2:(Big.digs b).length≤1099511627776):Con Tryz.prog 92 [.slice p1 ((Big.digs a).length) c1,.slice p2 ((Big.digs b).length) c2] [] [slF (rI .u32) p1 c1 (Big.digs a),slF (rI .u32) p2 c2 (Big.digs b)] (Y:=(Option Addr)×Nat) (fun y=>True) (fun y=> .slice (y.1) ((Big.digs (a+b)).length) (y.2)) (fun y=>[]) (fun y=>[slF (rI .u32) (y.1) (y.2) (Big.digs (a+b))]):=by
 refine zw Tryz.func92 rfl rfl rfl (fun c=> ?_)
 show RunC _ _ _ _ _ [(0,.slice p1 ((Big.digs a).length) c1),(1,.slice p2 ((Big.digs b).length) c2)] [] [slF (rI .u32) p1 c1 (Big.digs a),slF (rI .u32) p2 c2 (Big.digs b)]
 refine zta 0 rfl (fun hL0=> ?_)
 refine zta 1 rfl (fun hL1=> ?_)
 refine zj<|zc<|e_p (zh rfl)<|zk<|zg<|zj<|zc<|zLa rfl rfl (zFa (rI .u32) Tryz.underlying40 inf131) (fun b1 _=> ?_)
 refine e_p (zh rfl)<|zk<|zg<|zj<|zc<|e_p (zh rfl)<|zk<|zg<|zj<|zj<|zc<|e_p (zh rfl)<|zk<|zg<|zv<|zya (X:=Nat×(Option Addr)×Nat×(List Int)×Int) (fun x:Nat×(Option Addr)×Nat×(List Int)×Int=>x.1≤max (Big.digs a).length (Big.digs b).length∧x.2.2.2.1.length=x.1∧0≤x.2.2.2.2∧x.2.2.2.2≤1∧Big.okL x.2.2.2.1∧Big.valL x.2.2.2.1+Big.pw x.1*x.2.2.2.2=Big.valL ((Big.digs a).take x.1)+Big.valL ((Big.digs b).take x.1)) (fun x=>[(6,.int .u64 (x.2.2.2.2)),(5,.slice (x.2.1) (x.2.2.2.1.length) (x.2.2.1)),(7,.int .i64 ((x.1:Nat):Int)),(4,.slice none 0 0),(0,.slice p1 ((Big.digs a).length) c1),(1,.slice p2 ((Big.digs b).length) c2)]) (fun x=>[rowA 131 (rI .u32) (x.2.1) (x.2.2.1) (x.2.2.2.1)]) (fun x=>[slF (rI .u32) p1 c1 (Big.digs a),slF (rI .u32) p2 c2 (Big.digs b)]) (fun x:Nat×(Option Addr)×Nat×(List Int)×Int=>max (Big.digs a).length (Big.digs b).length - x.1) (0,some ⟨b1,0,none⟩,0,[],0) (show 0≤max (Big.digs a).length (Big.digs b).length∧([]).length=0∧0≤0∧0≤1∧Big.okL ([])∧Big.valL ([])+Big.pw 0*0=Big.valL ((Big.digs a).take 0)+Big.valL ((Big.digs b).take 0) from by exact ⟨by omega,rfl,by decide,by decide,Big.okL_nil,by simp [Big.valL]⟩) ((.c rfl (.e rfl (by first|rfl|(congr 1;omega)|simp_all) (.e rfl (by first|rfl|(congr 1;omega)|simp_all) (.of rfl)))):SubM _ _) (ho:=((.c (i:=0) rfl .n):PickO _ _ _)) ((.of [0,1] rfl):SelR _ _ _) ?_
 rintro ⟨i,p,c,os,cy⟩ hI
 replace hI:i≤max (Big.digs a).length (Big.digs b).length∧os.length=i∧0≤cy∧cy≤1∧Big.okL os∧Big.valL os+Big.pw i*cy=Big.valL ((Big.digs a).take i)+Big.valL ((Big.digs b).take i):=hI
 try dsimp only
 obtain ⟨hi,hol,hc0,hc1,hok,hv⟩:=hI
 have hg1:=Big.okL_getD (Big.digs_ok a) i
 have hg2:=Big.okL_getD (Big.digs_ok b) i
 refine zj<|zDa (X:=Unit) (fun x=>True) (fun x=>[(19,.bool (decide (i<(Big.digs a).length∨i<(Big.digs b).length))),(6,.int .u64 cy),(5,.slice p (os.length) c),(7,.int .i64 ((i:Nat):Int)),(4,.slice none 0 0),(0,.slice p1 ((Big.digs a).length) c1),(1,.slice p2 ((Big.digs b).length) c2)]) (fun x=>[rowA 131 (rI .u32) p c os]) (fun x=>[slF (rI .u32) p1 c1 (Big.digs a),slF (rI .u32) p2 c2 (Big.digs b)]) ?_ ?_
 ·
  refine zc<|e_mv rfl<|e_mv rfl<|e_p (zea Tryz.underlying40 rfl)<|e_p (zV rfl rfl)<|zia rfl rfl (zma rfl) (fun h2=> ?_) (fun h2=> ?_)
  ·
   refine e_no<|e_no<|e_no<|e_no<|e_p (zI rfl rfl)<|zk ?_
   exact zha () (show True from by first|trivial|omega|simp_all) ((.e rfl (congrArg Value.bool (by simp;omega)) (.of rfl)):SubM _ _) (ho:=((.c (i:=0) rfl .n):PickO _ _ _)) ((.of [0,1] rfl):SelR _ _ _)
  ·
   refine e_mv rfl<|e_mv rfl<|e_p (zea Tryz.underlying40 rfl)<|e_p (zV rfl rfl)<|e_p (zI rfl rfl)<|zk ?_
   exact zha () (show True from by first|trivial|omega|simp_all) ((.e rfl (congrArg Value.bool (by simp;omega)) (.of rfl)):SubM _ _) (ho:=((.c (i:=0) rfl .n):PickO _ _ _)) ((.of [0,1] rfl):SelR _ _ _)
 ·
  rintro ⟨⟩ -
  try dsimp only
  refine zP rfl (fun hc=> ?_) (fun hc=> ?_)
  ·
   refine zx<|zg<|zj<|zv<|zj<|zc<|e_mv rfl<|e_mv rfl<|zR rfl rfl (.c rfl (.c rfl .n)) ce109 (zlb (p:=p1) (n:=(Big.digs a).length) (cap:=c1) (l:=Big.digs a) (i:=i) (hn:=cbb) (hi:=cbb)) (.c (j:=0) rfl .n)<|e_mv rfl<|e_mv rfl<|zR rfl rfl (.c rfl (.c rfl .n)) ce109 (zlb (p:=p2) (n:=(Big.digs b).length) (cap:=c2) (l:=Big.digs b) (i:=i) (hn:=cbb) (hi:=cbb)) (.c (j:=1) rfl .n)<|e_p (zJ (z:=((Big.digs a).getD i 0+(Big.digs b).getD i 0)) rfl rfl (wu64 om))<|e_mv rfl<|e_p (zJ (z:=(((Big.digs a).getD i 0+(Big.digs b).getD i 0)+cy)) rfl rfl (wu64 om))<|e_p (zh rfl)<|zk<|zg<|zj<|zc<|e_mv rfl<|e_mv rfl<|e_p (zgb (z:=((((Big.digs a).getD i 0+(Big.digs b).getD i 0)+cy)%1000000000)) rfl rfl om (remN om om))<|e_p (zM (z:=((((Big.digs a).getD i 0+(Big.digs b).getD i 0)+cy)%1000000000)) rfl (by rw [Tryz.underlying130];rfl) Tryz.underlying131 (wu32 om))<|zLa rfl rfl (zS (enc:=fun z:Int=>[.int .u32 z]) (ok:=InK .u32) (h1:=fun _=>rfl) (h2:=fun _=>rfl) (k:=1) Tryz.underlying40 inf131 rfl dd dd dd (.c (x:=((((Big.digs a).getD i 0+(Big.digs b).getD i 0)+cy)%1000000000)) rfl rfl (fun _ _=>by exact zG.2 om) .n)) (fun b3 _=> ?_)
   refine zqa 0 rfl .z<|zdb 1 rfl rfl rfl (zRa 0 rfl Tryz.underlying40 inf131 dd rfl rfl cbs rfl cbs om om) (fun _=>(.s .z)) ?_
   rintro ⟨p4,c5⟩ -
   dsimp only [aq,nq,cq]
   refine e_p (zh rfl)<|zk<|zg<|zc<|e_mv rfl<|e_p (zUa (z:=((((Big.digs a).getD i 0+(Big.digs b).getD i 0)+cy) / 1000000000)) rfl rfl om (by rw [quoN (z:=((((Big.digs a).getD i 0+(Big.digs b).getD i 0)+cy) / 1000000000)) om om];exact wu64 om))<|e_p (zh rfl)<|zk<|zK<|zg<|zc<|e_mv rfl<|e_p (zJ (z:=(((i+1):Nat):Int)) rfl rfl (w64 om))<|e_p (zh rfl)<|zk<|zxa ((i+1),p4,c5,os++[((Big.digs a).getD i 0+(Big.digs b).getD i 0+cy)%1000000000],((Big.digs a).getD i 0+(Big.digs b).getD i 0+cy) / 1000000000) (show (i+1)≤max (Big.digs a).length (Big.digs b).length∧(os++[((Big.digs a).getD i 0+(Big.digs b).getD i 0+cy)%1000000000]).length=(i+1)∧0≤(((Big.digs a).getD i 0+(Big.digs b).getD i 0+cy) / 1000000000)∧(((Big.digs a).getD i 0+(Big.digs b).getD i 0+cy) / 1000000000)≤1∧Big.okL (os++[((Big.digs a).getD i 0+(Big.digs b).getD i 0+cy)%1000000000])∧Big.valL (os++[((Big.digs a).getD i 0+(Big.digs b).getD i 0+cy)%1000000000])+Big.pw (i+1)*(((Big.digs a).getD i 0+(Big.digs b).getD i 0+cy) / 1000000000)=Big.valL ((Big.digs a).take (i+1))+Big.valL ((Big.digs b).take (i+1)) from by exact ⟨by omega,by simp [hol],by omega,by omega,Big.okL_snoc hok om om,Big.plus_step hol hv om⟩) (by show max (Big.digs a).length (Big.digs b).length - (i+1)<max (Big.digs a).length (Big.digs b).length - i;omega) ((.e rfl (by first|rfl|(congr 1;omega)|simp_all) (.e rfl (by simp) (.of rfl))):SubM _ _) (ho:=((.e (i:=1) rfl (by first|rfl|(congr 1;omega)|simp_all) .n):PickO _ _ _)) ((.of [1,2] rfl):SelR _ _ _)
  ·
   have hok2:=Big.okL_snoc hok hc0 (show cy<1000000000 by omega)
   have hfin:=Big.plus_end (a:=a) (b:=b) hol om om hv
   refine zpa<|zn<|zn<|zD<|zg<|zj<|zc<|e_mv rfl<|e_mv rfl<|e_p (zM (z:=cy) rfl (by rw [Tryz.underlying130];rfl) Tryz.underlying131 (wu32 om))<|zLa rfl rfl (zS (enc:=fun z:Int=>[.int .u32 z]) (ok:=InK .u32) (h1:=fun _=>rfl) (h2:=fun _=>rfl) (k:=1) Tryz.underlying40 inf131 rfl dd dd dd (.c (x:=cy) rfl rfl (fun _ _=>by exact zG.2 om) .n)) (fun b6 _=> ?_)
   refine zqa 0 rfl .z<|zdb 1 rfl rfl rfl (zRa 0 rfl Tryz.underlying40 inf131 dd rfl rfl cbs rfl cbs om om) (fun _=>(.s .z)) ?_
   rintro ⟨p7,c8⟩ -
   dsimp only [aq,nq,cq]
   refine zqa 1 rfl (.s .z)<|zE rfl rfl (.c rfl (.c rfl .n)) ce91 (zWa (s:=false) (p:=p7) (n:=os.length+1) (cap:=c8) (l:=(os++([cy]))) (hn:=by first|rfl|omega|(simp;done)|(simp;omega)) (ho:=by exact hok2) (hln:=by first|rfl|omega|(simp;done)|(simp;omega))) (.c (j:=0) rfl .n) ?_
   rintro ⟨p29,c210⟩ -
   dsimp only [aq,nq,cq]
   refine e_p (zKa Tryz.underlying42 rfl ty40 rfl rfl)<|e_p (zh rfl)<|zk<|zg<|zO ?_
   exact zL Tryz.results92 (p29,c210) trivial (zB rfl) (by rw [hfin]) (ho:=(.n:PickO _ _ _)) ((.e (j:=0) rfl (by rw [hfin]) .n):SelR _ _ _)
theorem zbc {a:Nat} {b:Nat} {p1:Option Addr} {c1:Nat} {p2:Option Addr} {c2:Nat} (hb1:(Big.digs a).length≤1099511627776) (hb2:(Big.digs b).length≤1099511627776) (hab:b≤a):Con Tryz.prog 94 [.slice p1 ((Big.digs a).length) c1,.slice p2 ((Big.digs b).length) c2] [] [slF (rI .u32) p1 c1 (Big.digs a),slF (rI .u32) p2 c2 (Big.digs b)] (Y:=(Option Addr)×Nat) (fun y=>True) (fun y=> .slice (y.1) ((Big.digs (a - b)).length) (y.2)) (fun y=>[]) (fun y=>[slF (rI .u32) (y.1) (y.2) (Big.digs (a - b))]):=by
 refine zw Tryz.func94 rfl rfl rfl (fun c=> ?_)
 show RunC _ _ _ _ _ [(0,.slice p1 ((Big.digs a).length) c1),(1,.slice p2 ((Big.digs b).length) c2)] [] [slF (rI .u32) p1 c1 (Big.digs a),slF (rI .u32) p2 c2 (Big.digs b)]
 refine zta 0 rfl (fun hL0=> ?_)
 refine zta 1 rfl (fun hL1=> ?_)
 refine zj<|zc<|e_p (zh rfl)<|zk<|zg<|zj<|zc<|zLa rfl rfl (zFa (rI .u32) Tryz.underlying40 inf131) (fun b1 _=> ?_)
 refine e_p (zh rfl)<|zk<|zg<|zj<|zc<|e_p (zh rfl)<|zk<|zg<|zj<|zj<|zc<|e_p (zh rfl)<|zk<|zg<|zv<|zya (X:=Nat×(Option Addr)×Nat×(List Int)×Int) (fun x:Nat×(Option Addr)×Nat×(List Int)×Int=>x.1≤(Big.digs a).length∧x.2.2.2.1.length=x.1∧0≤x.2.2.2.2∧x.2.2.2.2≤1∧Big.okL x.2.2.2.1∧Big.valL x.2.2.2.1+Big.valL ((Big.digs b).take x.1)=Big.valL ((Big.digs a).take x.1)+Big.pw x.1*x.2.2.2.2) (fun x=>[(6,.int .u64 (x.2.2.2.2)),(5,.slice (x.2.1) (x.2.2.2.1.length) (x.2.2.1)),(7,.int .i64 ((x.1:Nat):Int)),(4,.slice none 0 0),(0,.slice p1 ((Big.digs a).length) c1),(1,.slice p2 ((Big.digs b).length) c2)]) (fun x=>[rowA 131 (rI .u32) (x.2.1) (x.2.2.1) (x.2.2.2.1)]) (fun x=>[slF (rI .u32) p1 c1 (Big.digs a),slF (rI .u32) p2 c2 (Big.digs b)]) (fun x:Nat×(Option Addr)×Nat×(List Int)×Int=>(Big.digs a).length - x.1) (0,some ⟨b1,0,none⟩,0,[],0) (show 0≤(Big.digs a).length∧([]).length=0∧0≤0∧0≤1∧Big.okL ([])∧Big.valL ([])+Big.valL ((Big.digs b).take 0)=Big.valL ((Big.digs a).take 0)+Big.pw 0*0 from by exact ⟨by omega,rfl,by decide,by decide,Big.okL_nil,by simp [Big.valL]⟩) ((.c rfl (.e rfl (by first|rfl|(congr 1;omega)|simp_all) (.e rfl (by first|rfl|(congr 1;omega)|simp_all) (.of rfl)))):SubM _ _) (ho:=((.c (i:=0) rfl .n):PickO _ _ _)) ((.of [0,1] rfl):SelR _ _ _) ?_
 rintro ⟨i,p,c,os,bo⟩ hI
 replace hI:i≤(Big.digs a).length∧os.length=i∧0≤bo∧bo≤1∧Big.okL os∧Big.valL os+Big.valL ((Big.digs b).take i)=Big.valL ((Big.digs a).take i)+Big.pw i*bo:=hI
 try dsimp only
 obtain ⟨hi,hol,hc0,hc1,hok,hv⟩:=hI
 have hg1:=Big.okL_getD (Big.digs_ok a) i
 have hg2:=Big.okL_getD (Big.digs_ok b) i
 refine zj<|zj<|zc<|e_mv rfl<|e_mv rfl<|e_p (zea Tryz.underlying40 rfl)<|e_p (zV rfl rfl)<|zk<|zg<|zP rfl (fun h2=> ?_) (fun h2=> ?_)
 ·
  refine zx<|zg<|zj<|zv<|zj<|zc<|e_mv rfl<|e_mv rfl<|zR rfl rfl (.c rfl (.c rfl .n)) ce109 (zlb (p:=p1) (n:=(Big.digs a).length) (cap:=c1) (l:=Big.digs a) (i:=i) (hn:=cbb) (hi:=cbb)) (.c (j:=0) rfl .n)<|e_p (zJ (z:=(1000000000+(Big.digs a).getD i 0)) rfl rfl (wu64 om))<|e_mv rfl<|e_mv rfl<|zR rfl rfl (.c rfl (.c rfl .n)) ce109 (zlb (p:=p2) (n:=(Big.digs b).length) (cap:=c2) (l:=Big.digs b) (i:=i) (hn:=cbb) (hi:=cbb)) (.c (j:=1) rfl .n)<|e_p (zka (z:=((1000000000+(Big.digs a).getD i 0) - (Big.digs b).getD i 0)) rfl rfl (wu64 om))<|e_mv rfl<|e_p (zka (z:=(((1000000000+(Big.digs a).getD i 0) - (Big.digs b).getD i 0) - bo)) rfl rfl (wu64 om))<|e_p (zh rfl)<|zk<|zg<|zj<|zc<|e_mv rfl<|e_mv rfl<|e_p (zgb (z:=((((1000000000+(Big.digs a).getD i 0) - (Big.digs b).getD i 0) - bo)%1000000000)) rfl rfl om (remN om om))<|e_p (zM (z:=((((1000000000+(Big.digs a).getD i 0) - (Big.digs b).getD i 0) - bo)%1000000000)) rfl (by rw [Tryz.underlying130];rfl) Tryz.underlying131 (wu32 om))<|zLa rfl rfl (zS (enc:=fun z:Int=>[.int .u32 z]) (ok:=InK .u32) (h1:=fun _=>rfl) (h2:=fun _=>rfl) (k:=1) Tryz.underlying40 inf131 rfl dd dd dd (.c (x:=((((1000000000+(Big.digs a).getD i 0) - (Big.digs b).getD i 0) - bo)%1000000000)) rfl rfl (fun _ _=>by exact zG.2 om) .n)) (fun b3 _=> ?_)
  refine zqa 0 rfl .z<|zdb 1 rfl rfl rfl (zRa 0 rfl Tryz.underlying40 inf131 dd rfl rfl cbs rfl cbs om om) (fun _=>(.s .z)) ?_
  rintro ⟨p4,c5⟩ -
  dsimp only [aq,nq,cq]
  refine e_p (zh rfl)<|zk<|zg<|zc<|e_mv rfl<|e_p (zUa (z:=((((1000000000+(Big.digs a).getD i 0) - (Big.digs b).getD i 0) - bo) / 1000000000)) rfl rfl om (by rw [quoN (z:=((((1000000000+(Big.digs a).getD i 0) - (Big.digs b).getD i 0) - bo) / 1000000000)) om om];exact wu64 om))<|e_p (zka (z:=(1 - ((((1000000000+(Big.digs a).getD i 0) - (Big.digs b).getD i 0) - bo) / 1000000000))) rfl rfl (wu64 om))<|e_p (zh rfl)<|zk<|zK<|zg<|zc<|e_mv rfl<|e_p (zJ (z:=(((i+1):Nat):Int)) rfl rfl (w64 om))<|e_p (zh rfl)<|zk<|zxa ((i+1),p4,c5,os++[(1000000000+(Big.digs a).getD i 0 - (Big.digs b).getD i 0 - bo)%1000000000],1 - (1000000000+(Big.digs a).getD i 0 - (Big.digs b).getD i 0 - bo) / 1000000000) (show (i+1)≤(Big.digs a).length∧(os++[(1000000000+(Big.digs a).getD i 0 - (Big.digs b).getD i 0 - bo)%1000000000]).length=(i+1)∧0≤(1 - (1000000000+(Big.digs a).getD i 0 - (Big.digs b).getD i 0 - bo) / 1000000000)∧(1 - (1000000000+(Big.digs a).getD i 0 - (Big.digs b).getD i 0 - bo) / 1000000000)≤1∧Big.okL (os++[(1000000000+(Big.digs a).getD i 0 - (Big.digs b).getD i 0 - bo)%1000000000])∧Big.valL (os++[(1000000000+(Big.digs a).getD i 0 - (Big.digs b).getD i 0 - bo)%1000000000])+Big.valL ((Big.digs b).take (i+1))=Big.valL ((Big.digs a).take (i+1))+Big.pw (i+1)*(1 - (1000000000+(Big.digs a).getD i 0 - (Big.digs b).getD i 0 - bo) / 1000000000) from by exact ⟨by omega,by simp [hol],by omega,by omega,Big.okL_snoc hok om om,Big.minus_step hol hv om⟩) (by show (Big.digs a).length - (i+1)<(Big.digs a).length - i;omega) ((.e rfl (by first|rfl|(congr 1;omega)|simp_all) (.e rfl (by simp) (.of rfl))):SubM _ _) (ho:=((.e (i:=1) rfl (by first|rfl|(congr 1;omega)|simp_all) .n):PickO _ _ _)) ((.of [1,2] rfl):SelR _ _ _)
 ·
  have htr:Big.trimL os=Big.digs (a - b):=Big.minus_fin hab hok hc0 hol om hv
  have hfin:(Big.sg false (Big.valL os)).natAbs=a - b:=by rw [Big.sg_abs (Big.valL_nonneg hok)];have:=congrArg Big.valL htr;rw [Big.valL_trim,Big.valL_digs] at this;omega
  refine zpa<|zn<|zn<|zD<|zg<|zj<|zc<|e_mv rfl<|zqa 0 rfl .z<|zE rfl rfl (.c rfl (.c rfl .n)) ce91 (zWa (s:=false) (p:=p) (n:=os.length) (cap:=c) (l:=os) (hn:=by first|rfl|omega|(simp;done)|(simp;omega)) (ho:=by exact hok) (hln:=by first|rfl|omega|(simp;done)|(simp;omega))) (.c (j:=0) rfl .n) ?_
  rintro ⟨p26,c27⟩ -
  dsimp only [aq,nq,cq]
  refine e_p (zKa Tryz.underlying42 rfl ty40 rfl rfl)<|e_p (zh rfl)<|zk<|zg<|zO ?_
  exact zL Tryz.results94 (p26,c27) trivial (zB rfl) (by rw [hfin]) (ho:=(.n:PickO _ _ _)) ((.e (j:=0) rfl (by rw [hfin]) .n):SelR _ _ _)
theorem zbd {a:Nat} {b:Nat} {p1:Option Addr} {c1:Nat} {p2:Option Addr} {c2:Nat}:Con Tryz.prog 93 [.slice p1 ((Big.digs a).length) c1,.slice p2 ((Big.digs b).length) c2] [] [slF (rI .u32) p1 c1 (Big.digs a),slF (rI .u32) p2 c2 (Big.digs b)] (Y:=Unit) (fun y=>True) (fun y=> .int .i64 (Big.cmp (a:Int) (b:Int))) (fun y=>[]) (fun y=>[]):=by
 refine zw Tryz.func93 rfl rfl rfl (fun c=> ?_)
 show RunC _ _ _ _ _ [(0,.slice p1 ((Big.digs a).length) c1),(1,.slice p2 ((Big.digs b).length) c2)] [] [slF (rI .u32) p1 c1 (Big.digs a),slF (rI .u32) p2 c2 (Big.digs b)]
 refine zta 0 rfl (fun hL0=> ?_)
 refine zta 1 rfl (fun hL1=> ?_)
 refine zj<|zc<|e_p (zh rfl)<|zk<|zg<|zj<|zj<|zc<|e_mv rfl<|e_p (zea Tryz.underlying40 rfl)<|e_mv rfl<|e_p (zea Tryz.underlying40 rfl)<|e_p (zhb rfl rfl)<|zk<|zg<|zP rfl (fun hlen=> ?_) (fun hlen=> ?_)
 ·
  refine zj<|zj<|zc<|e_mv rfl<|e_p (zea Tryz.underlying40 rfl)<|e_mv rfl<|e_p (zea Tryz.underlying40 rfl)<|e_p (zV rfl rfl)<|zk<|zg<|zP rfl (fun hll=> ?_) (fun hll=> ?_)
  ·
   refine zj<|zc<|e_p (zh rfl)<|zk<|zg<|zO<|zt<|zt ?_
   exact zL Tryz.results93 () trivial (zB rfl) (by rw [← Big.cmp_len om,Big.cmp_lt om]) (ho:=(.n:PickO _ _ _)) (.n:SelR _ _ _)
  ·
   refine zx<|zg<|zj<|zc<|e_p (zh rfl)<|zk<|zg<|zO<|zt ?_
   exact zL Tryz.results93 () trivial (zB rfl) (by rw [← Big.cmp_len om,Big.cmp_gt om]) (ho:=(.n:PickO _ _ _)) (.n:SelR _ _ _)
 ·
  replace hlen:(Big.digs a).length=(Big.digs b).length:=by omega
  refine zx<|zg<|zj<|zj<|zc<|e_mv rfl<|e_p (zea Tryz.underlying40 rfl)<|e_p (zka (z:=((((Big.digs a).length:Nat):Int) - 1)) rfl rfl (w64 om))<|e_p (zh rfl)<|zk<|zg<|zv<|zya (X:=Nat) (fun x:Nat=>x≤(Big.digs a).length∧(Big.digs a).drop x=(Big.digs b).drop x) (fun x=>[(5,.int .i64 (((x:Nat):Int) - 1)),(0,.slice p1 ((Big.digs a).length) c1),(1,.slice p2 ((Big.digs b).length) c2)]) (fun x=>[]) (fun x=>[slF (rI .u32) p1 c1 (Big.digs a),slF (rI .u32) p2 c2 (Big.digs b)]) (fun x:Nat=>x) ((Big.digs a).length) (show ((Big.digs a).length)≤(Big.digs a).length∧(Big.digs a).drop ((Big.digs a).length)=(Big.digs b).drop ((Big.digs a).length) from by exact ⟨Nat.le_refl _,by rw [List.drop_length,hlen,List.drop_length]⟩) ((.e rfl (by first|rfl|(congr 1;omega)|simp_all) (.c rfl (.c rfl .n))):SubM _ _) (ho:=(.n:PickO _ _ _)) ((.of [0,1] rfl):SelR _ _ _) ?_
  rintro j hI
  replace hI:j≤(Big.digs a).length∧(Big.digs a).drop j=(Big.digs b).drop j:=hI
  try dsimp only
  obtain ⟨hj,hd⟩:=hI
  refine zj<|zj<|zc<|e_mv rfl<|e_p (zsb rfl rfl)<|zk<|zg<|zP rfl (fun h1=> ?_) (fun h1=> ?_)
  ·
   obtain ⟨k,rfl⟩:∃k,j=k+1:=⟨j - 1,by omega⟩
   have e2:(((((k+1):Nat):Int) - 1):Int)=((k:Nat):Int):=by omega
   rw [e2]
   refine zx<|zg<|zj<|zv<|zj<|zj<|zT (OW:=[]) (O:=[]) 100000 mixed (.then (.then (.block (.then (.then (.block (.then .ret))))))) kr<|e_dm 0 rfl rfl rfl<|e_dm 1 rfl rfl rfl<|zSa (x0:=((Big.digs a).getD k 0)) 2 rfl rfl kr kr 0 k rfl Tryz.underlying40 sz131 rfl rfl rfl cbs rfl rfl (gD (d:=0) om) (fun b3 o4 hok5=> ?_)
   replace hok5:=zG.1 hok5
   refine e_u 3 rfl rfl (zA (j:=0) 0 ty131 rfl rfl rfl rfl)<|e_dm 4 rfl rfl rfl<|e_dm 5 rfl rfl rfl<|zSa (x0:=((Big.digs b).getD k 0)) 6 rfl rfl kr kr 2 k rfl Tryz.underlying40 sz131 rfl rfl rfl cbs rfl rfl (gD (d:=0) om) (fun b6 o7 hok8=> ?_)
   replace hok8:=zG.1 hok8
   refine e_u 7 rfl rfl (zA (j:=0) 0 ty131 rfl rfl rfl rfl)<|e_pv 8 rfl rfl (zV rfl rfl)<|zQ kr<|zg<|zP rfl (fun hlt=> ?_) (fun hlt=> ?_)
   ·
    refine zj<|zc<|e_p (zh rfl)<|zk<|zg<|zO<|zt<|zda<|zt<|zt<|zda<|zt ?_
    exact zL Tryz.results93 () trivial (zB rfl) (by rw [← Big.cmp_at hlen om hd om,Big.cmp_lt om]) (ho:=(.n:PickO _ _ _)) (.n:SelR _ _ _)
   ·
    refine zx<|zg<|zj<|zT (OW:=[]) (O:=[]) 100000 mixed (.then (.block (.then (.then (.block (.then .ret)))))) kr<|e_dm 0 rfl rfl rfl<|e_dm 1 rfl rfl rfl<|zSa (x0:=((Big.digs a).getD k 0)) 2 rfl rfl kr kr 2 k rfl Tryz.underlying40 sz131 rfl rfl rfl cbs rfl rfl (gD (d:=0) om) (fun b9 o10 hok11=> ?_)
    replace hok11:=zG.1 hok11
    refine e_u 3 rfl rfl (zA (j:=0) 0 ty131 rfl rfl rfl rfl)<|e_dm 4 rfl rfl rfl<|e_dm 5 rfl rfl rfl<|zSa (x0:=((Big.digs b).getD k 0)) 6 rfl rfl kr kr 4 k rfl Tryz.underlying40 sz131 rfl rfl rfl cbs rfl rfl (gD (d:=0) om) (fun b12 o13 hok14=> ?_)
    replace hok14:=zG.1 hok14
    refine e_u 7 rfl rfl (zA (j:=0) 0 ty131 rfl rfl rfl rfl)<|e_pv 8 rfl rfl (zYa rfl rfl)<|zQ kr<|zg<|zP rfl (fun hgt=> ?_) (fun hgt=> ?_)
    ·
     refine zj<|zc<|e_p (zh rfl)<|zk<|zg<|zO<|zda<|zt<|zt<|zda<|zt ?_
     exact zL Tryz.results93 () trivial (zB rfl) (by rw [← Big.cmp_at hlen om hd om,Big.cmp_gt om]) (ho:=(.n:PickO _ _ _)) (.n:SelR _ _ _)
    ·
     refine zx<|zK<|zg<|zc<|e_mv rfl<|e_p (zka (z:=(((k:Nat):Int) - 1)) rfl rfl (w64 om))<|e_p (zh rfl)<|zk<|zxa k (show k≤(Big.digs a).length∧(Big.digs a).drop k=(Big.digs b).drop k from by exact ⟨by omega,Big.drop_more om om hd om⟩) (by show k<k+1;omega) ((.of rfl):SubM _ _) (ho:=(.n:PickO _ _ _)) ((.of [4,5] rfl):SelR _ _ _)
  ·
   refine zpa<|zn<|zn<|zD<|zg<|zj<|zc<|e_p (zh rfl)<|zk<|zg<|zO ?_
   have hj0:j=0:=by omega
   subst hj0
   have heq:=Big.cmp_eq (show Big.digs a=Big.digs b by simpa using hd)
   exact zL Tryz.results93 () trivial (zB rfl) (by rw [heq] <;> simp [Big.cmp]) (ho:=(.n:PickO _ _ _)) (.n:SelR _ _ _)
theorem zse {s:Bool} {p:Option Addr} {n:Nat} {cap:Nat} {l:List Int} (hn:l.length=n) (hln:n≤1099511627776):Con Tryz.prog 88 [.agg #[.bool s,.slice p n cap]] [] [slF (rI .u32) p cap l] (Y:=(Option Addr)×Nat) (fun y=>True) (fun y=> .agg #[.bool (decide ((- Big.raw s l)<0)),.slice (y.1) ((Big.digs ((- Big.raw s l).natAbs)).length) (y.2)]) (fun y=>[]) (fun y=>[slF (rI .u32) (y.1) (y.2) (Big.digs ((- Big.raw s l).natAbs))]):=by
 refine zw Tryz.func88 rfl rfl rfl (fun c=> ?_)
 show RunC _ _ _ _ _ [(0,.agg #[.bool s,.slice p n cap])] [] [slF (rI .u32) p cap l]
 refine zta 0 rfl (fun hL0=> ?_)
 refine zib 0 rfl (fun hE0=> ?_)
 have hnn:Big.nn l:=fun g hg=>(zG.1 (hE0 g hg)).1
 have hb:Big.ln (Big.raw s l)≤n:=by have:=Big.zjb (s:=s) hnn;omega
 unfold Big.ln at hb
 refine zj<|zc<|zH rfl rfl (zba rfl rfl) (fun b1=> ?_)
 refine zH rfl rfl (zo zr42 rfl) (fun b2=> ?_)
 refine zk<|zg<|zj<|zc<|e_ru (ze 1 ty42 rfl rfl (.t2 .nil))<|zE rfl rfl (.c rfl .n) ce90 (zfb (s:=s) (p:=p) (n:=n) (cap:=cap) (l:=l) (hn:=ass) (hln:=ass)) (.c (j:=0) rfl .n) ?_
 rintro ⟨p23,c24⟩ -
 dsimp only [aq,nq,cq]
 refine zl 1 rfl rfl rfl rfl rfl sz42 rfl (.t2 .nil) (.s .z)<|zk<|zg<|zj<|zc<|e_p (zf Tryz.underlying42 rfl sz4 rfl rfl)<|e_ru (zd 1 ty4 rfl rfl rfl)<|e_p (zec rfl)<|e_p (zf Tryz.underlying42 rfl sz40 rfl rfl)<|e_ru (zd 1 ty40 rfl rfl rfl)<|zE rfl rfl (.c rfl (.c rfl .n)) ce91 (zyb (s:= !(decide ((Big.raw s l)<0))) (a:=(Big.raw s l).natAbs) (p:=p23) (cap:=c24) (hln:=cbb)) (.c (j:=0) rfl .n) ?_
 rintro ⟨p25,c26⟩ -
 dsimp only [aq,nq,cq]
 refine zl 0 rfl rfl rfl rfl rfl sz42 rfl (.t2 .nil) .z<|zk<|zg<|zO ?_
 have hz:Big.sg (!decide (Big.raw s l<0)) ((Big.raw s l).natAbs:Int)= - Big.raw s l:=by rw [Big.sg_not,Big.sg_big]
 exact zL Tryz.results88 (p25,c26) trivial (zr 0 ty42 rfl rfl (.t2 .nil)) (by rw [hz]) (ho:=(.n:PickO _ _ _)) ((.e (j:=0) rfl (by rw [hz]) .n):SelR _ _ _)
theorem zcf {z:Int} {p:Option Addr} {cap:Nat} (hln:Big.ln z≤1099511627776):Con Tryz.prog 88 [.agg #[.bool (decide ((z)<0)),.slice (p) ((Big.digs ((z).natAbs)).length) (cap)]] [] [slF (rI .u32) (p) (cap) (Big.digs ((z).natAbs))] (Y:=(Option Addr)×(Nat)) (fun y=>True) (fun y=> .agg #[.bool (decide ((- z)<0)),.slice (y.1) ((Big.digs ((- z).natAbs)).length) (y.2)]) (fun y=>[]) (fun y=>[slF (rI .u32) (y.1) (y.2) (Big.digs ((- z).natAbs))]):=by
  have h:= @zse (decide ((z)<0)) p (Big.digs (z).natAbs).length cap (Big.digs (z).natAbs) rfl hln
  rw [Big.raw_big] at h
  exact h
theorem zVd {w1:Wd} {x1:Int} (hln:Big.ln x1≤1099511627776):Con Tryz.prog 88 [.agg #[w1.b,w1.l]] [] [zF w1 (x1)] (Y:=(Wd)) (fun y=>True) (fun y=> .agg #[y.b,y.l]) (fun y=>[]) (fun y=>[zF y (- x1)]):=by
  exact zic (zNd (fun p c=>zcf hln))
theorem zWd {s:Bool} {p:Option Addr} {n:Nat} {cap:Nat} {l:List Int} (hn:l.length=n) (hln:n≤1099511627776):Con Tryz.prog 66 [.agg #[.bool s,.slice p n cap]] [] [slF (rI .u32) p cap l] (Y:=Unit) (fun y=>True) (fun y=> .int .i64 ((Big.raw s l).sign)) (fun y=>[]) (fun y=>[]):=by
 refine zw Tryz.func66 rfl rfl rfl (fun c=> ?_)
 show RunC _ _ _ _ _ [(0,.agg #[.bool s,.slice p n cap])] [] [slF (rI .u32) p cap l]
 refine zta 0 rfl (fun hL0=> ?_)
 refine zib 0 rfl (fun hE0=> ?_)
 have hnn:Big.nn l:=fun g hg=>(zG.1 (hE0 g hg)).1
 refine zj<|zc<|zH rfl rfl (zba rfl rfl) (fun b1=> ?_)
 refine e_p (zh rfl)<|zk<|zg<|zj<|zc<|e_ru (ze 0 ty42 rfl rfl (.t2 .nil))<|zE rfl rfl (.c rfl .n) ce90 (zfb (s:=s) (p:=p) (n:=n) (cap:=cap) (l:=l) (hn:=ass) (hln:=ass)) (.c (j:=0) rfl .n) ?_
 rintro ⟨p22,c23⟩ -
 dsimp only [aq,nq,cq]
 refine zl 0 rfl rfl rfl rfl rfl sz42 rfl (.t2 .nil) .z<|zk<|zg<|zj<|zj<|zc<|e_p (zf Tryz.underlying42 rfl sz40 rfl rfl)<|e_ru (zd 0 ty40 rfl rfl rfl)<|e_p (zea Tryz.underlying40 rfl)<|e_p (zIa rfl rfl)<|zk<|zg<|zP rfl (fun h0=> ?_) (fun h0=> ?_)
 ·
  refine zj<|zc<|e_p (zh rfl)<|zk<|zg<|zO<|zt ?_
  exact zL Tryz.results66 () trivial (zB rfl) (by rw [show Big.raw s l=0 by have:=Big.len_digs_nil.1 (show (Big.digs (Big.raw s l).natAbs).length=0 by omega);omega];rfl) (ho:=(.n:PickO _ _ _)) (.n:SelR _ _ _)
 ·
  refine zx<|zg<|zj<|zj<|zc<|e_p (zf Tryz.underlying42 rfl sz4 rfl rfl)<|e_ru (zd 0 ty4 rfl rfl rfl)<|zk<|zg<|zkb rfl (fun hs=> ?_) (fun hs=> ?_)
  ·
   refine zj<|zc<|e_p (zh rfl)<|zk<|zg<|zO<|zt ?_
   exact zL Tryz.results66 () trivial (zB rfl) (by rw [Int.sign_eq_neg_one_of_neg (by simpa using hs)]) (ho:=(.n:PickO _ _ _)) (.n:SelR _ _ _)
  ·
   refine zx<|zg<|zj<|zc<|e_p (zh rfl)<|zk<|zg<|zO ?_
   exact zL Tryz.results66 () trivial (zB rfl) (by rw [Int.sign_eq_one_of_pos (by have h2:¬Big.raw s l<0:=(by simpa using hs);have:(Big.raw s l).natAbs≠0:=(fun e=>h0 (by rw [e];rfl));omega)]) (ho:=(.n:PickO _ _ _)) (.n:SelR _ _ _)
theorem znd {z:Int} {p:Option Addr} {cap:Nat} (hln:Big.ln z≤1099511627776):Con Tryz.prog 66 [.agg #[.bool (decide ((z)<0)),.slice (p) ((Big.digs ((z).natAbs)).length) (cap)]] [] [slF (rI .u32) (p) (cap) (Big.digs ((z).natAbs))] (Y:=Unit) (fun y=>True) (fun y=> .int .i64 ((z).sign)) (fun y=>[]) (fun y=>[]):=by
  have h:= @zWd (decide ((z)<0)) p (Big.digs (z).natAbs).length cap (Big.digs (z).natAbs) rfl hln
  rw [Big.raw_big] at h
  exact h
theorem zDc {w1:Wd} {x1:Int} (hln:Big.ln x1≤1099511627776):Con Tryz.prog 66 [.agg #[w1.b,w1.l]] [] [zF w1 (x1)] (Y:=Unit) (fun y=>True) (fun y=> .int .i64 ((x1).sign)) (fun y=>[]) (fun y=>[]):=by
  exact zNd (fun p c=>znd hln)
theorem zte {s:Bool} {p1:Option Addr} {n1:Nat} {c1:Nat} {l1:List Int} {t:Bool} {p2:Option Addr} {n2:Nat} {c2:Nat} {l2:List Int} (hn1:l1.length=n1) (hn2:l2.length=n2) (hm1:n1≤1099511627776) (hm2:n2≤1099511627776):Con Tryz.prog 59 [.agg #[.bool s,.slice p1 n1 c1],.agg #[.bool t,.slice p2 n2 c2]] [] [slF (rI .u32) p1 c1 l1,slF (rI .u32) p2 c2 l2] (Y:=(Option Addr)×Nat) (fun y=>True) (fun y=> .agg #[.bool (decide ((Big.raw s l1+Big.raw t l2)<0)),.slice (y.1) ((Big.digs ((Big.raw s l1+Big.raw t l2).natAbs)).length) (y.2)]) (fun y=>[]) (fun y=>[slF (rI .u32) (y.1) (y.2) (Big.digs ((Big.raw s l1+Big.raw t l2).natAbs))]):=by
 refine zw Tryz.func59 rfl rfl rfl (fun c=> ?_)
 show RunC _ _ _ _ _ [(0,.agg #[.bool s,.slice p1 n1 c1]),(1,.agg #[.bool t,.slice p2 n2 c2])] [] [slF (rI .u32) p1 c1 l1,slF (rI .u32) p2 c2 l2]
 refine zta 0 rfl (fun hL0=> ?_)
 refine zib 0 rfl (fun hE0=> ?_)
 refine zta 1 rfl (fun hL1=> ?_)
 refine zib 1 rfl (fun hE1=> ?_)
 have hnn1:Big.nn l1:=fun g hg=>(zG.1 (hE0 g hg)).1
 have hnn2:Big.nn l2:=fun g hg=>(zG.1 (hE1 g hg)).1
 have hb1:Big.ln (Big.raw s l1)≤n1:=by have:=Big.zjb (s:=s) hnn1;omega
 have hb2:Big.ln (Big.raw t l2)≤n2:=by have:=Big.zjb (s:=t) hnn2;omega
 unfold Big.ln at hb1 hb2
 refine zj<|zc<|zH rfl rfl (zba rfl rfl) (fun b1=> ?_)
 refine zH rfl rfl (zba rfl rfl) (fun b2=> ?_)
 refine zH rfl rfl (zo zr42 rfl) (fun b3=> ?_)
 refine zk<|zg<|zj<|zca (.c (i:=2) rfl (.c (i:=1) rfl (.c (i:=0) rfl .n)))<|zT (OW:=[boxA b1 42 [.bool s,.slice p1 n1 c1],boxA b2 42 [.bool t,.slice p2 n2 c2]]) (O:=[boxA b3 42 [wz.b,wz.l]]) 4 mixed (.then .ret) kr<|e_uw 0 rfl rfl (ze 0 ty42 rfl rfl (.t2 .nil))<|e_uw 2 rfl rfl (ze 1 ty42 rfl rfl (.t2 .nil))<|e_one 1 (zm rfl rfl rfl rfl (.c rfl .n) ce90 (zfb (s:=s) (p:=p1) (n:=n1) (cap:=c1) (l:=l1) (hn:=ass) (hln:=ass)) (.c (j:=0) rfl .n) ?_)
 rintro ⟨p24,c25⟩ -
 dsimp only [aq,nq,cq]
 refine e_one 3 (zm rfl rfl rfl rfl (.c rfl .n) ce90 (zfb (s:=t) (p:=p2) (n:=n2) (cap:=c2) (l:=l2) (hn:=ass) (hln:=ass)) (.c (j:=2) rfl .n) ?_)
 rintro ⟨p26,c27⟩ -
 dsimp only [aq,nq,cq]
 refine e_one 4 (zp kr rfl rfl rfl rfl rfl sz42 rfl (.t2 .nil) ?_)
 refine zab (zla (i:=1) rfl)<|e_one 5 (zp kr rfl rfl rfl rfl rfl sz42 rfl (.t2 .nil) ?_)
 refine zQ kr<|zg<|zj<|zj<|zc<|e_p (zf Tryz.underlying42 rfl sz4 rfl rfl)<|e_ru (zd 1 ty4 rfl rfl rfl)<|e_p (zf Tryz.underlying42 rfl sz4 rfl rfl)<|e_ru (zd 0 ty4 rfl rfl rfl)<|e_p (zRc Tryz.underlying4 rfl rfl)<|zk<|zg<|zP rfl (fun hst=> ?_) (fun hst=> ?_)
 ·
  refine zj<|zca (.c (i:=2) rfl (.c (i:=0) rfl (.c (i:=0) rfl .n)))<|zT (OW:=[boxA b3 42 [wz.b,wz.l]]) (O:=[boxA b2 42 [.bool (decide ((Big.raw t l2)<0)),.slice p26 ((Big.digs ((Big.raw t l2).natAbs)).length) c27],boxA b1 42 [.bool (decide ((Big.raw s l1)<0)),.slice p24 ((Big.digs ((Big.raw s l1).natAbs)).length) c25]]) 8 mixed (.then (.then .ret)) kr<|e_pv 0 rfl rfl (zf Tryz.underlying42 rfl sz4 rfl rfl)<|e_uw 1 rfl rfl (zd 2 ty4 rfl rfl rfl)<|e_pv 2 rfl rfl (zf Tryz.underlying42 rfl sz40 rfl rfl)<|e_uw 3 rfl rfl (zd 2 ty40 rfl rfl rfl)<|e_pv 4 rfl rfl (zf Tryz.underlying42 rfl sz40 rfl rfl)<|e_uw 5 rfl rfl (zd 1 ty40 rfl rfl rfl)<|e_one 6 (zm rfl rfl rfl rfl (.c rfl (.c rfl .n)) ce92 (zbf (a:=(Big.raw s l1).natAbs) (b:=(Big.raw t l2).natAbs) (p1:=p24) (c1:=c25) (p2:=p26) (c2:=c27) (hb1:=by first|rfl|assumption|omega|(unfold Big.ln;omega)|(simp;done)|(simp;omega)|(simp_all;done)) (hb2:=by first|rfl|assumption|omega|(unfold Big.ln;omega)|(simp;done)|(simp;omega)|(simp_all;done))) (.c (j:=1) rfl (.c (j:=0) rfl .n)) ?_)
  rintro ⟨p38,c39⟩ -
  dsimp only [aq,nq,cq]
  refine e_one 7 (zm rfl rfl rfl rfl (.c rfl (.c rfl .n)) ce91 (zyb (s:=decide ((Big.raw s l1)<0)) (a:=((Big.raw s l1).natAbs)+((Big.raw t l2).natAbs)) (p:=p38) (cap:=c39) (hln:=by have:=Big.len_add (Big.raw s l1).natAbs (Big.raw t l2).natAbs;omega)) (.c (j:=0) rfl .n) ?_)
  rintro ⟨p210,c211⟩ -
  dsimp only [aq,nq,cq]
  refine e_one 8 (zp kr rfl rfl rfl rfl rfl sz42 rfl (.t2 .nil) ?_)
  refine zQ kr<|zg<|zO<|zt ?_
  have hz:=Big.add_same hst
  exact zL Tryz.results59 (p210,c211) trivial (zr 0 ty42 rfl rfl (.t2 .nil)) (by rw [hz]) (ho:=(.n:PickO _ _ _)) ((.e (j:=0) rfl (by rw [hz]) .n):SelR _ _ _)
 ·
  refine zx<|zg<|zj<|zj<|zc<|e_p (zf Tryz.underlying42 rfl sz40 rfl rfl)<|e_ru (zd 1 ty40 rfl rfl rfl)<|e_p (zf Tryz.underlying42 rfl sz40 rfl rfl)<|e_ru (zd 0 ty40 rfl rfl rfl)<|zR rfl rfl (.c rfl (.c rfl .n)) ce93 (zbd (a:=(Big.raw s l1).natAbs) (b:=(Big.raw t l2).natAbs) (p1:=p24) (c1:=c25) (p2:=p26) (c2:=c27)) (.c (j:=1) rfl (.c (j:=0) rfl .n))<|e_p (zsb rfl rfl)<|zk<|zg<|zP rfl (fun hcmp=> ?_) (fun hcmp=> ?_)
  ·
   have hab:(Big.raw t l2).natAbs≤(Big.raw s l1).natAbs:=by have:=Big.cmp_ge.1 hcmp;omega
   refine zj<|zca (.c (i:=2) rfl (.c (i:=0) rfl (.c (i:=0) rfl .n)))<|zT (OW:=[boxA b3 42 [wz.b,wz.l]]) (O:=[boxA b2 42 [.bool (decide ((Big.raw t l2)<0)),.slice p26 ((Big.digs ((Big.raw t l2).natAbs)).length) c27],boxA b1 42 [.bool (decide ((Big.raw s l1)<0)),.slice p24 ((Big.digs ((Big.raw s l1).natAbs)).length) c25]]) 8 mixed (.then (.then .ret)) kr<|e_pv 0 rfl rfl (zf Tryz.underlying42 rfl sz4 rfl rfl)<|e_uw 1 rfl rfl (zd 2 ty4 rfl rfl rfl)<|e_pv 2 rfl rfl (zf Tryz.underlying42 rfl sz40 rfl rfl)<|e_uw 3 rfl rfl (zd 2 ty40 rfl rfl rfl)<|e_pv 4 rfl rfl (zf Tryz.underlying42 rfl sz40 rfl rfl)<|e_uw 5 rfl rfl (zd 1 ty40 rfl rfl rfl)<|e_one 6 (zm rfl rfl rfl rfl (.c rfl (.c rfl .n)) ce94 (zbc (a:=(Big.raw s l1).natAbs) (b:=(Big.raw t l2).natAbs) (p1:=p24) (c1:=c25) (p2:=p26) (c2:=c27) (hb1:=by first|rfl|assumption|omega|(unfold Big.ln;omega)|(simp;done)|(simp;omega)|(simp_all;done)) (hb2:=by first|rfl|assumption|omega|(unfold Big.ln;omega)|(simp;done)|(simp;omega)|(simp_all;done)) (hab:=by first|rfl|assumption|omega|(unfold Big.ln;omega)|(simp;done)|(simp;omega)|(simp_all;done))) (.c (j:=1) rfl (.c (j:=0) rfl .n)) ?_)
   rintro ⟨p312,c313⟩ -
   dsimp only [aq,nq,cq]
   refine e_one 7 (zm rfl rfl rfl rfl (.c rfl (.c rfl .n)) ce91 (zyb (s:=decide ((Big.raw s l1)<0)) (a:=((Big.raw s l1).natAbs) - ((Big.raw t l2).natAbs)) (p:=p312) (cap:=c313) (hln:=by have:=Big.len_sub (Big.raw s l1).natAbs (Big.raw t l2).natAbs;omega)) (.c (j:=0) rfl .n) ?_)
   rintro ⟨p214,c215⟩ -
   dsimp only [aq,nq,cq]
   refine e_one 8 (zp kr rfl rfl rfl rfl rfl sz42 rfl (.t2 .nil) ?_)
   refine zQ kr<|zg<|zO<|zt ?_
   have hz:=Big.add_ge hst hab
   exact zL Tryz.results59 (p214,c215) trivial (zr 0 ty42 rfl rfl (.t2 .nil)) (by rw [hz]) (ho:=(.n:PickO _ _ _)) ((.e (j:=0) rfl (by rw [hz]) .n):SelR _ _ _)
  ·
   have hab:(Big.raw s l1).natAbs≤(Big.raw t l2).natAbs:=by have:¬((Big.raw t l2).natAbs:Int)≤(Big.raw s l1).natAbs:=fun h=>hcmp (Big.cmp_ge.2 h);omega
   refine zx<|zg<|zj<|zca (.c (i:=2) rfl (.c (i:=0) rfl (.c (i:=0) rfl .n)))<|zT (OW:=[boxA b3 42 [wz.b,wz.l]]) (O:=[boxA b2 42 [.bool (decide ((Big.raw t l2)<0)),.slice p26 ((Big.digs ((Big.raw t l2).natAbs)).length) c27],boxA b1 42 [.bool (decide ((Big.raw s l1)<0)),.slice p24 ((Big.digs ((Big.raw s l1).natAbs)).length) c25]]) 8 mixed (.then .ret) kr<|e_pv 0 rfl rfl (zf Tryz.underlying42 rfl sz4 rfl rfl)<|e_uw 1 rfl rfl (zd 1 ty4 rfl rfl rfl)<|e_pv 2 rfl rfl (zf Tryz.underlying42 rfl sz40 rfl rfl)<|e_uw 3 rfl rfl (zd 1 ty40 rfl rfl rfl)<|e_pv 4 rfl rfl (zf Tryz.underlying42 rfl sz40 rfl rfl)<|e_uw 5 rfl rfl (zd 2 ty40 rfl rfl rfl)<|e_one 6 (zm rfl rfl rfl rfl (.c rfl (.c rfl .n)) ce94 (zbc (a:=(Big.raw t l2).natAbs) (b:=(Big.raw s l1).natAbs) (p1:=p26) (c1:=c27) (p2:=p24) (c2:=c25) (hb1:=by first|rfl|assumption|omega|(unfold Big.ln;omega)|(simp;done)|(simp;omega)|(simp_all;done)) (hb2:=by first|rfl|assumption|omega|(unfold Big.ln;omega)|(simp;done)|(simp;omega)|(simp_all;done)) (hab:=by first|rfl|assumption|omega|(unfold Big.ln;omega)|(simp;done)|(simp;omega)|(simp_all;done))) (.c (j:=0) rfl (.c (j:=1) rfl .n)) ?_)
   rintro ⟨p316,c317⟩ -
   dsimp only [aq,nq,cq]
   refine e_one 7 (zm rfl rfl rfl rfl (.c rfl (.c rfl .n)) ce91 (zyb (s:=decide ((Big.raw t l2)<0)) (a:=((Big.raw t l2).natAbs) - ((Big.raw s l1).natAbs)) (p:=p316) (cap:=c317) (hln:=by have:=Big.len_sub (Big.raw t l2).natAbs (Big.raw s l1).natAbs;omega)) (.c (j:=0) rfl .n) ?_)
   rintro ⟨p218,c219⟩ -
   dsimp only [aq,nq,cq]
   refine e_one 8 (zp kr rfl rfl rfl rfl rfl sz42 rfl (.t2 .nil) ?_)
   refine zQ kr<|zg<|zO ?_
   have hz:=Big.add_lt hst hab
   exact zL Tryz.results59 (p218,c219) trivial (zr 0 ty42 rfl rfl (.t2 .nil)) (by rw [hz]) (ho:=(.n:PickO _ _ _)) ((.e (j:=0) rfl (by rw [hz]) .n):SelR _ _ _)
theorem zdf {x1:Int} {x2:Int} {p1:Option Addr} {c1:Nat} {p2:Option Addr} {c2:Nat} (hb1:Big.ln x1≤1099511627776) (hb2:Big.ln x2≤1099511627776):Con Tryz.prog 59 [.agg #[.bool (decide ((x1)<0)),.slice (p1) ((Big.digs ((x1).natAbs)).length) (c1)],.agg #[.bool (decide ((x2)<0)),.slice (p2) ((Big.digs ((x2).natAbs)).length) (c2)]] [] [slF (rI .u32) (p1) (c1) (Big.digs ((x1).natAbs)),slF (rI .u32) (p2) (c2) (Big.digs ((x2).natAbs))] (Y:=(Option Addr)×(Nat)) (fun y=>True) (fun y=> .agg #[.bool (decide ((x1+x2)<0)),.slice (y.1) ((Big.digs ((x1+x2).natAbs)).length) (y.2)]) (fun y=>[]) (fun y=>[slF (rI .u32) (y.1) (y.2) (Big.digs ((x1+x2).natAbs))]):=by
  have h:= @zte (decide ((x1)<0)) p1 (Big.digs (x1).natAbs).length c1 (Big.digs (x1).natAbs) (decide ((x2)<0)) p2 (Big.digs (x2).natAbs).length c2 (Big.digs (x2).natAbs) rfl rfl hb1 hb2
  rw [Big.raw_big,Big.raw_big] at h
  exact h
theorem zef {w1:Wd} {w2:Wd} {x1:Int} {x2:Int} (hb1:Big.ln x1≤1099511627776) (hb2:Big.ln x2≤1099511627776):Con Tryz.prog 59 [.agg #[w1.b,w1.l],.agg #[w2.b,w2.l]] [] [zF w1 (x1),zF w2 (x2)] (Y:=(Wd)) (fun y=>True) (fun y=> .agg #[y.b,y.l]) (fun y=>[]) (fun y=>[zF y (x1+x2)]):=by
  exact zic (zKc (fun p1 c1 p2 c2=>zdf hb1 hb2))
theorem zue {s:Bool} {p1:Option Addr} {n1:Nat} {c1:Nat} {l1:List Int} {t:Bool} {p2:Option Addr} {n2:Nat} {c2:Nat} {l2:List Int} (hn1:l1.length=n1) (hn2:l2.length=n2) (hm1:n1≤1099511627776) (hm2:n2≤1099511627776):Con Tryz.prog 98 [.agg #[.bool s,.slice p1 n1 c1],.agg #[.bool t,.slice p2 n2 c2]] [] [slF (rI .u32) p1 c1 l1,slF (rI .u32) p2 c2 l2] (Y:=(Option Addr)×Nat) (fun y=>True) (fun y=> .agg #[.bool (decide ((Big.raw s l1 - Big.raw t l2)<0)),.slice (y.1) ((Big.digs ((Big.raw s l1 - Big.raw t l2).natAbs)).length) (y.2)]) (fun y=>[]) (fun y=>[slF (rI .u32) (y.1) (y.2) (Big.digs ((Big.raw s l1 - Big.raw t l2).natAbs))]):=by
 refine zw Tryz.func98 rfl rfl rfl (fun c=> ?_)
 show RunC _ _ _ _ _ [(0,.agg #[.bool s,.slice p1 n1 c1]),(1,.agg #[.bool t,.slice p2 n2 c2])] [] [slF (rI .u32) p1 c1 l1,slF (rI .u32) p2 c2 l2]
 refine zta 0 rfl (fun hL0=> ?_)
 refine zib 0 rfl (fun hE0=> ?_)
 refine zta 1 rfl (fun hL1=> ?_)
 refine zib 1 rfl (fun hE1=> ?_)
 have hnn1:Big.nn l1:=fun g hg=>(zG.1 (hE0 g hg)).1
 have hnn2:Big.nn l2:=fun g hg=>(zG.1 (hE1 g hg)).1
 have hb1:Big.ln (Big.raw s l1)≤n1:=by have:=Big.zjb (s:=s) hnn1;omega
 have hb2:Big.ln (Big.raw t l2)≤n2:=by have:=Big.zjb (s:=t) hnn2;omega
 unfold Big.ln at hb1 hb2
 refine zj<|zc<|zH rfl rfl (zba rfl rfl) (fun b1=> ?_)
 refine zH rfl rfl (zba rfl rfl) (fun b2=> ?_)
 refine zH rfl rfl (zo zr42 rfl) (fun b3=> ?_)
 refine zk<|zg<|zj<|zT (OW:=[boxA b3 42 [wz.b,wz.l]]) (O:=[boxA b2 42 [.bool t,.slice p2 n2 c2],boxA b1 42 [.bool s,.slice p1 n1 c1]]) 4 mixed (.then .ret) kr<|e_uw 0 rfl rfl (ze 2 ty42 rfl rfl (.t2 .nil))<|e_uw 1 rfl rfl (ze 1 ty42 rfl rfl (.t2 .nil))<|e_one 2 (zm rfl rfl rfl rfl (.c rfl .n) ce88 (zse (s:=t) (p:=p2) (n:=n2) (cap:=c2) (l:=l2) (hn:=ass) (hln:=ass)) (.c (j:=1) rfl .n) ?_)
 rintro ⟨p24,c25⟩ -
 dsimp only [aq,nq,cq]
 refine e_one 3 (zm rfl rfl rfl rfl (.c rfl (.c rfl .n)) ce59 (zte (s:=s) (p1:=p1) (n1:=n1) (c1:=c1) (l1:=l1) (t:=decide ((- Big.raw t l2)<0)) (p2:=p24) (n2:=(Big.digs ((- Big.raw t l2).natAbs)).length) (c2:=c25) (l2:=Big.digs ((- Big.raw t l2).natAbs)) (hn1:=ass) (hn2:=by first|rfl|assumption|omega|(rw [Int.natAbs_neg];omega)) (hm1:=ass) (hm2:=by first|rfl|assumption|omega|(rw [Int.natAbs_neg];omega))) (.c (j:=1) rfl (.c (j:=0) rfl .n)) ?_)
 rintro ⟨p36,c37⟩ -
 dsimp only [aq,nq,cq]
 refine e_one 4 (zp kr rfl rfl rfl rfl rfl sz42 rfl (.t2 .nil) ?_)
 refine zQ kr<|zg<|zO ?_
 have hz:Big.raw s l1+Big.raw (decide ((- Big.raw t l2)<0)) (Big.digs (- Big.raw t l2).natAbs)=Big.raw s l1 - Big.raw t l2:=by rw [Big.raw_big];omega
 exact zL Tryz.results98 (p36,c37) trivial (zr 0 ty42 rfl rfl (.t2 .nil)) (by rw [hz]) (ho:=(.n:PickO _ _ _)) ((.e (j:=0) rfl (by rw [hz]) .n):SelR _ _ _)
theorem zvc {x1:Int} {x2:Int} {p1:Option Addr} {c1:Nat} {p2:Option Addr} {c2:Nat} (hb1:Big.ln x1≤1099511627776) (hb2:Big.ln x2≤1099511627776):Con Tryz.prog 98 [.agg #[.bool (decide ((x1)<0)),.slice (p1) ((Big.digs ((x1).natAbs)).length) (c1)],.agg #[.bool (decide ((x2)<0)),.slice (p2) ((Big.digs ((x2).natAbs)).length) (c2)]] [] [slF (rI .u32) (p1) (c1) (Big.digs ((x1).natAbs)),slF (rI .u32) (p2) (c2) (Big.digs ((x2).natAbs))] (Y:=(Option Addr)×(Nat)) (fun y=>True) (fun y=> .agg #[.bool (decide ((x1 - x2)<0)),.slice (y.1) ((Big.digs ((x1 - x2).natAbs)).length) (y.2)]) (fun y=>[]) (fun y=>[slF (rI .u32) (y.1) (y.2) (Big.digs ((x1 - x2).natAbs))]):=by
  have h:= @zue (decide ((x1)<0)) p1 (Big.digs (x1).natAbs).length c1 (Big.digs (x1).natAbs) (decide ((x2)<0)) p2 (Big.digs (x2).natAbs).length c2 (Big.digs (x2).natAbs) rfl rfl hb1 hb2
  rw [Big.raw_big,Big.raw_big] at h
  exact h
theorem zBf {s:Bool} {p1:Option Addr} {n1:Nat} {c1:Nat} {l1:List Int} {t:Bool} {p2:Option Addr} {n2:Nat} {c2:Nat} {l2:List Int} (hn1:l1.length=n1) (hn2:l2.length=n2) (hm1:n1≤1099511627776) (hm2:n2≤1099511627776):Con Tryz.prog 60 [.agg #[.bool s,.slice p1 n1 c1],.agg #[.bool t,.slice p2 n2 c2]] [] [slF (rI .u32) p1 c1 l1,slF (rI .u32) p2 c2 l2] (Y:=(Option Addr)×Nat) (fun y=>True) (fun y=> .agg #[.bool (decide ((Big.raw s l1*Big.raw t l2)<0)),.slice (y.1) ((Big.digs ((Big.raw s l1*Big.raw t l2).natAbs)).length) (y.2)]) (fun y=>[]) (fun y=>[slF (rI .u32) (y.1) (y.2) (Big.digs ((Big.raw s l1*Big.raw t l2).natAbs))]):=by
 refine zw Tryz.func60 rfl rfl rfl (fun c=> ?_)
 show RunC _ _ _ _ _ [(0,.agg #[.bool s,.slice p1 n1 c1]),(1,.agg #[.bool t,.slice p2 n2 c2])] [] [slF (rI .u32) p1 c1 l1,slF (rI .u32) p2 c2 l2]
 refine zta 0 rfl (fun hL0=> ?_)
 refine zib 0 rfl (fun hE0=> ?_)
 refine zta 1 rfl (fun hL1=> ?_)
 refine zib 1 rfl (fun hE1=> ?_)
 have hnn1:Big.nn l1:=fun g hg=>(zG.1 (hE0 g hg)).1
 have hnn2:Big.nn l2:=fun g hg=>(zG.1 (hE1 g hg)).1
 have hb1:Big.ln (Big.raw s l1)≤n1:=by have:=Big.zjb (s:=s) hnn1;omega
 have hb2:Big.ln (Big.raw t l2)≤n2:=by have:=Big.zjb (s:=t) hnn2;omega
 unfold Big.ln at hb1 hb2
 have hoa:=Big.digs_ok (Big.raw s l1).natAbs
 have hob:=Big.digs_ok (Big.raw t l2).natAbs
 refine zj<|zc<|zH rfl rfl (zba rfl rfl) (fun b1=> ?_)
 refine zH rfl rfl (zba rfl rfl) (fun b2=> ?_)
 refine zH rfl rfl (zo zr42 rfl) (fun b3=> ?_)
 refine zk<|zg<|zj<|zca (.c (i:=2) rfl (.c (i:=1) rfl (.c (i:=0) rfl .n)))<|zT (OW:=[boxA b1 42 [.bool s,.slice p1 n1 c1],boxA b2 42 [.bool t,.slice p2 n2 c2]]) (O:=[boxA b3 42 [wz.b,wz.l]]) 4 mixed (.then .ret) kr<|e_uw 0 rfl rfl (ze 0 ty42 rfl rfl (.t2 .nil))<|e_uw 2 rfl rfl (ze 1 ty42 rfl rfl (.t2 .nil))<|e_one 1 (zm rfl rfl rfl rfl (.c rfl .n) ce90 (zfb (s:=s) (p:=p1) (n:=n1) (cap:=c1) (l:=l1) (hn:=ass) (hln:=ass)) (.c (j:=0) rfl .n) ?_)
 rintro ⟨p24,c25⟩ -
 dsimp only [aq,nq,cq]
 refine e_one 3 (zm rfl rfl rfl rfl (.c rfl .n) ce90 (zfb (s:=t) (p:=p2) (n:=n2) (cap:=c2) (l:=l2) (hn:=ass) (hln:=ass)) (.c (j:=2) rfl .n) ?_)
 rintro ⟨p26,c27⟩ -
 dsimp only [aq,nq,cq]
 refine e_one 4 (zp kr rfl rfl rfl rfl rfl sz42 rfl (.t2 .nil) ?_)
 refine zab (zla (i:=1) rfl)<|e_one 5 (zp kr rfl rfl rfl rfl rfl sz42 rfl (.t2 .nil) ?_)
 refine zQ kr<|zg<|zj<|zc<|e_p (zf Tryz.underlying42 rfl sz40 rfl rfl)<|e_ru (zd 1 ty40 rfl rfl rfl)<|e_p (zea Tryz.underlying40 rfl)<|e_p (zf Tryz.underlying42 rfl sz40 rfl rfl)<|e_ru (zd 0 ty40 rfl rfl rfl)<|e_p (zea Tryz.underlying40 rfl)<|e_p (zJ (z:=(((((Big.digs ((Big.raw s l1).natAbs)).length)+((Big.digs ((Big.raw t l2).natAbs)).length)):Nat):Int)) rfl rfl (w64 om))<|zLa rfl rfl (zGb (r:=rI .u32) (k:=(((Big.digs ((Big.raw s l1).natAbs)).length)+((Big.digs ((Big.raw t l2).natAbs)).length))) (x0:=0) (γ0:=()) Tryz.underlying40 inf131 rfl rfl rfl rfl om om rfl (fun _ _=>by exact zG.2 dd) dd) (fun b8 _=> ?_)
 refine e_p (zh rfl)<|zk<|zg<|zj<|zj<|zc<|e_p (zh rfl)<|zk<|zg<|zv<|zya (X:=Nat×(List Int)) (fun x:Nat×(List Int)=>x.1≤(Big.digs (Big.raw s l1).natAbs).length∧x.2.length=(Big.digs (Big.raw s l1).natAbs).length+(Big.digs (Big.raw t l2).natAbs).length∧Big.okL x.2∧(∀k,x.1+(Big.digs (Big.raw t l2).natAbs).length≤k→x.2.getD k 0=0)∧Big.valL x.2=Big.valL ((Big.digs (Big.raw s l1).natAbs).take x.1)*Big.valL (Big.digs (Big.raw t l2).natAbs)) (fun x=>[(6,.int .i64 ((x.1:Nat):Int)),(5,.slice (some ⟨b8,0,none⟩) (((Big.digs ((Big.raw s l1).natAbs)).length)+((Big.digs ((Big.raw t l2).natAbs)).length)) (((Big.digs ((Big.raw s l1).natAbs)).length)+((Big.digs ((Big.raw t l2).natAbs)).length))),(4,.pointer (some ⟨b3,0,none⟩)),(3,.pointer (some ⟨b2,0,none⟩)),(2,.pointer (some ⟨b1,0,none⟩))]) (fun x=>[rowA 131 (rI .u32) (some ⟨b8,0,none⟩) (((Big.digs ((Big.raw s l1).natAbs)).length)+((Big.digs ((Big.raw t l2).natAbs)).length)) (x.2),boxA b2 42 [.bool (decide ((Big.raw t l2)<0)),.slice p26 ((Big.digs ((Big.raw t l2).natAbs)).length) c27],boxA b1 42 [.bool (decide ((Big.raw s l1)<0)),.slice p24 ((Big.digs ((Big.raw s l1).natAbs)).length) c25],boxA b3 42 [wz.b,wz.l]]) (fun x=>[slF (rI .u32) p26 c27 (Big.digs ((Big.raw t l2).natAbs)),slF (rI .u32) p24 c25 (Big.digs ((Big.raw s l1).natAbs)),slF (rI .u32) p1 c1 l1,slF (rI .u32) p2 c2 l2]) (fun x:Nat×(List Int)=>(Big.digs (Big.raw s l1).natAbs).length - x.1) (0,List.replicate ((Big.digs (Big.raw s l1).natAbs).length+(Big.digs (Big.raw t l2).natAbs).length) 0) (show 0≤(Big.digs (Big.raw s l1).natAbs).length∧(List.replicate ((Big.digs (Big.raw s l1).natAbs).length+(Big.digs (Big.raw t l2).natAbs).length) 0).length=(Big.digs (Big.raw s l1).natAbs).length+(Big.digs (Big.raw t l2).natAbs).length∧Big.okL (List.replicate ((Big.digs (Big.raw s l1).natAbs).length+(Big.digs (Big.raw t l2).natAbs).length) 0)∧(∀k,0+(Big.digs (Big.raw t l2).natAbs).length≤k→(List.replicate ((Big.digs (Big.raw s l1).natAbs).length+(Big.digs (Big.raw t l2).natAbs).length) 0).getD k 0=0)∧Big.valL (List.replicate ((Big.digs (Big.raw s l1).natAbs).length+(Big.digs (Big.raw t l2).natAbs).length) 0)=Big.valL ((Big.digs (Big.raw s l1).natAbs).take 0)*Big.valL (Big.digs (Big.raw t l2).natAbs) from by exact ⟨by omega,by simp,Big.okL_zeros _,fun k _=>Big.getD_zeros _ k,by simp [Big.valL_zeros,Big.valL]⟩) ((.e rfl (by first|rfl|(congr 1;omega)|simp_all) (.of rfl)):SubM _ _) (ho:=((.e (i:=0) rfl (by first|rfl|(congr 1;omega)|simp_all) (.of [0,0,0] rfl)):PickO _ _ _)) ((.of [0,1,2,3] rfl):SelR _ _ _) ?_
 rintro ⟨i,os⟩ hI
 replace hI:i≤(Big.digs (Big.raw s l1).natAbs).length∧os.length=(Big.digs (Big.raw s l1).natAbs).length+(Big.digs (Big.raw t l2).natAbs).length∧Big.okL os∧(∀k,i+(Big.digs (Big.raw t l2).natAbs).length≤k→os.getD k 0=0)∧Big.valL os=Big.valL ((Big.digs (Big.raw s l1).natAbs).take i)*Big.valL (Big.digs (Big.raw t l2).natAbs):=hI
 try dsimp only
 obtain ⟨hi,hol,hok,hz,hv⟩:=hI
 have hg1:=Big.okL_getD hoa i
 refine zj<|zj<|zc<|e_mv rfl<|e_p (zf Tryz.underlying42 rfl sz40 rfl rfl)<|e_ru (zd 2 ty40 rfl rfl rfl)<|e_p (zea Tryz.underlying40 rfl)<|e_p (zV rfl rfl)<|zk<|zg<|zP rfl (fun h9=> ?_) (fun h9=> ?_)
 ·
  refine zx<|zg<|zj<|zv<|zj<|zc<|e_p (zh rfl)<|zk<|zg<|zj<|zj<|zc<|e_p (zh rfl)<|zk<|zg<|zv<|zya (X:=Nat×(List Int)×Int) (fun x:Nat×(List Int)×Int=>x.1≤(Big.digs (Big.raw t l2).natAbs).length∧x.2.1.length=(Big.digs (Big.raw s l1).natAbs).length+(Big.digs (Big.raw t l2).natAbs).length∧Big.okL x.2.1∧0≤x.2.2∧x.2.2<1000000000∧(∀k,i+(Big.digs (Big.raw t l2).natAbs).length≤k→x.2.1.getD k 0=0)∧Big.valL x.2.1+Big.pw (i+x.1)*x.2.2=Big.valL ((Big.digs (Big.raw s l1).natAbs).take i)*Big.valL (Big.digs (Big.raw t l2).natAbs)+Big.pw i*(Big.digs (Big.raw s l1).natAbs).getD i 0*Big.valL ((Big.digs (Big.raw t l2).natAbs).take x.1)) (fun x=>[(7,.int .u64 (x.2.2)),(8,.int .i64 ((x.1:Nat):Int)),(6,.int .i64 ((i:Nat):Int)),(5,.slice (some ⟨b8,0,none⟩) (((Big.digs ((Big.raw s l1).natAbs)).length)+((Big.digs ((Big.raw t l2).natAbs)).length)) (((Big.digs ((Big.raw s l1).natAbs)).length)+((Big.digs ((Big.raw t l2).natAbs)).length))),(4,.pointer (some ⟨b3,0,none⟩)),(3,.pointer (some ⟨b2,0,none⟩)),(2,.pointer (some ⟨b1,0,none⟩))]) (fun x=>[rowA 131 (rI .u32) (some ⟨b8,0,none⟩) (((Big.digs ((Big.raw s l1).natAbs)).length)+((Big.digs ((Big.raw t l2).natAbs)).length)) (x.2.1),boxA b2 42 [.bool (decide ((Big.raw t l2)<0)),.slice p26 ((Big.digs ((Big.raw t l2).natAbs)).length) c27],boxA b1 42 [.bool (decide ((Big.raw s l1)<0)),.slice p24 ((Big.digs ((Big.raw s l1).natAbs)).length) c25],boxA b3 42 [wz.b,wz.l]]) (fun x=>[slF (rI .u32) p26 c27 (Big.digs ((Big.raw t l2).natAbs)),slF (rI .u32) p24 c25 (Big.digs ((Big.raw s l1).natAbs)),slF (rI .u32) p1 c1 l1,slF (rI .u32) p2 c2 l2]) (fun x:Nat×(List Int)×Int=>(Big.digs (Big.raw t l2).natAbs).length - x.1) (0,os,0) (show 0≤(Big.digs (Big.raw t l2).natAbs).length∧os.length=(Big.digs (Big.raw s l1).natAbs).length+(Big.digs (Big.raw t l2).natAbs).length∧Big.okL os∧0≤0∧0<1000000000∧(∀k,i+(Big.digs (Big.raw t l2).natAbs).length≤k→os.getD k 0=0)∧Big.valL os+Big.pw (i+0)*0=Big.valL ((Big.digs (Big.raw s l1).natAbs).take i)*Big.valL (Big.digs (Big.raw t l2).natAbs)+Big.pw i*(Big.digs (Big.raw s l1).natAbs).getD i 0*Big.valL ((Big.digs (Big.raw t l2).natAbs).take 0) from by exact ⟨by omega,hol,hok,by decide,by decide,hz,by rw [hv];simp [Big.valL]⟩) ((.c rfl (.e rfl (by first|rfl|(congr 1;omega)|simp_all) (.of rfl))):SubM _ _) (ho:=((.of [0,0,0,0] rfl):PickO _ _ _)) ((.of [0,1,2,3] rfl):SelR _ _ _) ?_
  rintro ⟨j,os2,cy⟩ hJ
  replace hJ:j≤(Big.digs (Big.raw t l2).natAbs).length∧os2.length=(Big.digs (Big.raw s l1).natAbs).length+(Big.digs (Big.raw t l2).natAbs).length∧Big.okL os2∧0≤cy∧cy<1000000000∧(∀k,i+(Big.digs (Big.raw t l2).natAbs).length≤k→os2.getD k 0=0)∧Big.valL os2+Big.pw (i+j)*cy=Big.valL ((Big.digs (Big.raw s l1).natAbs).take i)*Big.valL (Big.digs (Big.raw t l2).natAbs)+Big.pw i*(Big.digs (Big.raw s l1).natAbs).getD i 0*Big.valL ((Big.digs (Big.raw t l2).natAbs).take j):=hJ
  try dsimp only
  obtain ⟨hj,hol2,hok2,hcy0,hcy1,hz2,hv2⟩:=hJ
  have hg2:=Big.okL_getD hob j
  have hg3:=Big.okL_getD hok2 (i+j)
  have hpq:=Big.mul_lim hg1 hg2
  refine zj<|zj<|zc<|e_mv rfl<|e_p (zf Tryz.underlying42 rfl sz40 rfl rfl)<|e_ru (zd 1 ty40 rfl rfl rfl)<|e_p (zea Tryz.underlying40 rfl)<|e_p (zV rfl rfl)<|zk<|zg<|zP rfl (fun h10=> ?_) (fun h10=> ?_)
  ·
   refine zx<|zg<|zj<|zv<|zj<|zT (OW:=[]) (O:=[rowA 131 (rI .u32) (some ⟨b8,0,none⟩) (((Big.digs ((Big.raw s l1).natAbs)).length)+((Big.digs ((Big.raw t l2).natAbs)).length)) os2,boxA b2 42 [.bool (decide ((Big.raw t l2)<0)),.slice p26 ((Big.digs ((Big.raw t l2).natAbs)).length) c27],boxA b1 42 [.bool (decide ((Big.raw s l1)<0)),.slice p24 ((Big.digs ((Big.raw s l1).natAbs)).length) c25],boxA b3 42 [wz.b,wz.l]]) 100000 mixed (.then (.block (.then (.then (.block (.then (.block (.then (.then (.block (.then .ret))))))))))) kr<|e_dm 0 rfl rfl rfl<|e_dm 1 rfl rfl rfl<|e_dm 2 rfl rfl rfl<|e_pv 3 rfl rfl (zJ (z:=(((i+j):Nat):Int)) rfl rfl (w64 om))<|e_pv 4 rfl rfl (zsa (j:=(i+j)) Tryz.underlying40 sz131 rfl rfl rfl om)<|d_vl 5 rfl rfl kr kr rfl rfl (zAa 0 (i+j) rfl ty131 rfl rfl (gD (d:=0) om) rfl) (fun _ hok11=> ?_)
   replace hok11:=zG.1 hok11
   refine e_pv 6 rfl rfl (zM (z:=(os2.getD (i+j) 0)) rfl (by rw [Tryz.underlying131];rfl) Tryz.underlying130 (wu64 om))<|e_pv 7 rfl rfl (zf Tryz.underlying42 rfl sz40 rfl rfl)<|e_u 8 rfl rfl (zd 2 ty40 rfl rfl rfl)<|e_dm 9 rfl rfl rfl<|zSa (x0:=((Big.digs ((Big.raw s l1).natAbs)).getD i 0)) 10 rfl rfl kr kr 1 i rfl Tryz.underlying40 sz131 rfl rfl rfl (by first|rfl|assumption|(simp;omega)|omega) rfl rfl (gD (d:=0) om) (fun b12 o13 hok14=> ?_)
   replace hok14:=zG.1 hok14
   refine e_u 11 rfl rfl (zA (j:=0) 0 ty131 rfl rfl rfl rfl)<|e_pv 12 rfl rfl (zM (z:=((Big.digs ((Big.raw s l1).natAbs)).getD i 0)) rfl (by rw [Tryz.underlying131];rfl) Tryz.underlying130 (wu64 om))<|e_pv 13 rfl rfl (zf Tryz.underlying42 rfl sz40 rfl rfl)<|e_u 14 rfl rfl (zd 1 ty40 rfl rfl rfl)<|e_dm 15 rfl rfl rfl<|zSa (x0:=((Big.digs ((Big.raw t l2).natAbs)).getD j 0)) 16 rfl rfl kr kr 1 j rfl Tryz.underlying40 sz131 rfl rfl rfl (by first|rfl|assumption|(simp;omega)|omega) rfl rfl (gD (d:=0) om) (fun b15 o16 hok17=> ?_)
   replace hok17:=zG.1 hok17
   refine e_u 17 rfl rfl (zA (j:=0) 0 ty131 rfl rfl rfl rfl)<|e_pv 18 rfl rfl (zM (z:=((Big.digs ((Big.raw t l2).natAbs)).getD j 0)) rfl (by rw [Tryz.underlying131];rfl) Tryz.underlying130 (wu64 om))<|e_pv 19 rfl rfl (zGa (z:=(((Big.digs ((Big.raw s l1).natAbs)).getD i 0)*((Big.digs ((Big.raw t l2).natAbs)).getD j 0))) rfl rfl (wu64 om))<|e_pv 20 rfl rfl (zJ (z:=((os2.getD (i+j) 0)+(((Big.digs ((Big.raw s l1).natAbs)).getD i 0)*((Big.digs ((Big.raw t l2).natAbs)).getD j 0)))) rfl rfl (wu64 om))<|e_dm 21 rfl rfl rfl<|e_pv 22 rfl rfl (zJ (z:=(((os2.getD (i+j) 0)+(((Big.digs ((Big.raw s l1).natAbs)).getD i 0)*((Big.digs ((Big.raw t l2).natAbs)).getD j 0)))+cy)) rfl rfl (wu64 om))<|e_pv 23 rfl rfl (zh rfl)<|zQ kr<|zg<|zj<|zc<|e_mv rfl<|e_mv rfl<|e_mv rfl<|e_p (zJ (z:=(((i+j):Nat):Int)) rfl rfl (w64 om))<|e_mv rfl<|e_p (zgb (z:=((((os2.getD (i+j) 0)+(((Big.digs ((Big.raw s l1).natAbs)).getD i 0)*((Big.digs ((Big.raw t l2).natAbs)).getD j 0)))+cy)%1000000000)) rfl rfl om (remN om om))<|e_p (zM (z:=((((os2.getD (i+j) 0)+(((Big.digs ((Big.raw s l1).natAbs)).getD i 0)*((Big.digs ((Big.raw t l2).natAbs)).getD j 0)))+cy)%1000000000)) rfl (by rw [Tryz.underlying130];rfl) Tryz.underlying131 (wu32 om))<|e_p (zsa (j:=(i+j)) Tryz.underlying40 sz131 rfl rfl rfl om)<|zdb 0 rfl rfl rfl (zja (j:=(i+j)) (x0:=((((os2.getD (i+j) 0)+(((Big.digs ((Big.raw s l1).natAbs)).getD i 0)*((Big.digs ((Big.raw t l2).natAbs)).getD j 0)))+cy)%1000000000)) (γ0:=()) rfl rfl (by first|omega|(rw [List.length_map];omega)|(simp only [List.length_set];omega)|(simp;done)|(simp;omega)) rfl rfl sz131 (fun _ _=>by exact zG.2 om)) (fun _=> .z) (fun _ _=> ?_)
   refine zk<|zg<|zc<|e_mv rfl<|e_p (zUa (z:=((((os2.getD (i+j) 0)+(((Big.digs ((Big.raw s l1).natAbs)).getD i 0)*((Big.digs ((Big.raw t l2).natAbs)).getD j 0)))+cy) / 1000000000)) rfl rfl om (by rw [quoN (z:=((((os2.getD (i+j) 0)+(((Big.digs ((Big.raw s l1).natAbs)).getD i 0)*((Big.digs ((Big.raw t l2).natAbs)).getD j 0)))+cy) / 1000000000)) om om];exact wu64 om))<|e_p (zh rfl)<|zk<|zK<|zg<|zc<|e_mv rfl<|e_p (zJ (z:=(((j+1):Nat):Int)) rfl rfl (w64 om))<|e_p (zh rfl)<|zk<|zxa ((j+1),os2.set (i+j) ((os2.getD (i+j) 0+(Big.digs (Big.raw s l1).natAbs).getD i 0*(Big.digs (Big.raw t l2).natAbs).getD j 0+cy)%1000000000),(os2.getD (i+j) 0+(Big.digs (Big.raw s l1).natAbs).getD i 0*(Big.digs (Big.raw t l2).natAbs).getD j 0+cy) / 1000000000) (show (j+1)≤(Big.digs (Big.raw t l2).natAbs).length∧(os2.set (i+j) ((os2.getD (i+j) 0+(Big.digs (Big.raw s l1).natAbs).getD i 0*(Big.digs (Big.raw t l2).natAbs).getD j 0+cy)%1000000000)).length=(Big.digs (Big.raw s l1).natAbs).length+(Big.digs (Big.raw t l2).natAbs).length∧Big.okL (os2.set (i+j) ((os2.getD (i+j) 0+(Big.digs (Big.raw s l1).natAbs).getD i 0*(Big.digs (Big.raw t l2).natAbs).getD j 0+cy)%1000000000))∧0≤((os2.getD (i+j) 0+(Big.digs (Big.raw s l1).natAbs).getD i 0*(Big.digs (Big.raw t l2).natAbs).getD j 0+cy) / 1000000000)∧((os2.getD (i+j) 0+(Big.digs (Big.raw s l1).natAbs).getD i 0*(Big.digs (Big.raw t l2).natAbs).getD j 0+cy) / 1000000000)<1000000000∧(∀k,i+(Big.digs (Big.raw t l2).natAbs).length≤k→(os2.set (i+j) ((os2.getD (i+j) 0+(Big.digs (Big.raw s l1).natAbs).getD i 0*(Big.digs (Big.raw t l2).natAbs).getD j 0+cy)%1000000000)).getD k 0=0)∧Big.valL (os2.set (i+j) ((os2.getD (i+j) 0+(Big.digs (Big.raw s l1).natAbs).getD i 0*(Big.digs (Big.raw t l2).natAbs).getD j 0+cy)%1000000000))+Big.pw (i+(j+1))*((os2.getD (i+j) 0+(Big.digs (Big.raw s l1).natAbs).getD i 0*(Big.digs (Big.raw t l2).natAbs).getD j 0+cy) / 1000000000)=Big.valL ((Big.digs (Big.raw s l1).natAbs).take i)*Big.valL (Big.digs (Big.raw t l2).natAbs)+Big.pw i*(Big.digs (Big.raw s l1).natAbs).getD i 0*Big.valL ((Big.digs (Big.raw t l2).natAbs).take (j+1)) from by exact ⟨by omega,by simpa using hol2,Big.okL_set hok2 om om,by omega,by omega,fun k hk=>by rw [Big.getD_set_ne om];exact hz2 k om,Big.mul_step hv2 om om⟩) (by show (Big.digs (Big.raw t l2).natAbs).length - (j+1)<(Big.digs (Big.raw t l2).natAbs).length - j;omega) ((.e rfl (by first|rfl|(congr 1;omega)|simp_all) (.of rfl)):SubM _ _) (ho:=((.e (i:=0) rfl (by first|rfl|(congr 1;omega)|simp_all) (.of [0,0,0] rfl)):PickO _ _ _)) ((.of [2,3,4,5] rfl):SelR _ _ _)
  ·
   have hjb:j=(Big.digs (Big.raw t l2).natAbs).length:=by omega
   subst hjb
   have hv3:=hv2
   refine zpa<|zn<|zn<|zD<|zg<|zc<|e_mv rfl<|e_mv rfl<|e_p (zf Tryz.underlying42 rfl sz40 rfl rfl)<|e_ru (zd 1 ty40 rfl rfl rfl)<|e_p (zea Tryz.underlying40 rfl)<|e_p (zJ (z:=(((i+((Big.digs ((Big.raw t l2).natAbs)).length)):Nat):Int)) rfl rfl (w64 om))<|e_mv rfl<|e_p (zM (z:=cy) rfl (by rw [Tryz.underlying130];rfl) Tryz.underlying131 (wu32 om))<|e_p (zsa (j:=(i+((Big.digs ((Big.raw t l2).natAbs)).length))) Tryz.underlying40 sz131 rfl rfl rfl om)<|zdb 0 rfl rfl rfl (zja (j:=(i+((Big.digs ((Big.raw t l2).natAbs)).length))) (x0:=cy) (γ0:=()) rfl rfl (by first|omega|(rw [List.length_map];omega)|(simp only [List.length_set];omega)|(simp;done)|(simp;omega)) rfl rfl sz131 (fun _ _=>by exact zG.2 om)) (fun _=> .z) (fun _ _=> ?_)
   refine zk<|zK<|zg<|zc<|e_mv rfl<|e_p (zJ (z:=(((i+1):Nat):Int)) rfl rfl (w64 om))<|e_p (zh rfl)<|zk<|zxa ((i+1),os2.set (i+(Big.digs (Big.raw t l2).natAbs).length) cy) (show (i+1)≤(Big.digs (Big.raw s l1).natAbs).length∧(os2.set (i+(Big.digs (Big.raw t l2).natAbs).length) cy).length=(Big.digs (Big.raw s l1).natAbs).length+(Big.digs (Big.raw t l2).natAbs).length∧Big.okL (os2.set (i+(Big.digs (Big.raw t l2).natAbs).length) cy)∧(∀k,(i+1)+(Big.digs (Big.raw t l2).natAbs).length≤k→(os2.set (i+(Big.digs (Big.raw t l2).natAbs).length) cy).getD k 0=0)∧Big.valL (os2.set (i+(Big.digs (Big.raw t l2).natAbs).length) cy)=Big.valL ((Big.digs (Big.raw s l1).natAbs).take (i+1))*Big.valL (Big.digs (Big.raw t l2).natAbs) from by exact ⟨by omega,by simpa using hol2,Big.okL_set hok2 om om,fun k hk=>by rw [Big.getD_set_ne om];exact hz2 k om,Big.mul_round hv3 om (hz2 _ (Nat.le_refl _))⟩) (by show (Big.digs (Big.raw s l1).natAbs).length - (i+1)<(Big.digs (Big.raw s l1).natAbs).length - i;omega) ((.of rfl):SubM _ _) (ho:=((.e (i:=0) rfl (by first|rfl|(congr 1;omega)|simp_all) (.of [0,0,0] rfl)):PickO _ _ _)) ((.of [0,1,2,3] rfl):SelR _ _ _)
 ·
  have hia:i=(Big.digs (Big.raw s l1).natAbs).length:=by omega
  have hfin:Big.sg (decide (decide (Big.raw s l1<0)≠decide (Big.raw t l2<0))) (Big.valL os)=Big.raw s l1*Big.raw t l2:=by rw [hv,hia,List.take_length,Big.valL_digs,Big.valL_digs,←Int.natCast_mul,Big.sg_mul,Big.sg_big,Big.sg_big]
  refine zpa<|zn<|zn<|zD<|zg<|zj<|zc<|e_p (zf Tryz.underlying42 rfl sz4 rfl rfl)<|e_ru (zd 2 ty4 rfl rfl rfl)<|e_p (zf Tryz.underlying42 rfl sz4 rfl rfl)<|e_ru (zd 1 ty4 rfl rfl rfl)<|e_p (zZa Tryz.underlying4 rfl rfl)<|e_mv rfl<|zqa 0 rfl .z<|zE rfl rfl (.c rfl (.c rfl .n)) ce91 (zWa (s:=decide (decide ((Big.raw s l1)<0)≠decide ((Big.raw t l2)<0))) (p:=some ⟨b8,0,none⟩) (n:=(((Big.digs ((Big.raw s l1).natAbs)).length)+((Big.digs ((Big.raw t l2).natAbs)).length))) (cap:=(((Big.digs ((Big.raw s l1).natAbs)).length)+((Big.digs ((Big.raw t l2).natAbs)).length))) (l:=os) (hn:=by first|rfl|assumption|omega|(unfold Big.ln;omega)|(simp;done)|(simp;omega)|(simp_all;done)) (ho:=by exact hok) (hln:=by first|rfl|assumption|omega|(unfold Big.ln;omega)|(simp;done)|(simp;omega)|(simp_all;done))) (.c (j:=0) rfl .n) ?_
  rintro ⟨p218,c219⟩ -
  dsimp only [aq,nq,cq]
  refine zl 3 rfl rfl rfl rfl rfl sz42 rfl (.t2 .nil) (.s (.s (.s .z)))<|zk<|zg<|zO ?_
  exact zL Tryz.results60 (p218,c219) trivial (zr 3 ty42 rfl rfl (.t2 .nil)) (by rw [hfin]) (ho:=(.n:PickO _ _ _)) ((.e (j:=0) rfl (by rw [hfin]) .n):SelR _ _ _)
theorem zwc {x1:Int} {x2:Int} {p1:Option Addr} {c1:Nat} {p2:Option Addr} {c2:Nat} (hb1:Big.ln x1≤1099511627776) (hb2:Big.ln x2≤1099511627776):Con Tryz.prog 60 [.agg #[.bool (decide ((x1)<0)),.slice (p1) ((Big.digs ((x1).natAbs)).length) (c1)],.agg #[.bool (decide ((x2)<0)),.slice (p2) ((Big.digs ((x2).natAbs)).length) (c2)]] [] [slF (rI .u32) (p1) (c1) (Big.digs ((x1).natAbs)),slF (rI .u32) (p2) (c2) (Big.digs ((x2).natAbs))] (Y:=(Option Addr)×(Nat)) (fun y=>True) (fun y=> .agg #[.bool (decide ((x1*x2)<0)),.slice (y.1) ((Big.digs ((x1*x2).natAbs)).length) (y.2)]) (fun y=>[]) (fun y=>[slF (rI .u32) (y.1) (y.2) (Big.digs ((x1*x2).natAbs))]):=by
  have h:= @zBf (decide ((x1)<0)) p1 (Big.digs (x1).natAbs).length c1 (Big.digs (x1).natAbs) (decide ((x2)<0)) p2 (Big.digs (x2).natAbs).length c2 (Big.digs (x2).natAbs) rfl rfl hb1 hb2
  rw [Big.raw_big,Big.raw_big] at h
  exact h
theorem zUb {w1:Wd} {w2:Wd} {x1:Int} {x2:Int} (hb1:Big.ln x1≤1099511627776) (hb2:Big.ln x2≤1099511627776):Con Tryz.prog 60 [.agg #[w1.b,w1.l],.agg #[w2.b,w2.l]] [] [zF w1 (x1),zF w2 (x2)] (Y:=(Wd)) (fun y=>True) (fun y=> .agg #[y.b,y.l]) (fun y=>[]) (fun y=>[zF y (x1*x2)]):=by
  exact zic (zKc (fun p1 c1 p2 c2=>zwc hb1 hb2))
end Go.Proofs.YtjeahiahjgifgaaGreatDoor.Sp
namespace Go.Proofs.YtjeahiahjgifgaaGreatDoor.Sp
open Go
set_option linter.unusedVariables false
set_option maxRecDepth 100000
set_option maxHeartbeats 8000000
theorem znc {a:Nat} {d:Nat} {p0:Option Addr} {cap:Nat} (hb:(Big.digs a).length≤1099511627776) (hd:d<1000000000):Con Tryz.prog 114 [.slice p0 ((Big.digs a).length) cap,.int .u64 ((d:Nat):Int)] [] [slF (rI .u32) p0 cap (Big.digs a)] (Y:=(Option Addr)×Nat) (fun y=>True) (fun y=> .slice (y.1) ((Big.digs (a*d)).length) (y.2)) (fun y=>[]) (fun y=>[slF (rI .u32) (y.1) (y.2) (Big.digs (a*d))]):=by
 refine zw Tryz.func114 rfl rfl rfl (fun c=> ?_)
 show RunC _ _ _ _ _ [(0,.slice p0 ((Big.digs a).length) cap),(1,.int .u64 ((d:Nat):Int))] [] [slF (rI .u32) p0 cap (Big.digs a)]
 refine zta 0 rfl (fun hL0=> ?_)
 refine zj<|zc<|e_p (zh rfl)<|zk<|zg<|zj<|zc<|zLa rfl rfl (zFa (rI .u32) Tryz.underlying40 inf131) (fun b1 _=> ?_)
 refine e_p (zh rfl)<|zk<|zg<|zj<|zc<|e_p (zh rfl)<|zk<|zg<|zj<|zj<|zc<|e_p (zh rfl)<|zk<|zg<|zv<|zya (X:=Nat×(Option Addr)×Nat×(List Int)×Int) (fun x:Nat×(Option Addr)×Nat×(List Int)×Int=>Big.ScI (Big.digs a) (d:Int) x.1 x.2.2.2.1 x.2.2.2.2) (fun x=>[(6,.int .u64 (x.2.2.2.2)),(5,.slice (x.2.1) (x.2.2.2.1.length) (x.2.2.1)),(7,.int .i64 ((x.1:Nat):Int)),(4,.slice none 0 0),(0,.slice p0 ((Big.digs a).length) cap),(1,.int .u64 ((d:Nat):Int))]) (fun x=>[rowA 131 (rI .u32) (x.2.1) (x.2.2.1) (x.2.2.2.1)]) (fun x=>[slF (rI .u32) p0 cap (Big.digs a)]) (fun x:Nat×(Option Addr)×Nat×(List Int)×Int=>(Big.digs a).length - x.1) (0,some ⟨b1,0,none⟩,0,[],0) (show Big.ScI (Big.digs a) (d:Int) 0 ([]) 0 from by exact Big.ScI.start _ _) ((.c rfl (.e rfl (by first|rfl|(congr 1;omega)|simp_all) (.e rfl (by first|rfl|(congr 1;omega)|simp_all) (.of rfl)))):SubM _ _) (ho:=((.c (i:=0) rfl .n):PickO _ _ _)) ((.c (j:=0) rfl .n):SelR _ _ _) ?_
 rintro ⟨i,p,c,os,cy⟩ hI
 replace hI:Big.ScI (Big.digs a) (d:Int) i os cy:=hI
 try dsimp only
 have hi:=hI.le
 have hol:=hI.len
 have hc0:=hI.c0
 have hc1:=hI.c1
 have hg:=Big.okL_getD (Big.digs_ok a) i
 have hsl:=Big.sc_lim hg (show 0≤(d:Int)∧(d:Int)<1000000000 by omega) ⟨hc0,hc1⟩
 refine zj<|zj<|zc<|e_mv rfl<|e_mv rfl<|e_p (zea Tryz.underlying40 rfl)<|e_p (zV rfl rfl)<|zk<|zg<|zP rfl (fun h2=> ?_) (fun h2=> ?_)
 ·
  refine zx<|zg<|zj<|zv<|zj<|zc<|e_mv rfl<|e_mv rfl<|zU (x0:=((Big.digs a).getD i 0)) 0 i rfl Tryz.underlying40 sz131 rfl rfl rfl (by first|rfl|assumption|(simp;done)|(simp;omega)|omega) rfl rfl (gD (d:=0) om) (fun b3 o4 hok5=> ?_)
  replace hok5:=zG.1 hok5
  refine e_ru (zA (j:=0) 0 ty131 rfl rfl rfl rfl)<|e_p (zM (z:=((Big.digs a).getD i 0)) rfl (by rw [Tryz.underlying131];rfl) Tryz.underlying130 (wu64 om))<|e_mv rfl<|e_p (zGa (z:=(((Big.digs a).getD i 0)*((d:Nat):Int))) rfl rfl (wu64 om))<|e_mv rfl<|e_p (zJ (z:=((((Big.digs a).getD i 0)*((d:Nat):Int))+cy)) rfl rfl (wu64 om))<|e_p (zh rfl)<|zk<|zg<|zj<|zc<|e_mv rfl<|e_mv rfl<|e_p (zgb (z:=(((((Big.digs a).getD i 0)*((d:Nat):Int))+cy)%1000000000)) rfl rfl om (remN om om))<|e_p (zM (z:=(((((Big.digs a).getD i 0)*((d:Nat):Int))+cy)%1000000000)) rfl (by rw [Tryz.underlying130];rfl) Tryz.underlying131 (wu32 om))<|zLa rfl rfl (zS (enc:=fun z:Int=>[.int .u32 z]) (ok:=InK .u32) (h1:=fun _=>rfl) (h2:=fun _=>rfl) (k:=1) Tryz.underlying40 inf131 rfl dd dd dd (.c (x:=(((((Big.digs a).getD i 0)*((d:Nat):Int))+cy)%1000000000)) rfl rfl (fun _ _=>by exact zG.2 om) .n)) (fun b6 _=> ?_)
  refine zqa 0 rfl .z<|zdb 1 rfl rfl rfl (zRa 0 rfl Tryz.underlying40 inf131 dd rfl rfl (by first|rfl|assumption|(simp;done)|(simp;omega)|omega) rfl (by first|rfl|assumption|(simp;done)|(simp;omega)|omega) om om) (fun _=>(.s .z)) ?_
  rintro ⟨p7,c8⟩ -
  dsimp only [aq,nq,cq]
  refine e_p (zh rfl)<|zk<|zg<|zc<|e_mv rfl<|e_p (zUa (z:=(((((Big.digs a).getD i 0)*((d:Nat):Int))+cy) / 1000000000)) rfl rfl om (by rw [quoN (z:=(((((Big.digs a).getD i 0)*((d:Nat):Int))+cy) / 1000000000)) om om];exact wu64 om))<|e_p (zh rfl)<|zk<|zK<|zg<|zc<|e_mv rfl<|e_p (zJ (z:=(((i+1):Nat):Int)) rfl rfl (w64 om))<|e_p (zh rfl)<|zk<|zxa ((i+1),p7,c8,os++[((Big.digs a).getD i 0*(d:Int)+cy)%1000000000],((Big.digs a).getD i 0*(d:Int)+cy) / 1000000000) (show Big.ScI (Big.digs a) (d:Int) (i+1) (os++[((Big.digs a).getD i 0*(d:Int)+cy)%1000000000]) (((Big.digs a).getD i 0*(d:Int)+cy) / 1000000000) from by exact hI.step (Big.digs_ok a) om om) (by show (Big.digs a).length - (i+1)<(Big.digs a).length - i;omega) ((.e rfl (by first|rfl|(congr 1;omega)|simp_all) (.e rfl (by simp) (.of rfl))):SubM _ _) (ho:=((.e (i:=1) rfl (by first|rfl|(congr 1;omega)|simp_all) .n):PickO _ _ _)) ((.c (j:=2) rfl .n):SelR _ _ _)
 ·
  obtain ⟨hok2,hfin⟩:=hI.fin om
  refine zpa<|zn<|zn<|zD<|zg<|zj<|zc<|e_mv rfl<|e_mv rfl<|e_p (zM (z:=cy) rfl (by rw [Tryz.underlying130];rfl) Tryz.underlying131 (wu32 om))<|zLa rfl rfl (zS (enc:=fun z:Int=>[.int .u32 z]) (ok:=InK .u32) (h1:=fun _=>rfl) (h2:=fun _=>rfl) (k:=1) Tryz.underlying40 inf131 rfl dd dd dd (.c (x:=cy) rfl rfl (fun _ _=>by exact zG.2 om) .n)) (fun b9 _=> ?_)
  refine zqa 0 rfl .z<|zdb 1 rfl rfl rfl (zRa 0 rfl Tryz.underlying40 inf131 dd rfl rfl (by first|rfl|assumption|(simp;done)|(simp;omega)|omega) rfl (by first|rfl|assumption|(simp;done)|(simp;omega)|omega) om om) (fun _=>(.s .z)) ?_
  rintro ⟨p10,c11⟩ -
  dsimp only [aq,nq,cq]
  refine zqa 1 rfl (.s .z)<|zE rfl rfl (.c rfl (.c rfl .n)) ce91 (zWa (s:=false) (p:=p10) (n:=os.length+1) (cap:=c11) (l:=(os++([cy]))) (hn:=by first|rfl|omega|(simp;done)|(simp;omega)) (ho:=by exact hok2) (hln:=by first|rfl|omega|(simp;done)|(simp;omega))) (.c (j:=0) rfl .n) ?_
  rintro ⟨p212,c213⟩ -
  dsimp only [aq,nq,cq]
  refine e_p (zKa Tryz.underlying42 rfl ty40 rfl rfl)<|e_p (zh rfl)<|zk<|zg<|zO ?_
  have hz:(Big.sg false (Big.valL (os++[cy]))).natAbs=a*d:=by rw [hfin];exact Int.natAbs_natCast _
  exact zL Tryz.results114 (p212,c213) trivial (zB rfl) (by rw [hz]) (ho:=(.n:PickO _ _ _)) ((.e (j:=0) rfl (by rw [hz]) .n):SelR _ _ _)
theorem zXd {a:Nat} {d:Nat} {p0:Option Addr} {cap:Nat} (hb:(Big.digs a).length≤1099511627776) (hd:d<1000000000):Con Tryz.prog 115 [.slice p0 ((Big.digs a).length) cap,.int .u32 ((d:Nat):Int)] [] [slF (rI .u32) p0 cap (Big.digs a)] (Y:=(Option Addr)×Nat) (fun y=>True) (fun y=> .slice (y.1) ((Big.digs (a*1000000000+d)).length) (y.2)) (fun y=>[]) (fun y=>[slF (rI .u32) (y.1) (y.2) (Big.digs (a*1000000000+d))]):=by
 refine zw Tryz.func115 rfl rfl rfl (fun c=> ?_)
 show RunC _ _ _ _ _ [(0,.slice p0 ((Big.digs a).length) cap),(1,.int .u32 ((d:Nat):Int))] [] [slF (rI .u32) p0 cap (Big.digs a)]
 refine zta 0 rfl (fun hL0=> ?_)
 have hok2:Big.okL ([((d:Nat):Int)]++Big.digs a):=Big.okL_cons.2 ⟨by omega,Big.digs_ok a⟩
 have hz:(Big.sg false (Big.valL (((d:Nat):Int) :: Big.digs a))).natAbs=a*1000000000+d:=by rw [Big.sg_abs (Big.valL_nonneg (l:=((d:Nat):Int) :: Big.digs a) hok2)];simp only [Big.valL,Big.valL_digs];omega
 refine zj<|zc<|e_p (zh rfl)<|zk<|zg<|zj<|zc<|e_mv rfl<|zLa rfl rfl (zS (enc:=fun z:Int=>[.int .u32 z]) (ok:=InK .u32) (h1:=fun _=>rfl) (h2:=fun _=>rfl) (k:=1) Tryz.underlying40 inf131 rfl dd dd dd (.c (x:=((d:Nat):Int)) rfl rfl (fun _ _=>by exact zG.2 om) .n)) (fun b1 _=> ?_)
 refine e_mv rfl<|zdb 0 rfl rfl rfl (zRa 0 rfl Tryz.underlying40 inf131 dd rfl rfl (by first|rfl|assumption|(simp;done)|(simp;omega)|omega) rfl (by first|rfl|assumption|(simp;done)|(simp;omega)|omega) om om) (fun _=> .z) ?_
 rintro ⟨p2,c3⟩ -
 dsimp only [aq,nq,cq]
 refine zqa 0 rfl .z<|zE rfl rfl (.c rfl (.c rfl .n)) ce91 (zWa (s:=false) (p:=p2) (n:=1+((Big.digs a).length)) (cap:=c3) (l:=(([((d:Nat):Int)])++(Big.digs a))) (hn:=by first|rfl|omega|(simp;done)|(simp;omega)) (ho:=by exact hok2) (hln:=by first|rfl|omega|(simp;done)|(simp;omega))) (.c (j:=0) rfl .n) ?_
 rintro ⟨p24,c25⟩ -
 dsimp only [aq,nq,cq]
 refine e_p (zKa Tryz.underlying42 rfl ty40 rfl rfl)<|e_p (zh rfl)<|zk<|zg<|zO ?_
 exact zL Tryz.results115 (p24,c25) trivial (zB rfl) (by rw [hz]) (ho:=(.n:PickO _ _ _)) ((.e (j:=0) rfl (by rw [hz]) .n):SelR _ _ _)
theorem zod {a:Nat} {mm:Nat} {p:Option Addr} {cap:Nat} (hb:(Big.digs a).length≤1099511627776) (hm0:0<mm) (hm1:mm≤1000000000):Con Tryz.prog 113 [.slice p ((Big.digs a).length) cap,.int .u64 ((mm:Nat):Int)] [] [slF (rI .u32) p cap (Big.digs a)] (Y:=(Option Addr)×Nat) (fun y=>True) (fun y=> .tuple #[.slice (y.1) ((Big.digs (a / mm)).length) (y.2),.int .u64 (((a%mm):Nat):Int)]) (fun y=>[]) (fun y=>[slF (rI .u32) (y.1) (y.2) (Big.digs (a / mm))]):=by
 refine zw Tryz.func113 rfl rfl rfl (fun c=> ?_)
 show RunC _ _ _ _ _ [(0,.slice p ((Big.digs a).length) cap),(1,.int .u64 ((mm:Nat):Int))] [] [slF (rI .u32) p cap (Big.digs a)]
 refine zta 0 rfl (fun hL0=> ?_)
 refine zj<|zc<|e_p (zh rfl)<|e_p (zh rfl)<|zk<|zg<|zj<|zc<|e_mv rfl<|e_p (zea Tryz.underlying40 rfl)<|zLa rfl rfl (zGb (r:=rI .u32) (k:=(Big.digs a).length) (x0:=0) (γ0:=()) Tryz.underlying40 inf131 rfl rfl rfl rfl om om rfl (fun _ _=>by exact zG.2 dd) dd) (fun b1 _=> ?_)
 refine e_p (zh rfl)<|zk<|zg<|zj<|zc<|e_p (zh rfl)<|zk<|zg<|zj<|zj<|zc<|e_mv rfl<|e_p (zea Tryz.underlying40 rfl)<|e_p (zka (z:=((((Big.digs a).length:Nat):Int) - 1)) rfl rfl (w64 om))<|e_p (zh rfl)<|zk<|zg<|zv<|zya (X:=Nat×(List Int)×(List Int)×Int) (fun x:Nat×(List Int)×(List Int)×Int=>x.2.1=List.replicate x.1 0++x.2.2.1∧Big.ShI (Big.digs a) (mm:Int) x.1 x.2.2.1 x.2.2.2) (fun x=>[(7,.int .u64 (x.2.2.2)),(8,.int .i64 (((x.1:Nat):Int) - 1)),(6,.slice (some ⟨b1,0,none⟩) ((Big.digs a).length) ((Big.digs a).length)),(5,.int .u64 0),(4,.slice none 0 0),(0,.slice p ((Big.digs a).length) cap),(1,.int .u64 ((mm:Nat):Int))]) (fun x=>[rowA 131 (rI .u32) (some ⟨b1,0,none⟩) ((Big.digs a).length) (x.2.1)]) (fun x=>[slF (rI .u32) p cap (Big.digs a)]) (fun x:Nat×(List Int)×(List Int)×Int=>x.1) ((Big.digs a).length,(List.replicate (Big.digs a).length 0),([]:List Int),(0:Int)) (show (List.replicate (Big.digs a).length 0)=List.replicate ((Big.digs a).length) 0++([]:List Int)∧Big.ShI (Big.digs a) (mm:Int) ((Big.digs a).length) ([]:List Int) (0:Int) from by exact ⟨by simp,Big.ShI.start om⟩) ((.e rfl (by first|rfl|(congr 1;omega)|simp_all) (.e rfl (by first|rfl|(congr 1;omega)|simp_all) (.of rfl))):SubM _ _) (ho:=((.e (i:=0) rfl (by first|rfl|(congr 1;omega)|simp_all) .n):PickO _ _ _)) ((.c (j:=0) rfl .n):SelR _ _ _) ?_
 rintro ⟨jj,os,qs,z⟩ hI
 replace hI:os=List.replicate jj 0++qs∧Big.ShI (Big.digs a) (mm:Int) jj qs z:=hI
 try dsimp only
 obtain ⟨hos,hS⟩:=hI
 have hz0:=hS.r0
 have hz1:=hS.r1
 have hkle:=hS.le
 refine zj<|zj<|zc<|e_mv rfl<|e_p (zsb rfl rfl)<|zk<|zg<|zP rfl (fun h2=> ?_) (fun h2=> ?_)
 ·
  obtain ⟨k,rfl⟩:∃k,jj=k+1:=⟨jj - 1,by omega⟩
  have e3:(((((k+1):Nat):Int) - 1):Int)=((k:Nat):Int):=by omega
  rw [e3]
  have hosl:os.length=(Big.digs a).length:=by rw [hos,List.length_append,List.length_replicate,hS.len];omega
  have hg:=Big.okL_getD (Big.digs_ok a) k
  have hdg:=Big.sh_digit hz0 hz1 hg
  have hrm:=Int.emod_lt_of_pos (z*1000000000+(Big.digs a).getD k 0) (show 0<(mm:Int) by omega)
  have hrm0:=Int.emod_nonneg (z*1000000000+(Big.digs a).getD k 0) (show (mm:Int)≠0 by omega)
  refine zx<|zg<|zj<|zv<|zj<|zc<|e_mv rfl<|e_p (zGa (z:=(z*1000000000)) rfl rfl (wu64 om))<|e_mv rfl<|e_mv rfl<|zU (x0:=((Big.digs a).getD k 0)) 0 k rfl Tryz.underlying40 sz131 rfl rfl rfl (by first|rfl|assumption|(simp;done)|(simp;omega)|omega) rfl rfl (gD (d:=0) om) (fun b4 o5 hok6=> ?_)
  replace hok6:=zG.1 hok6
  refine e_ru (zA (j:=0) 0 ty131 rfl rfl rfl rfl)<|e_p (zM (z:=((Big.digs a).getD k 0)) rfl (by rw [Tryz.underlying131];rfl) Tryz.underlying130 (wu64 om))<|e_p (zJ (z:=((z*1000000000)+((Big.digs a).getD k 0))) rfl rfl (wu64 om))<|e_p (zh rfl)<|zk<|zg<|zj<|zc<|e_mv rfl<|e_mv rfl<|e_mv rfl<|e_mv rfl<|e_p (zUa (z:=(((z*1000000000)+((Big.digs a).getD k 0)) / ((mm:Nat):Int))) rfl rfl om (by rw [quoN (z:=(((z*1000000000)+((Big.digs a).getD k 0)) / ((mm:Nat):Int))) om om];exact wu64 om))<|e_p (zM (z:=(((z*1000000000)+((Big.digs a).getD k 0)) / ((mm:Nat):Int))) rfl (by rw [Tryz.underlying130];rfl) Tryz.underlying131 (wu32 om))<|e_p (zsa (j:=k) Tryz.underlying40 sz131 rfl rfl rfl om)<|zdb 0 rfl rfl rfl (zja (j:=k) (x0:=(((z*1000000000)+((Big.digs a).getD k 0)) / ((mm:Nat):Int))) (γ0:=()) rfl rfl (by first|omega|(rw [List.length_map];omega)|(simp only [List.length_set];omega)|(simp;done)|(simp;omega)) rfl rfl sz131 (fun _ _=>by exact zG.2 om)) (fun _=> .z) (fun _ _=> ?_)
  refine zk<|zg<|zc<|e_mv rfl<|e_mv rfl<|e_p (zgb (z:=(((z*1000000000)+((Big.digs a).getD k 0))%((mm:Nat):Int))) rfl rfl om (remN om om))<|e_p (zh rfl)<|zk<|zK<|zg<|zc<|e_mv rfl<|e_p (zka (z:=(((k:Nat):Int) - 1)) rfl rfl (w64 om))<|e_p (zh rfl)<|zk<|zxa (k,(os.set k (((z*1000000000)+((Big.digs a).getD k 0)) / ((mm:Nat):Int))),((z*1000000000+(Big.digs a).getD k 0) / (mm:Int) :: qs),((z*1000000000+(Big.digs a).getD k 0)%(mm:Int))) (show (os.set k (((z*1000000000)+((Big.digs a).getD k 0)) / ((mm:Nat):Int)))=List.replicate k 0++((z*1000000000+(Big.digs a).getD k 0) / (mm:Int) :: qs)∧Big.ShI (Big.digs a) (mm:Int) k ((z*1000000000+(Big.digs a).getD k 0) / (mm:Int) :: qs) ((z*1000000000+(Big.digs a).getD k 0)%(mm:Int)) from by exact ⟨by rw [hos];exact Big.pad_set _,hS.step (Big.digs_ok a)⟩) (by show k<k+1;omega) ((.e rfl (by first|rfl|(congr 1;omega)|simp_all) (.of rfl)):SubM _ _) (ho:=((.c (i:=0) rfl .n):PickO _ _ _)) ((.c (j:=1) rfl .n):SelR _ _ _)
 ·
  have hj0:jj=0:=by omega
  have hS0:Big.ShI (Big.digs a) (mm:Int) 0 qs z:=hj0 ▸ hS
  obtain ⟨hf1,hf2⟩:=hS0.fin
  have hoq:os=qs:=by rw [hos,hj0];rfl
  have hok2:Big.okL os:=by rw [hoq];exact hS.ok
  have hosl:os.length=(Big.digs a).length:=by rw [hoq,hS0.len];omega
  have hz9:(Big.sg false (Big.valL os)).natAbs=a / mm:=by rw [hoq,Big.sg_abs (Big.valL_nonneg hS.ok),←Big.valL_trim,hf1,Big.valL_digs];exact Int.toNat_natCast _
  refine zpa<|zn<|zn<|zD<|zg<|zj<|zc<|e_mv rfl<|zqa 0 rfl .z<|zE rfl rfl (.c rfl (.c rfl .n)) ce91 (zWa (s:=false) (p:=some ⟨b1,0,none⟩) (n:=(Big.digs a).length) (cap:=(Big.digs a).length) (l:=os) (hn:=by first|rfl|omega|(simp;done)|(simp;omega)) (ho:=by exact hok2) (hln:=by first|rfl|omega|(simp;done)|(simp;omega))) (.c (j:=0) rfl .n) ?_
  rintro ⟨p27,c28⟩ -
  dsimp only [aq,nq,cq]
  refine e_p (zKa Tryz.underlying42 rfl ty40 rfl rfl)<|e_mv rfl<|e_p (zh rfl)<|e_p (zh rfl)<|zk<|zg<|zO ?_
  exact zCa Tryz.results113 (p27,c28) trivial (zB rfl) (zB rfl) (by rw [hz9,hf2]) (ho:=(.n:PickO _ _ _)) ((.e (j:=0) rfl (by rw [hz9]) .n):SelR _ _ _)
theorem zYd {a:Nat} {p:Option Addr} {cap:Nat} (hb:(Big.digs a).length≤2):Con Tryz.prog 100 [.slice p ((Big.digs a).length) cap] [] [slF (rI .u32) p cap (Big.digs a)] (Y:=Unit) (fun y=>True) (fun y=> .int .u64 ((a:Nat):Int)) (fun y=>[]) (fun y=>[]):=by
 refine zw Tryz.func100 rfl rfl rfl (fun c=> ?_)
 show RunC _ _ _ _ _ [(0,.slice p ((Big.digs a).length) cap)] [] [slF (rI .u32) p cap (Big.digs a)]
 refine zta 0 rfl (fun hL0=> ?_)
 have hpv:=Big.pair_val hb
 have hg0:=Big.okL_getD (Big.digs_ok a) 0
 have hg1:=Big.okL_getD (Big.digs_ok a) 1
 refine zj<|zc<|e_p (zh rfl)<|zk<|zg<|zj<|zc<|e_mv rfl<|zR rfl rfl (.c rfl (.c rfl .n)) ce109 (zlb (p:=p) (n:=(Big.digs a).length) (cap:=cap) (l:=Big.digs a) (i:=1) (hn:=cbb) (hi:=cbb)) (.c (j:=0) rfl .n)<|e_p (zGa (z:=((Big.digs a).getD 1 0*1000000000)) rfl rfl (wu64 om))<|e_mv rfl<|zR rfl rfl (.c rfl (.c rfl .n)) ce109 (zlb (p:=p) (n:=(Big.digs a).length) (cap:=cap) (l:=Big.digs a) (i:=0) (hn:=cbb) (hi:=cbb)) (.c (j:=0) rfl .n)<|e_p (zJ (z:=(((Big.digs a).getD 1 0*1000000000)+(Big.digs a).getD 0 0)) rfl rfl (wu64 om))<|e_p (zh rfl)<|zk<|zg<|zO ?_
 exact zL Tryz.results100 () trivial (zB rfl) (by rw [hpv]) (ho:=(.n:PickO _ _ _)) (.n:SelR _ _ _)
end Go.Proofs.YtjeahiahjgifgaaGreatDoor.Sp
namespace Go.Proofs.YtjeahiahjgifgaaGreatDoor.Sp
open Go
set_option linter.unusedVariables false
set_option maxRecDepth 100000
set_option maxHeartbeats 8000000
theorem zpd {a:Nat} {b:Nat} {p1:Option Addr} {c1:Nat} {p2:Option Addr} {c2:Nat} (hb1:(Big.digs a).length≤549755813888) (hb2:(Big.digs b).length≤549755813888) (hb0:0<b):Con Tryz.prog 99 [.slice p1 ((Big.digs a).length) c1,.slice p2 ((Big.digs b).length) c2] [] [slF (rI .u32) p1 c1 (Big.digs a),slF (rI .u32) p2 c2 (Big.digs b)] (Y:=(Option Addr)×Nat×(Option Addr)×Nat) (fun y=>True) (fun y=> .tuple #[.slice (y.1) ((Big.digs (a / b)).length) (y.2.1),.slice (y.2.2.1) ((Big.digs (a%b)).length) (y.2.2.2)]) (fun y=>[]) (fun y=>[slF (rI .u32) (y.1) (y.2.1) (Big.digs (a / b)),slF (rI .u32) (y.2.2.1) (y.2.2.2) (Big.digs (a%b))]):=by
 refine zw Tryz.func99 rfl rfl rfl (fun c=> ?_)
 show RunC _ _ _ _ _ [(0,.slice p1 ((Big.digs a).length) c1),(1,.slice p2 ((Big.digs b).length) c2)] [] [slF (rI .u32) p1 c1 (Big.digs a),slF (rI .u32) p2 c2 (Big.digs b)]
 refine zta 0 rfl (fun hL0=> ?_)
 refine zta 1 rfl (fun hL1=> ?_)
 have hln0:=Big.zTe hb0
 have hob:=Big.okL_getD (Big.digs_ok b) 0
 have hob1:=Big.okL_getD (Big.digs_ok b) ((Big.digs b).length - 1)
 have hdv:=Big.ln_mono' (Nat.div_le_self a b)
 have hdm:=Nat.mod_lt a hb0
 refine zj<|zc<|e_p (zh rfl)<|e_p (zh rfl)<|zk<|zg<|zj<|zc<|e_mv rfl<|e_p (zea Tryz.underlying40 rfl)<|e_p (zh rfl)<|zk<|zg<|zj<|zj<|zc<|e_mv rfl<|e_p (zIa rfl rfl)<|zk<|zg<|zP rfl (fun hl1=> ?_) (fun hl1=> ?_)
 ·
  have hbd:=Big.one_digit (by omega:(Big.digs b).length=1)
  have hbl:b<1000000000:=by omega
  have hokt:Big.okL [((a%b:Nat):Int)]:=Big.okL_cons.2 ⟨by omega,Big.okL_nil⟩
  have hz3:=Big.made_nat hokt (show Big.valL [((a%b:Nat):Int)]=((a%b:Nat):Int) by simp only [Big.valL];omega)
  refine zj<|zc<|e_mv rfl<|e_mv rfl<|zU (x0:=((Big.digs b).getD 0 0)) 1 0 rfl Tryz.underlying40 sz131 rfl rfl rfl (by first|rfl|assumption|(simp;done)|(simp;omega)|omega) rfl rfl (gD (d:=0) om) (fun b1 o2 hok3=> ?_)
  replace hok3:=zG.1 hok3
  refine e_ru (zA (j:=0) 0 ty131 rfl rfl rfl rfl)<|e_p (zM (z:=((Big.digs b).getD 0 0)) rfl (by rw [Tryz.underlying131];rfl) Tryz.underlying130 (wu64 om)) ?_
  have e4:(((Big.digs b).getD 0 0):Int)=((b:Nat):Int):=by exact hbd
  rw [e4]
  refine zE rfl rfl (.c rfl (.c rfl .n)) ce113 (zod (a:=a) (mm:=b) (p:=p1) (cap:=c1) (hb:=by first|rfl|assumption|omega|(simp;done)) (hm0:=ass) (hm1:=by first|rfl|assumption|omega|(simp;done))) (.c (j:=1) rfl .n) ?_
  rintro ⟨p25,c26⟩ -
  dsimp only [aq,nq,cq]
  refine e_mv rfl<|e_p (zy rfl rfl)<|e_p (zy rfl rfl)<|e_p (zh rfl)<|e_p (zh rfl)<|zk<|zg<|zj<|zc<|e_mv rfl<|e_mv rfl<|e_p (zM (z:=(((a%b):Nat):Int)) rfl (by rw [Tryz.underlying130];rfl) Tryz.underlying131 (wu32 om))<|zLa rfl rfl (zS (enc:=fun z:Int=>[.int .u32 z]) (ok:=InK .u32) (h1:=fun _=>rfl) (h2:=fun _=>rfl) (k:=1) Tryz.underlying40 inf131 rfl dd dd dd (.c (x:=(((a%b):Nat):Int)) rfl rfl (fun _ _=>by exact zG.2 om) .n)) (fun b7 _=> ?_)
  refine zqa 0 rfl .z<|zE rfl rfl (.c rfl (.c rfl .n)) ce91 (zWa (s:=false) (p:=some ⟨b7,0,none⟩) (n:=1) (cap:=1) (l:=[(((a%b):Nat):Int)]) (hn:=by first|rfl|omega|(simp;done)|(simp;omega)) (ho:=by exact hokt) (hln:=by first|rfl|omega|(simp;done)|(simp;omega))) (.c (j:=0) rfl .n) ?_
  rintro ⟨p28,c29⟩ -
  dsimp only [aq,nq,cq]
  refine e_p (zKa Tryz.underlying42 rfl ty40 rfl rfl)<|e_p (zh rfl)<|e_p (zh rfl)<|zk<|zg<|zO<|zt ?_
  exact zCa Tryz.results99 (p25,c26,p28,c29) trivial (zB rfl) (zB rfl) (by rw [hz3]) (ho:=(.n:PickO _ _ _)) ((.c (j:=2) rfl (.e (j:=0) rfl (by rw [hz3]) .n)):SelR _ _ _)
 ·
  refine zx<|zg<|zj<|zj<|zc<|e_mv rfl<|e_mv rfl<|zR rfl rfl (.c rfl (.c rfl .n)) ce93 (zbd (a:=a) (b:=b) (p1:=p1) (c1:=c1) (p2:=p2) (c2:=c2)) (.c (j:=0) rfl (.c (j:=1) rfl .n))<|e_p (zV rfl rfl)<|zk<|zg<|zP rfl (fun hlt=> ?_) (fun hlt=> ?_)
  ·
   have hab9:¬(b:Int)≤a:=fun h=>by have:=Big.cmp_ge.2 h;omega
   have hab:a<b:=by omega
   refine zj<|zc<|zLa rfl rfl (zFa (rI .u32) Tryz.underlying40 inf131) (fun b10 _=> ?_)
   refine e_mv rfl<|e_p (zh rfl)<|e_p (zh rfl)<|zk<|zg<|zO<|zt ?_
   have hz1:a / b=0:=Nat.div_eq_of_lt hab
   have hz2:a%b=a:=Nat.mod_eq_of_lt hab
   refine zXb 0 rfl .z ?_
   exact zCa Tryz.results99 (some ⟨b10,0,none⟩,0,p1,c1) trivial (zB rfl) (zB rfl) (by rw [hz1,hz2];rfl) (ho:=(.n:PickO _ _ _)) ((.e (j:=0) rfl (by rw [hz1];rfl) (.e (j:=1) rfl (by rw [hz2]) .n)):SelR _ _ _)
  ·
   have hab:b≤a:=by have h9:=Big.cmp_ge.1 (by omega:0≤Big.cmp (a:Int) (b:Int));omega
   have hab2:=Big.ln_mono' hab
   have hq1:0≤1000000000 / ((Big.digs b).getD ((Big.digs b).length - 1) 0+1):=Int.ediv_nonneg om om
   have hdt:=Big.digs_top (b:=b) (n:=(Big.digs b).length - 1) om
   have hq2:1000000000 / ((Big.digs b).getD ((Big.digs b).length - 1) 0+1)≤500000000:=Int.ediv_le_of_le_mul om om
   refine zx<|zg<|zj<|zc<|e_mv rfl<|e_mv rfl<|e_p (zka (z:=((((Big.digs b).length - 1):Nat):Int)) rfl rfl (w64 om))<|zU (x0:=((Big.digs b).getD ((Big.digs b).length - 1) 0)) 1 ((Big.digs b).length - 1) rfl Tryz.underlying40 sz131 rfl rfl rfl (by first|rfl|assumption|(simp;done)|(simp;omega)|omega) rfl rfl (gD (d:=0) om) (fun b11 o12 hok13=> ?_)
   replace hok13:=zG.1 hok13
   refine e_ru (zA (j:=0) 0 ty131 rfl rfl rfl rfl)<|e_p (zM (z:=((Big.digs b).getD ((Big.digs b).length - 1) 0)) rfl (by rw [Tryz.underlying131];rfl) Tryz.underlying130 (wu64 om))<|e_p (zJ (z:=(((Big.digs b).getD ((Big.digs b).length - 1) 0)+1)) rfl rfl (wu64 om))<|e_p (zUa (z:=(1000000000 / (((Big.digs b).getD ((Big.digs b).length - 1) 0)+1))) rfl rfl om (by rw [quoN (z:=(1000000000 / (((Big.digs b).getD ((Big.digs b).length - 1) 0)+1))) om om];exact wu64 om))<|e_p (zh rfl)<|zk<|zg<|zj ?_
   obtain ⟨s,hs⟩:∃s:Nat,s=(1000000000 / ((Big.digs b).getD ((Big.digs b).length - 1) 0+1)).toNat:=⟨_,rfl⟩
   obtain ⟨hs1,hs2,hs3⟩:=Big.scale_len (n:=(Big.digs b).length - 1) om hs
   have hsd:=Big.digs_one hs1 (by omega:s<1000000000)
   have hsl:(Big.digs s).length=1:=by rw [hsd];rfl
   have e14:((1000000000 / (((Big.digs b).getD ((Big.digs b).length - 1) 0)+1)):Int)=((s:Nat):Int):=by omega
   rw [e14]
   refine zc<|e_mv rfl<|e_mv rfl<|zE rfl rfl (.c rfl (.c rfl .n)) ce114 (znc (a:=a) (d:=s) (p0:=p1) (cap:=c1) (hb:=by first|rfl|assumption|omega|(simp;done)) (hd:=by first|rfl|assumption|omega|(simp;done))) (.c (j:=1) rfl .n) ?_
   rintro ⟨p315,c316⟩ -
   dsimp only [aq,nq,cq]
   refine e_mv rfl<|e_mv rfl<|zE rfl rfl (.c rfl (.c rfl .n)) ce114 (znc (a:=b) (d:=s) (p0:=p2) (cap:=c2) (hb:=by first|rfl|assumption|omega|(simp;done)) (hd:=by first|rfl|assumption|omega|(simp;done))) (.c (j:=3) rfl .n) ?_
   rintro ⟨p317,c318⟩ -
   dsimp only [aq,nq,cq]
   refine e_p (zh rfl)<|e_p (zh rfl)<|zk<|zg<|zj ?_
   obtain ⟨A,hA⟩:∃z,z=a*s:=⟨_,rfl⟩
   rw [← hA]
   obtain ⟨V,hV⟩:∃z,z=b*s:=⟨_,rfl⟩
   rw [← hV]
   refine zta 1 rfl (fun hcA=> ?_)
   have hAl:(Big.digs a).length≤(Big.digs A).length:=by rw [hA];exact Big.len_mul_ge hs1
   have hAl2:(Big.digs A).length≤(Big.digs a).length+1:=by have h8:=Big.len_mul_le a s;rw [hsl] at h8;rw [hA];exact h8
   obtain ⟨m,hm⟩:∃z,(Big.digs V).length=z+1:=⟨(Big.digs b).length - 1,by rw [hV,hs3]⟩
   have hmb:(Big.digs b).length=m+1:=by rw [hV,hs3] at hm;omega
   have e19:((((Big.digs b).length:Nat):Int):Int)=(((m+1):Nat):Int):=by omega
   rw [e19]
   refine zc<|e_mv rfl<|e_mv rfl<|e_p (zea Tryz.underlying40 rfl)<|e_mv rfl<|e_p (zka (z:=((((Big.digs A).length - (m+1)):Nat):Int)) rfl rfl (w64 om))<|e_p (zJ (z:=((((Big.digs A).length - m):Nat):Int)) rfl rfl (w64 om))<|e_p (zme (lo:=((Big.digs A).length - m)) (hi:=(Big.digs A).length) Tryz.underlying40 sz131 rfl (.s rfl) .n (.inr ⟨_,rfl⟩) (.inl ⟨rfl,rfl⟩) om om)<|zGc (zlf 1 rfl ((Big.digs A).length - m) ((Big.digs A).length) om om) (fun _ _=> ?_)
   refine zE rfl rfl (.c rfl (.c rfl .n)) ce91 (zWa (s:=false) (p:=(newP p315 c316 ((Big.digs A).length - m) 1)) (n:=((Big.digs A).length) - ((Big.digs A).length - m)) (cap:=(c316 - ((Big.digs A).length - m))) (l:=(((Big.digs A).take ((Big.digs A).length)).drop ((Big.digs A).length - m))) (hn:=by first|rfl|omega|(simp;done)|(simp;omega)) (ho:=by exact Big.okL_drop (Big.okL_take (Big.digs_ok _) _) _) (hln:=by first|rfl|omega|(simp;done)|(simp;omega))) (.c (j:=0) rfl .n) ?_
   rintro ⟨p220,c221⟩ -
   dsimp only [aq,nq,cq]
   refine e_p (zKa Tryz.underlying42 rfl ty40 rfl rfl)<|e_p (zh rfl)<|zk<|zg<|zj ?_
   obtain ⟨R0,hR0⟩:∃z,z=(Big.sg false (Big.valL (((Big.digs A).take ((Big.digs A).length)).drop ((Big.digs A).length - m)))).natAbs:=⟨_,rfl⟩
   rw [← hR0]
   have hpt:Big.PtI A V ((Big.digs A).length - m) [] R0:=Big.PtI.start hm om (by rw [hR0,List.take_length];have:=Big.valL_nonneg (Big.okL_drop (Big.digs_ok A) ((Big.digs A).length - m));simp only [Big.sg];omega)
   refine zc<|e_mv rfl<|e_p (zea Tryz.underlying40 rfl)<|e_mv rfl<|e_p (zka (z:=((((Big.digs A).length - (m+1)):Nat):Int)) rfl rfl (w64 om))<|e_p (zJ (z:=((((Big.digs A).length - m):Nat):Int)) rfl rfl (w64 om))<|zLa rfl rfl (zGb (r:=rI .u32) (k:=((Big.digs A).length - m)) (x0:=0) (γ0:=()) Tryz.underlying40 inf131 rfl rfl rfl rfl om om rfl (fun _ _=>by exact zG.2 dd) dd) (fun b22 _=> ?_)
   refine e_p (zh rfl)<|zk<|zg<|zj<|zj<|zc<|e_mv rfl<|e_p (zea Tryz.underlying40 rfl)<|e_mv rfl<|e_p (zka (z:=((((Big.digs A).length:Nat):Int) - (((m+1):Nat):Int))) rfl rfl (w64 om))<|e_p (zh rfl)<|zk<|zg<|zv<|zya (X:=Nat×(List Int)×Nat×(Option Addr)×Nat) (fun x:Nat×(List Int)×Nat×(Option Addr)×Nat=>Big.PtI A V x.1 x.2.1 x.2.2.1∧x.1+x.2.1.length=(Big.digs A).length - m) (fun x=>[(10,.slice (x.2.2.2.1) ((Big.digs (x.2.2.1)).length) (x.2.2.2.2)),(12,.int .i64 (((x.1:Nat):Int) - 1)),(11,.slice (some ⟨b22,0,none⟩) ((Big.digs A).length - m) ((Big.digs A).length - m)),(1,.slice p317 ((Big.digs V).length) c318),(0,.slice p315 ((Big.digs A).length) c316),(9,.int .u64 ((s:Nat):Int)),(6,.int .i64 (((m+1):Nat):Int)),(5,.slice none 0 0),(4,.slice none 0 0)]) (fun x=>[rowA 131 (rI .u32) (some ⟨b22,0,none⟩) ((Big.digs A).length - m) (List.replicate x.1 0++x.2.1)]) (fun x=>[slF (rI .u32) (x.2.2.2.1) (x.2.2.2.2) (Big.digs (x.2.2.1)),slF (rI .u32) p220 c221 (Big.digs R0),slF (rI .u32) (newP p315 c316 ((Big.digs A).length - m) 1) (c316 - ((Big.digs A).length - m)) (((Big.digs A).take ((Big.digs A).length)).drop ((Big.digs A).length - m)),slF (rI .u32) p317 c318 (Big.digs V),slF (rI .u32) p315 c316 (Big.digs A),atF b11 o12 [.int .u32 ((Big.digs b).getD ((Big.digs b).length - 1) 0)],slF (rI .u32) p1 c1 (Big.digs a),slF (rI .u32) p2 c2 (Big.digs b)]) (fun x:Nat×(List Int)×Nat×(Option Addr)×Nat=>x.1) (((Big.digs A).length - m),([]:List Int),R0,p220,c221) (show Big.PtI A V ((Big.digs A).length - m) ([]:List Int) R0∧((Big.digs A).length - m)+([]:List Int).length=(Big.digs A).length - m from by exact ⟨hpt,rfl⟩) ((.e rfl (by first|rfl|(congr 1;omega)|simp_all) (.e rfl (congrArg (Value.int .i64) om) (.of rfl))):SubM _ _) (ho:=((.e (i:=0) rfl (by simp) .n):PickO _ _ _)) ((.e (j:=0) rfl (by first|rfl|simp_all) (.of [0,1,2,3,4,5,6] rfl)):SelR _ _ _) ?_
   rintro ⟨jj,qs,R,pr,cr⟩ hI
   replace hI:Big.PtI A V jj qs R∧jj+qs.length=(Big.digs A).length - m:=hI
   try dsimp only
   obtain ⟨hP,hql⟩:=hI
   refine zj<|zj<|zc<|e_mv rfl<|e_p (zsb rfl rfl)<|zk<|zg<|zP rfl (fun hj=> ?_) (fun hj=> ?_)
   ·
    obtain ⟨j,rfl⟩:∃j,jj=j+1:=⟨jj - 1,by omega⟩
    have e23:(((((j+1):Nat):Int) - 1):Int)=((j:Nat):Int):=by omega
    rw [e23]
    have hjle:=hP.le
    have hRV:=hP.lt
    have hdn:=Big.okL_getD (Big.digs_ok A) j
    obtain ⟨d,hd⟩:∃d:Nat,(Big.digs A).getD j 0=(d:Int):=⟨_,(Int.toNat_of_nonneg hdn.1).symm⟩
    have hd9:d<1000000000:=by omega
    have hWlt9:=Big.pt_lim hRV hd9
    have hRl:=Big.ln_mono' (Nat.le_of_lt hRV)
    refine zx<|zg<|zj<|zv<|zj<|zc<|e_mv rfl<|e_mv rfl<|e_mv rfl<|zU (x0:=((Big.digs A).getD j 0)) 4 j rfl Tryz.underlying40 sz131 rfl rfl rfl (by first|rfl|assumption|(simp;done)|(simp;omega)|omega) rfl rfl (gD (d:=0) om) (fun b24 o25 hok26=> ?_)
    replace hok26:=zG.1 hok26
    refine e_ru (zA (j:=0) 0 ty131 rfl rfl rfl rfl) ?_
    have e27:(((Big.digs A).getD j 0):Int)=((d:Nat):Int):=by exact hd
    rw [e27]
    refine zE rfl rfl (.c rfl (.c rfl .n)) ce115 (zXd (a:=R) (d:=d) (p0:=pr) (cap:=cr) (hb:=by first|rfl|assumption|omega|(simp;done)) (hd:=by first|rfl|assumption|omega|(simp;done))) (.c (j:=1) rfl .n) ?_
    rintro ⟨p328,c329⟩ -
    dsimp only [aq,nq,cq]
    refine e_p (zh rfl)<|zk<|zg<|zj ?_
    obtain ⟨W,hW⟩:∃z,z=(R*1000000000+d):=⟨_,rfl⟩
    rw [← hW]
    have hWlt:W<V*1000000000:=by rw [hW];exact hWlt9
    have hWl:=Big.pt_wlen hWlt hm
    have hw1:=Big.okL_getD (Big.digs_ok W) (m+1)
    have hw0:=Big.okL_getD (Big.digs_ok W) m
    have hv0:=Big.okL_getD (Big.digs_ok V) m
    have hg0:0≤(((Big.digs W).getD (m+1) 0*1000000000+(Big.digs W).getD m 0) / ((Big.digs V).getD m 0+1)):=Int.ediv_nonneg om om
    have hg1:(((Big.digs W).getD (m+1) 0*1000000000+(Big.digs W).getD m 0) / ((Big.digs V).getD m 0+1))≤1000000000000000000:=Int.le_trans (Int.ediv_le_self _ om) om
    refine zT (OW:=[]) (O:=[rowA 131 (rI .u32) (some ⟨b22,0,none⟩) ((Big.digs A).length - m) (List.replicate (j+1) 0++qs)]) 100000 mixed (.then (.block (.then (.then (.block (.then .ret)))))) kr<|e_dm 0 rfl rfl rfl<|e_dm 1 rfl rfl rfl<|e_dm 4 rfl rfl rfl<|e_dm 5 rfl rfl rfl<|e_pv 6 rfl rfl (zka (z:=((m:Nat):Int)) rfl rfl (w64 om))<|e_dm 9 rfl rfl rfl<|e_dm 10 rfl rfl rfl<|e_pv 11 rfl rfl (zka (z:=((m:Nat):Int)) rfl rfl (w64 om))<|zSa (x0:=((Big.digs V).getD m 0)) 12 rfl rfl kr kr 5 m rfl Tryz.underlying40 sz131 rfl rfl rfl (by first|rfl|assumption|(simp;done)|(simp;omega)|omega) rfl rfl (gD (d:=0) om) (fun b30 o31 hok32=> ?_)
    replace hok32:=zG.1 hok32
    refine e_u 13 rfl rfl (zA (j:=0) 0 ty131 rfl rfl rfl rfl)<|e_pv 14 rfl rfl (zM (z:=((Big.digs V).getD m 0)) rfl (by rw [Tryz.underlying131];rfl) Tryz.underlying130 (wu64 om))<|e_pv 15 rfl rfl (zJ (z:=(((Big.digs V).getD m 0)+1)) rfl rfl (wu64 om))<|e_one 2 (zJa rfl rfl rfl rfl (.c rfl (.c rfl .n)) ce109 (zlb (p:=p328) (n:=(Big.digs W).length) (cap:=c329) (l:=Big.digs W) (i:=(m+1)) (hn:=by first|rfl|assumption|omega|(simp;done)) (hi:=by first|rfl|assumption|omega|(simp;done))) (.c (j:=1) rfl .n) ?_)
    refine e_pv 3 rfl rfl (zGa (z:=((Big.digs W).getD (m+1) 0*1000000000)) rfl rfl (wu64 om))<|e_one 7 (zJa rfl rfl rfl rfl (.c rfl (.c rfl .n)) ce109 (zlb (p:=p328) (n:=(Big.digs W).length) (cap:=c329) (l:=Big.digs W) (i:=m) (hn:=by first|rfl|assumption|omega|(simp;done)) (hi:=by first|rfl|assumption|omega|(simp;done))) (.c (j:=1) rfl .n) ?_)
    refine e_pv 8 rfl rfl (zJ (z:=(((Big.digs W).getD (m+1) 0*1000000000)+(Big.digs W).getD m 0)) rfl rfl (wu64 om))<|e_pv 16 rfl rfl (zUa (z:=((((Big.digs W).getD (m+1) 0*1000000000)+(Big.digs W).getD m 0) / (((Big.digs V).getD m 0)+1))) rfl rfl om (by rw [quoN (z:=((((Big.digs W).getD (m+1) 0*1000000000)+(Big.digs W).getD m 0) / (((Big.digs V).getD m 0)+1))) om om];exact wu64 om))<|e_pv 17 rfl rfl (zh rfl)<|zQ kr<|zg<|zj ?_
    obtain ⟨g0,hg9⟩:∃g:Nat,(g:Int)=(((Big.digs W).getD (m+1) 0*1000000000+(Big.digs W).getD m 0) / ((Big.digs V).getD m 0+1)):=⟨_,Int.toNat_of_nonneg hg0⟩
    obtain ⟨hgm,hgl⟩:=Big.pt_guess hWlt hm hg9
    have hVg:=Big.ln_mono' hgm
    have e33:(((((Big.digs W).getD (m+1) 0*1000000000)+(Big.digs W).getD m 0) / (((Big.digs V).getD m 0)+1)):Int)=((g0:Nat):Int):=by exact hg9.symm
    rw [e33]
    refine zc<|e_mv rfl<|e_mv rfl<|e_mv rfl<|zE rfl rfl (.c rfl (.c rfl .n)) ce114 (znc (a:=V) (d:=g0) (p0:=p317) (cap:=c318) (hb:=by first|rfl|assumption|omega|(simp;done)) (hd:=by first|rfl|assumption|omega|(simp;done))) (.c (j:=6) rfl .n) ?_
    rintro ⟨p334,c335⟩ -
    dsimp only [aq,nq,cq]
    refine zE rfl rfl (.c rfl (.c rfl .n)) ce94 (zbc (a:=W) (b:=V*g0) (p1:=p328) (c1:=c329) (p2:=p334) (c2:=c335) (hb1:=by first|rfl|assumption|omega|(simp;done)) (hb2:=by first|rfl|assumption|omega|(simp;done)) (hab:=by first|rfl|assumption|omega|(simp;done))) (.c (j:=2) rfl (.c (j:=0) rfl .n)) ?_
    rintro ⟨p336,c337⟩ -
    dsimp only [aq,nq,cq]
    refine e_p (zh rfl)<|zk<|zg<|zj<|zv<|zya (X:=Nat×Nat×(Option Addr)×Nat) (fun x:Nat×Nat×(Option Addr)×Nat=>x.2.1+V*x.1=W) (fun x=>[(10,.slice (x.2.2.1) ((Big.digs (x.2.1)).length) (x.2.2.2)),(13,.int .u64 ((x.1:Nat):Int)),(12,.int .i64 ((j:Nat):Int)),(11,.slice (some ⟨b22,0,none⟩) ((Big.digs A).length - m) ((Big.digs A).length - m)),(1,.slice p317 ((Big.digs V).length) c318),(0,.slice p315 ((Big.digs A).length) c316),(9,.int .u64 ((s:Nat):Int)),(6,.int .i64 (((m+1):Nat):Int)),(5,.slice none 0 0),(4,.slice none 0 0)]) (fun x=>[rowA 131 (rI .u32) (some ⟨b22,0,none⟩) ((Big.digs A).length - m) (List.replicate (j+1) 0++qs)]) (fun x=>[slF (rI .u32) (x.2.2.1) (x.2.2.2) (Big.digs (x.2.1)),slF (rI .u32) p336 c337 (Big.digs (W - (V*g0))),slF (rI .u32) p334 c335 (Big.digs (V*g0)),atF b30 o31 [.int .u32 ((Big.digs V).getD m 0)],slF (rI .u32) p328 c329 (Big.digs W),atF b24 o25 [.int .u32 ((d:Nat):Int)],slF (rI .u32) pr cr (Big.digs R),slF (rI .u32) p220 c221 (Big.digs R0),slF (rI .u32) (newP p315 c316 ((Big.digs A).length - m) 1) (c316 - ((Big.digs A).length - m)) (((Big.digs A).take ((Big.digs A).length)).drop ((Big.digs A).length - m)),slF (rI .u32) p317 c318 (Big.digs V),slF (rI .u32) p315 c316 (Big.digs A),atF b11 o12 [.int .u32 ((Big.digs b).getD ((Big.digs b).length - 1) 0)],slF (rI .u32) p1 c1 (Big.digs a),slF (rI .u32) p2 c2 (Big.digs b)]) (fun x:Nat×Nat×(Option Addr)×Nat=>x.2.1) (g0,(W - V*g0),p336,c337) (show (W - V*g0)+V*g0=W from by exact Nat.sub_add_cancel hgm) ((.e rfl (by first|rfl|(congr 1;omega)|simp_all) (.of rfl)):SubM _ _) (ho:=((.c (i:=0) rfl .n):PickO _ _ _)) ((.e (j:=0) rfl (by first|rfl|simp_all) (.of [0,1,2,3,4,5,6,7,8,9,10,11,12] rfl)):SelR _ _ _) ?_
    rintro ⟨g,r,p9,c9⟩ hJ
    replace hJ:r+V*g=W:=hJ
    try dsimp only
    have hgb:g<1000000000:=Nat.lt_of_mul_lt_mul_left (a:=V) om
    have hrl:=Big.ln_mono' (show r≤W by omega)
    refine zj<|zj<|zc<|e_mv rfl<|e_mv rfl<|zR rfl rfl (.c rfl (.c rfl .n)) ce93 (zbd (a:=r) (b:=V) (p1:=p9) (c1:=c9) (p2:=p317) (c2:=c318)) (.c (j:=0) rfl (.c (j:=9) rfl .n))<|e_p (zsb rfl rfl)<|zk<|zg<|zP rfl (fun hge=> ?_) (fun hge=> ?_)
    ·
     have hrV:V≤r:=by have h9:=Big.cmp_ge.1 hge;omega
     refine zx<|zg<|zv<|zj<|zc<|e_mv rfl<|e_mv rfl<|zE rfl rfl (.c rfl (.c rfl .n)) ce94 (zbc (a:=r) (b:=V) (p1:=p9) (c1:=c9) (p2:=p317) (c2:=c318) (hb1:=by first|rfl|assumption|omega|(simp;done)) (hb2:=by first|rfl|assumption|omega|(simp;done)) (hab:=by first|rfl|assumption|omega|(simp;done))) (.c (j:=0) rfl (.c (j:=9) rfl .n)) ?_
     rintro ⟨p338,c339⟩ -
     dsimp only [aq,nq,cq]
     refine e_p (zh rfl)<|zk<|zg<|zc<|e_mv rfl<|e_p (zJ (z:=(((g+1):Nat):Int)) rfl rfl (wu64 om))<|e_p (zh rfl)<|zk<|zK<|zxa ((g+1),(r - V),p338,c339) (show (r - V)+V*(g+1)=W from by rw [Nat.mul_succ];omega) (by show r - V<r;omega) ((.e rfl (by first|rfl|(congr 1;omega)|simp_all) (.of rfl)):SubM _ _) (ho:=((.c (i:=0) rfl .n):PickO _ _ _)) ((.e (j:=0) rfl (by first|rfl|simp_all) (.of [2,3,4,5,6,7,8,9,10,11,12,13,14] rfl)):SelR _ _ _)
    ·
     have hrV:r<V:=by have h9:¬(V:Int)≤r:=fun h=>hge (Big.cmp_ge.2 h);omega
     have hst:=hP.step hd (by rw [← hW];exact hJ) hrV
     refine zpa<|zn<|zn<|zD<|zg<|zc<|e_mv rfl<|e_mv rfl<|e_mv rfl<|e_p (zM (z:=((g:Nat):Int)) rfl (by rw [Tryz.underlying130];rfl) Tryz.underlying131 (wu32 om))<|e_p (zsa (j:=j) Tryz.underlying40 sz131 rfl rfl rfl om)<|zdb 0 rfl rfl rfl (zja (j:=j) (x0:=((g:Nat):Int)) (γ0:=()) rfl rfl (by first|omega|(rw [List.length_map];omega)|(simp only [List.length_set];omega)|(simp;done)|(simp;omega)) rfl rfl sz131 (fun _ _=>by exact zG.2 om)) (fun _=> .z) (fun _ _=> ?_)
     refine zk<|zK<|zg<|zc<|e_mv rfl<|e_p (zka (z:=(((j:Nat):Int) - 1)) rfl rfl (w64 om))<|e_p (zh rfl)<|zk<|zxa (j,(((g:Nat):Int) :: qs),r,p9,c9) (show Big.PtI A V j (((g:Nat):Int) :: qs) r∧j+(((g:Nat):Int) :: qs).length=(Big.digs A).length - m from by exact ⟨hst,by rw [List.length_cons];omega⟩) (by show j<j+1;omega) ((.of rfl):SubM _ _) (ho:=((.e (i:=0) rfl (by rw [Big.pad_set]) .n):PickO _ _ _)) ((.of [0,7,8,9,10,11,12,13] rfl):SelR _ _ _)
   ·
    have hj0:jj=0:=by omega
    have hI0:Big.PtI A V 0 qs R:=hj0 ▸ hP
    obtain ⟨hf1,hf2⟩:=hI0.fin
    have hsc:=Big.scale_div (a:=a) (b:=b) hs1
    have hRV:=hI0.lt
    have hRl:=Big.ln_mono' (Nat.le_of_lt hRV)
    have hz4:=Big.made_nat hI0.ok hf1
    have hok5:=hI0.ok
    refine zpa<|zn<|zn<|zD<|zg<|zj<|zc<|e_mv rfl<|e_mv rfl<|zE rfl rfl (.c rfl (.c rfl .n)) ce113 (zod (a:=R) (mm:=s) (p:=pr) (cap:=cr) (hb:=by first|rfl|assumption|omega|(simp;done)) (hm0:=by first|rfl|assumption|omega|(simp;done)) (hm1:=by first|rfl|assumption|omega|(simp;done))) (.c (j:=0) rfl .n) ?_
    rintro ⟨p240,c241⟩ -
    dsimp only [aq,nq,cq]
    refine e_mv rfl<|e_p (zy rfl rfl)<|e_p (zy rfl rfl)<|e_p (zh rfl)<|e_p (zh rfl)<|zk<|zg<|zj ?_
    have e42:List.replicate jj 0++qs=qs:=by rw [hj0];rfl
    rw [e42]
    refine zc<|e_mv rfl<|zqa 0 rfl .z<|zE rfl rfl (.c rfl (.c rfl .n)) ce91 (zWa (s:=false) (p:=some ⟨b22,0,none⟩) (n:=((Big.digs A).length - m)) (cap:=((Big.digs A).length - m)) (l:=qs) (hn:=by first|rfl|omega|(simp;done)|(simp;omega)) (ho:=by exact hok5) (hln:=by first|rfl|omega|(simp;done)|(simp;omega))) (.c (j:=0) rfl .n) ?_
    rintro ⟨p243,c244⟩ -
    dsimp only [aq,nq,cq]
    refine e_p (zKa Tryz.underlying42 rfl ty40 rfl rfl)<|e_mv rfl<|e_p (zh rfl)<|e_p (zh rfl)<|zk<|zg<|zO ?_
    have hr9:R / s=a%b:=by rw [hf2,hA,hV,hsc.2]
    have hz5:(Big.sg false (Big.valL qs)).natAbs=a / b:=by rw [hz4,hA,hV,hsc.1]
    exact zCa Tryz.results99 (p243,c244,p240,c241) trivial (zB rfl) (zB rfl) (by rw [hz5,hr9]) (ho:=(.n:PickO _ _ _)) ((.e (j:=0) rfl (by rw [hz5]) (.e (j:=2) rfl (by rw [hr9]) .n)):SelR _ _ _)
end Go.Proofs.YtjeahiahjgifgaaGreatDoor.Sp
namespace Go.Proofs.YtjeahiahjgifgaaGreatDoor.Sp
open Go
set_option linter.unusedVariables false
set_option maxRecDepth 100000
set_option maxHeartbeats 8000000
theorem zve {s:Bool} {p1:Option Addr} {n1:Nat} {c1:Nat} {l1:List Int} {t:Bool} {p2:Option Addr} {n2:Nat} {c2:Nat} {l2:List Int} (hn1:l1.length=n1) (hn2:l2.length=n2) (hm1:n1≤549755813888) (hm2:n2≤549755813888):Con Tryz.prog 68 [.agg #[.bool s,.slice p1 n1 c1],.agg #[.bool t,.slice p2 n2 c2]] [] [slF (rI .u32) p1 c1 l1,slF (rI .u32) p2 c2 l2] (Y:=(Option Addr)×Nat) (fun y=>True) (fun y=> .agg #[.bool (decide (((Nat.gcd (Big.raw s l1).natAbs (Big.raw t l2).natAbs:Nat):Int)<0)),.slice (y.1) ((Big.digs (((Nat.gcd (Big.raw s l1).natAbs (Big.raw t l2).natAbs:Nat):Int).natAbs)).length) (y.2)]) (fun y=>[]) (fun y=>[slF (rI .u32) (y.1) (y.2) (Big.digs (((Nat.gcd (Big.raw s l1).natAbs (Big.raw t l2).natAbs:Nat):Int).natAbs))]):=by
 refine zw Tryz.func68 rfl rfl rfl (fun c=> ?_)
 show RunC _ _ _ _ _ [(0,.agg #[.bool s,.slice p1 n1 c1]),(1,.agg #[.bool t,.slice p2 n2 c2])] [] [slF (rI .u32) p1 c1 l1,slF (rI .u32) p2 c2 l2]
 refine zta 0 rfl (fun hL0=> ?_)
 refine zib 0 rfl (fun hE0=> ?_)
 refine zta 1 rfl (fun hL1=> ?_)
 refine zib 1 rfl (fun hE1=> ?_)
 have hnn1:Big.nn l1:=fun g hg=>(zG.1 (hE0 g hg)).1
 have hnn2:Big.nn l2:=fun g hg=>(zG.1 (hE1 g hg)).1
 have hb1:Big.ln (Big.raw s l1)≤n1:=by have:=Big.zjb (s:=s) hnn1;omega
 have hb2:Big.ln (Big.raw t l2)≤n2:=by have:=Big.zjb (s:=t) hnn2;omega
 unfold Big.ln at hb1 hb2
 refine zj<|zc<|zH rfl rfl (zba rfl rfl) (fun b1=> ?_)
 refine zH rfl rfl (zba rfl rfl) (fun b2=> ?_)
 refine zH rfl rfl (zo zr42 rfl) (fun b3=> ?_)
 refine zk<|zg<|zj<|zT (OW:=[]) (O:=[boxA b3 42 [wz.b,wz.l],boxA b2 42 [.bool t,.slice p2 n2 c2],boxA b1 42 [.bool s,.slice p1 n1 c1]]) 100000 mixed (.then .ret) kr<|e_u 0 rfl rfl (ze 2 ty42 rfl rfl (.t2 .nil))<|e_u 3 rfl rfl (ze 1 ty42 rfl rfl (.t2 .nil))<|e_one 1 (zm rfl rfl rfl rfl (.c rfl .n) ce90 (zfb (s:=s) (p:=p1) (n:=n1) (cap:=c1) (l:=l1) (hn:=ass) (hln:=cbo)) (.c (j:=0) rfl .n) ?_)
 rintro ⟨p24,c25⟩ -
 dsimp only [aq,nq,cq]
 refine e_pv 2 rfl rfl (zKa Tryz.underlying42 rfl ty40 rfl rfl)<|e_one 4 (zm rfl rfl rfl rfl (.c rfl .n) ce90 (zfb (s:=t) (p:=p2) (n:=n2) (cap:=c2) (l:=l2) (hn:=ass) (hln:=cbo)) (.c (j:=2) rfl .n) ?_)
 rintro ⟨p26,c27⟩ -
 dsimp only [aq,nq,cq]
 refine e_pv 5 rfl rfl (zKa Tryz.underlying42 rfl ty40 rfl rfl)<|e_pv 6 rfl rfl (zh rfl)<|e_pv 7 rfl rfl (zh rfl)<|zQ kr<|zg<|zj<|zv<|zya (X:=Nat×Nat×(Option Addr)×Nat×(Option Addr)×Nat) (fun x:Nat×Nat×(Option Addr)×Nat×(Option Addr)×Nat=>Nat.gcd x.1 x.2.1=Nat.gcd (Big.raw s l1).natAbs (Big.raw t l2).natAbs∧(Big.digs x.1).length≤549755813888∧(Big.digs x.2.1).length≤549755813888) (fun x=>[(6,.slice (x.2.2.2.2.1) ((Big.digs (x.2.1)).length) (x.2.2.2.2.2)),(5,.slice (x.2.2.1) ((Big.digs (x.1)).length) (x.2.2.2.1)),(4,.pointer (some ⟨b3,0,none⟩))]) (fun x=>[boxA b3 42 [wz.b,wz.l],boxA b2 42 [.bool t,.slice p2 n2 c2],boxA b1 42 [.bool s,.slice p1 n1 c1]]) (fun x=>[slF (rI .u32) (x.2.2.1) (x.2.2.2.1) (Big.digs (x.1)),slF (rI .u32) (x.2.2.2.2.1) (x.2.2.2.2.2) (Big.digs (x.2.1)),slF (rI .u32) p26 c27 (Big.digs ((Big.raw t l2).natAbs)),slF (rI .u32) p24 c25 (Big.digs ((Big.raw s l1).natAbs)),slF (rI .u32) p1 c1 l1,slF (rI .u32) p2 c2 l2]) (fun x:Nat×Nat×(Option Addr)×Nat×(Option Addr)×Nat=>x.2.1) ((Big.raw s l1).natAbs,(Big.raw t l2).natAbs,p24,c25,p26,c27) (show Nat.gcd ((Big.raw s l1).natAbs) ((Big.raw t l2).natAbs)=Nat.gcd (Big.raw s l1).natAbs (Big.raw t l2).natAbs∧(Big.digs ((Big.raw s l1).natAbs)).length≤549755813888∧(Big.digs ((Big.raw t l2).natAbs)).length≤549755813888 from by exact ⟨rfl,by omega,by omega⟩) ((.of rfl):SubM _ _) (ho:=((.of [0,0,0] rfl):PickO _ _ _)) ((.of [1,0,0,1,2,3] rfl):SelR _ _ _) ?_
 rintro ⟨a,b,pa,ca,pb,cb⟩ hI
 replace hI:Nat.gcd a b=Nat.gcd (Big.raw s l1).natAbs (Big.raw t l2).natAbs∧(Big.digs a).length≤549755813888∧(Big.digs b).length≤549755813888:=hI
 try dsimp only
 obtain ⟨hgc,hba,hbb⟩:=hI
 refine zj<|zDa (X:=Unit) (fun x=>True) (fun x=>[(29,.bool (decide (0<(Big.digs b).length∧(2<(Big.digs a).length∨2<(Big.digs b).length)))),(6,.slice pb ((Big.digs b).length) cb),(5,.slice pa ((Big.digs a).length) ca),(4,.pointer (some ⟨b3,0,none⟩))]) (fun x=>[boxA b3 42 [wz.b,wz.l],boxA b2 42 [.bool t,.slice p2 n2 c2],boxA b1 42 [.bool s,.slice p1 n1 c1]]) (fun x=>[slF (rI .u32) pa ca (Big.digs a),slF (rI .u32) pb cb (Big.digs b),slF (rI .u32) p26 c27 (Big.digs ((Big.raw t l2).natAbs)),slF (rI .u32) p24 c25 (Big.digs ((Big.raw s l1).natAbs)),slF (rI .u32) p1 c1 l1,slF (rI .u32) p2 c2 l2]) ?_ ?_
 ·
  refine zc<|e_mv rfl<|e_p (zea Tryz.underlying40 rfl)<|e_p (zYa rfl rfl)<|zia rfl rfl (zma rfl) (fun h8=> ?_) (fun h8=> ?_)
  ·
   refine e_mv rfl<|e_p (zea Tryz.underlying40 rfl)<|e_p (zYa rfl rfl)<|zia rfl rfl (zma rfl) (fun h9=> ?_) (fun h9=> ?_)
   ·
    refine e_no<|e_no<|e_no<|e_p (zI rfl rfl)<|e_p (zI rfl rfl)<|zk ?_
    exact zha () (show True from by first|trivial|omega|simp_all) ((.e rfl (congrArg Value.bool (by first|(simp;omega)|exact decide_eq_decide.2 ⟨fun h=>⟨by omega,.inr om⟩,fun h=>by omega⟩)) (.of rfl)):SubM _ _) (ho:=((.of [0,0,0] rfl):PickO _ _ _)) ((.of [0,1,2,3,4,5] rfl):SelR _ _ _)
   ·
    refine e_mv rfl<|e_p (zea Tryz.underlying40 rfl)<|e_p (zYa rfl rfl)<|e_p (zI rfl rfl)<|e_p (zI rfl rfl)<|zk ?_
    exact zha () (show True from by first|trivial|omega|simp_all) ((.e rfl (congrArg Value.bool (by first|(simp;omega)|exact decide_eq_decide.2 ⟨fun h=>⟨by omega,.inr om⟩,fun h=>by omega⟩)) (.of rfl)):SubM _ _) (ho:=((.of [0,0,0] rfl):PickO _ _ _)) ((.of [0,1,2,3,4,5] rfl):SelR _ _ _)
  ·
   refine e_no<|e_no<|e_no<|e_no<|e_no<|e_no<|e_no<|e_no<|e_p (zI rfl rfl)<|zk ?_
   exact zha () (show True from by first|trivial|omega|simp_all) ((.e rfl (congrArg Value.bool (by first|(simp;omega)|exact decide_eq_decide.2 ⟨fun h=>⟨by omega,.inr om⟩,fun h=>by omega⟩)) (.of rfl)):SubM _ _) (ho:=((.of [0,0,0] rfl):PickO _ _ _)) ((.of [0,1,2,3,4,5] rfl):SelR _ _ _)
 ·
  rintro ⟨⟩ -
  try dsimp only
  refine zP rfl (fun hw=> ?_) (fun hw=> ?_)
  ·
   have hb0:0<b:=Nat.pos_of_ne_zero (fun e=>by rw [e] at hw;simp [Big.digs_zero] at hw)
   refine zx<|zg<|zv<|zj<|zc<|e_mv rfl<|e_mv rfl<|zE rfl rfl (.c rfl (.c rfl .n)) ce99 (zpd (a:=a) (b:=b) (p1:=pa) (c1:=ca) (p2:=pb) (c2:=cb) (hb1:=cbo) (hb2:=cbo) (hb0:=cbo)) (.c (j:=0) rfl (.c (j:=1) rfl .n)) ?_
   rintro ⟨p310,c311,p412,c413⟩ -
   dsimp only [aq,nq,cq]
   refine e_mv rfl<|e_p (zy rfl rfl)<|e_p (zy rfl rfl)<|e_p (zh rfl)<|e_p (zh rfl)<|zk<|zg<|zc<|e_mv rfl<|e_mv rfl<|e_p (zh rfl)<|e_p (zh rfl)<|zk<|zK<|zxa (b,(a%b),pb,cb,p412,c413) (show Nat.gcd b (a%b)=Nat.gcd (Big.raw s l1).natAbs (Big.raw t l2).natAbs∧(Big.digs b).length≤549755813888∧(Big.digs (a%b)).length≤549755813888 from by exact ⟨by rw [Big.gcd_rest,hgc],hbb,Nat.le_trans (Big.ln_mono' (Nat.le_of_lt (Nat.mod_lt a hb0))) hbb⟩) (by exact Nat.mod_lt a hb0) ((.e rfl (by first|rfl|(congr 1;omega)|simp_all) (.c rfl (.c rfl .n))):SubM _ _) (ho:=((.of [0,0,0] rfl):PickO _ _ _)) ((.c (j:=3) rfl (.e (j:=1) rfl (by first|rfl|simp_all) (.of [4,5,6,7] rfl))):SelR _ _ _)
  ·
   refine zpa<|zn<|zn<|zD<|zg<|zj<|zj<|zc<|e_mv rfl<|e_p (zea Tryz.underlying40 rfl)<|e_p (zIa rfl rfl)<|zk<|zg<|zP rfl (fun hbz=> ?_) (fun hbz=> ?_)
   ·
    have hbz0:b=0:=Big.len_digs_nil.1 om
    have hfin:a=Nat.gcd (Big.raw s l1).natAbs (Big.raw t l2).natAbs:=by rw [← hgc,hbz0,Nat.gcd_zero_right]
    refine zj<|zc<|e_mv rfl<|zE rfl rfl (.c rfl (.c rfl .n)) ce91 (zyb (s:=false) (a:=a) (p:=pa) (cap:=ca) (hln:=cbo)) (.c (j:=0) rfl .n) ?_
    rintro ⟨p214,c215⟩ -
    dsimp only [aq,nq,cq]
    refine zl 0 rfl rfl rfl rfl rfl sz42 rfl (.t2 .nil) .z<|zk<|zg<|zO<|zt ?_
    exact zL Tryz.results68 (p214,c215) trivial (zr 0 ty42 rfl rfl (.t2 .nil)) (by rw [← hfin];rfl) (ho:=(.n:PickO _ _ _)) ((.e (j:=0) rfl (by rw [← hfin];rfl) .n):SelR _ _ _)
   ·
    have ha2:(Big.digs a).length≤2:=by omega
    have hb2:(Big.digs b).length≤2:=by omega
    have ha18:=Big.two_lt ha2
    have hb18:=Big.two_lt hb2
    refine zx<|zg<|zj<|zc<|e_mv rfl<|zR rfl rfl (.c rfl .n) ce100 (zYd (a:=a) (p:=pa) (cap:=ca) (hb:=cbo)) (.c (j:=0) rfl .n)<|e_mv rfl<|zR rfl rfl (.c rfl .n) ce100 (zYd (a:=b) (p:=pb) (cap:=cb) (hb:=cbo)) (.c (j:=1) rfl .n)<|e_p (zh rfl)<|e_p (zh rfl)<|zk<|zg<|zj<|zv<|zya (X:=Nat×Nat) (fun x:Nat×Nat=>Nat.gcd x.1 x.2=Nat.gcd a b∧x.1<1000000000000000000∧x.2<1000000000000000000) (fun x=>[(10,.int .u64 ((x.2:Nat):Int)),(9,.int .u64 ((x.1:Nat):Int)),(4,.pointer (some ⟨b3,0,none⟩))]) (fun x=>[boxA b3 42 [wz.b,wz.l],boxA b2 42 [.bool t,.slice p2 n2 c2],boxA b1 42 [.bool s,.slice p1 n1 c1]]) (fun x=>[slF (rI .u32) pa ca (Big.digs a),slF (rI .u32) pb cb (Big.digs b),slF (rI .u32) p26 c27 (Big.digs ((Big.raw t l2).natAbs)),slF (rI .u32) p24 c25 (Big.digs ((Big.raw s l1).natAbs)),slF (rI .u32) p1 c1 l1,slF (rI .u32) p2 c2 l2]) (fun x:Nat×Nat=>x.2) (a,b) (show Nat.gcd a b=Nat.gcd a b∧a<1000000000000000000∧b<1000000000000000000 from by exact ⟨rfl,ha18,hb18⟩) ((.of rfl):SubM _ _) (ho:=((.of [0,0,0] rfl):PickO _ _ _)) ((.of [0,1,2,3,4,5] rfl):SelR _ _ _) ?_
    rintro ⟨q,r⟩ hJ
    replace hJ:Nat.gcd q r=Nat.gcd a b∧q<1000000000000000000∧r<1000000000000000000:=hJ
    try dsimp only
    obtain ⟨hgq,hq18,hr18⟩:=hJ
    have hmr:=Nat.mod_le q r
    refine zj<|zj<|zc<|e_mv rfl<|e_p (zYa rfl rfl)<|zk<|zg<|zP rfl (fun hy=> ?_) (fun hy=> ?_)
    ·
     refine zx<|zg<|zv<|zT (OW:=[]) (O:=[boxA b3 42 [wz.b,wz.l],boxA b2 42 [.bool t,.slice p2 n2 c2],boxA b1 42 [.bool s,.slice p1 n1 c1]]) 100000 mixed (.block (.then (.block (.then .ret)))) kr<|e_dm 0 rfl rfl rfl<|e_dm 1 rfl rfl rfl<|e_dm 2 rfl rfl rfl<|e_pv 3 rfl rfl (zgb (z:=(((q%r):Nat):Int)) rfl rfl om (remN om om))<|e_pv 4 rfl rfl (zh rfl)<|e_pv 5 rfl rfl (zh rfl)<|zQ kr<|zK<|zxa (r,(q%r)) (show Nat.gcd r (q%r)=Nat.gcd a b∧r<1000000000000000000∧(q%r)<1000000000000000000 from by exact ⟨by rw [Big.gcd_rest,hgq],hr18,by omega⟩) (by exact Nat.mod_lt q om) ((.of rfl):SubM _ _) (ho:=((.of [0,0,0] rfl):PickO _ _ _)) ((.of [0,1,2,3,4,5] rfl):SelR _ _ _)
    ·
     have hrz:r=0:=by omega
     have hfin:q=Nat.gcd (Big.raw s l1).natAbs (Big.raw t l2).natAbs:=by rw [← hgc,←hgq,hrz,Nat.gcd_zero_right]
     obtain ⟨ht1,ht2⟩:=Big.two_val hq18
     refine zpa<|zn<|zn<|zD<|zg<|zj<|zc<|e_mv rfl<|e_p (zgb (z:=(((q%1000000000):Nat):Int)) rfl rfl om (remN om om))<|e_p (zM (z:=(((q%1000000000):Nat):Int)) rfl (by rw [Tryz.underlying130];rfl) Tryz.underlying131 (wu32 om))<|e_mv rfl<|e_p (zUa (z:=(((q / 1000000000):Nat):Int)) rfl rfl om (by rw [quoN (z:=(((q / 1000000000):Nat):Int)) om om];exact wu64 om))<|e_p (zM (z:=(((q / 1000000000):Nat):Int)) rfl (by rw [Tryz.underlying130];rfl) Tryz.underlying131 (wu32 om))<|zLa rfl rfl (zS (enc:=fun z:Int=>[.int .u32 z]) (ok:=InK .u32) (h1:=fun _=>rfl) (h2:=fun _=>rfl) (k:=2) Tryz.underlying40 inf131 rfl dd dd dd (.c (x:=(((q%1000000000):Nat):Int)) rfl rfl (fun _ _=>by exact zG.2 om) (.c (x:=(((q / 1000000000):Nat):Int)) rfl rfl (fun _ _=>by exact zG.2 om) .n))) (fun b16 _=> ?_)
     refine zqa 0 rfl .z<|zE rfl rfl (.c rfl (.c rfl .n)) ce91 (zWa (s:=false) (p:=some ⟨b16,0,none⟩) (n:=2) (cap:=2) (l:=[(((q%1000000000):Nat):Int),(((q / 1000000000):Nat):Int)]) (hn:=by first|rfl|omega|(simp;done)|(simp;omega)) (ho:=by exact ht1) (hln:=by first|rfl|omega|(simp;done)|(simp;omega))) (.c (j:=0) rfl .n) ?_
     rintro ⟨p217,c218⟩ -
     dsimp only [aq,nq,cq]
     refine zl 1 rfl rfl rfl rfl rfl sz42 rfl (.t2 .nil) (.s .z)<|zk<|zg<|zO ?_
     exact zL Tryz.results68 (p217,c218) trivial (zr 1 ty42 rfl rfl (.t2 .nil)) (by rw [ht2,←hfin];rfl) (ho:=(.n:PickO _ _ _)) ((.e (j:=0) rfl (by rw [ht2,←hfin];rfl) .n):SelR _ _ _)
theorem zff {x1:Int} {x2:Int} {p1:Option Addr} {c1:Nat} {p2:Option Addr} {c2:Nat} (hb1:Big.ln x1≤549755813888) (hb2:Big.ln x2≤549755813888):Con Tryz.prog 68 [.agg #[.bool (decide ((x1)<0)),.slice (p1) ((Big.digs ((x1).natAbs)).length) (c1)],.agg #[.bool (decide ((x2)<0)),.slice (p2) ((Big.digs ((x2).natAbs)).length) (c2)]] [] [slF (rI .u32) (p1) (c1) (Big.digs ((x1).natAbs)),slF (rI .u32) (p2) (c2) (Big.digs ((x2).natAbs))] (Y:=(Option Addr)×(Nat)) (fun y=>True) (fun y=> .agg #[.bool (decide ((((Nat.gcd x1.natAbs x2.natAbs:Nat):Int))<0)),.slice (y.1) ((Big.digs ((((Nat.gcd x1.natAbs x2.natAbs:Nat):Int)).natAbs)).length) (y.2)]) (fun y=>[]) (fun y=>[slF (rI .u32) (y.1) (y.2) (Big.digs ((((Nat.gcd x1.natAbs x2.natAbs:Nat):Int)).natAbs))]):=by
  have h:= @zve (decide ((x1)<0)) p1 (Big.digs (x1).natAbs).length c1 (Big.digs (x1).natAbs) (decide ((x2)<0)) p2 (Big.digs (x2).natAbs).length c2 (Big.digs (x2).natAbs) rfl rfl hb1 hb2
  rw [Big.raw_big,Big.raw_big] at h
  exact h
theorem zgf {w1:Wd} {w2:Wd} {x1:Int} {x2:Int} (hb1:Big.ln x1≤549755813888) (hb2:Big.ln x2≤549755813888):Con Tryz.prog 68 [.agg #[w1.b,w1.l],.agg #[w2.b,w2.l]] [] [zF w1 (x1),zF w2 (x2)] (Y:=(Wd)) (fun y=>True) (fun y=> .agg #[y.b,y.l]) (fun y=>[]) (fun y=>[zF y (((Nat.gcd x1.natAbs x2.natAbs:Nat):Int))]):=by
  exact zic (zKc (fun p1 c1 p2 c2=>zff hb1 hb2))
theorem zZd {s:Bool} {p1:Option Addr} {n1:Nat} {c1:Nat} {l1:List Int} {t:Bool} {p2:Option Addr} {n2:Nat} {c2:Nat} {l2:List Int} (hn1:l1.length=n1) (hn2:l2.length=n2) (hm1:n1≤549755813888) (hm2:n2≤549755813888):Con Tryz.prog 67 [.agg #[.bool s,.slice p1 n1 c1],.agg #[.bool t,.slice p2 n2 c2]] [] [slF (rI .u32) p1 c1 l1,slF (rI .u32) p2 c2 l2] (Y:=Unit) (fun y=>True) (fun y=> .int .i64 ((Big.raw s l1 - Big.raw t l2).sign)) (fun y=>[]) (fun y=>[]):=by
 refine zw Tryz.func67 rfl rfl rfl (fun c=> ?_)
 show RunC _ _ _ _ _ [(0,.agg #[.bool s,.slice p1 n1 c1]),(1,.agg #[.bool t,.slice p2 n2 c2])] [] [slF (rI .u32) p1 c1 l1,slF (rI .u32) p2 c2 l2]
 refine zta 0 rfl (fun hL0=> ?_)
 refine zib 0 rfl (fun hE0=> ?_)
 refine zta 1 rfl (fun hL1=> ?_)
 refine zib 1 rfl (fun hE1=> ?_)
 have hnn1:Big.nn l1:=fun g hg=>(zG.1 (hE0 g hg)).1
 have hnn2:Big.nn l2:=fun g hg=>(zG.1 (hE1 g hg)).1
 have hb1:Big.ln (Big.raw s l1)≤n1:=by have:=Big.zjb (s:=s) hnn1;omega
 have hb2:Big.ln (Big.raw t l2)≤n2:=by have:=Big.zjb (s:=t) hnn2;omega
 unfold Big.ln at hb1 hb2
 have hls:=Big.ln_sub (Big.raw s l1) (Big.raw t l2)
 unfold Big.ln at hls
 refine zj<|zc<|zH rfl rfl (zba rfl rfl) (fun b1=> ?_)
 refine zH rfl rfl (zba rfl rfl) (fun b2=> ?_)
 refine e_p (zh rfl)<|zk<|zg<|zj<|zc<|e_ru (ze 1 ty42 rfl rfl (.t2 .nil))<|e_ru (ze 0 ty42 rfl rfl (.t2 .nil))<|zE rfl rfl (.c rfl (.c rfl .n)) ce98 (zue (s:=s) (p1:=p1) (n1:=n1) (c1:=c1) (l1:=l1) (t:=t) (p2:=p2) (n2:=n2) (c2:=c2) (l2:=l2) (hn1:=ass) (hn2:=ass) (hm1:=by first|rfl|assumption|omega|(unfold Big.ln;omega)) (hm2:=by first|rfl|assumption|omega|(unfold Big.ln;omega))) (.c (j:=0) rfl (.c (j:=1) rfl .n)) ?_
 rintro ⟨p33,c34⟩ -
 dsimp only [aq,nq,cq]
 refine zR rfl rfl (.c rfl .n) ce66 (znd (z:=Big.raw s l1 - Big.raw t l2) (p:=p33) (cap:=c34) (hln:=by first|rfl|assumption|omega|(unfold Big.ln;omega))) (.c (j:=0) rfl .n)<|e_p (zh rfl)<|zk<|zg<|zO ?_
 exact zL Tryz.results67 () trivial (zB rfl) rfl (ho:=(.n:PickO _ _ _)) (.n:SelR _ _ _)
theorem zBd {x1:Int} {x2:Int} {p1:Option Addr} {c1:Nat} {p2:Option Addr} {c2:Nat} (hb1:Big.ln x1≤549755813888) (hb2:Big.ln x2≤549755813888):Con Tryz.prog 67 [.agg #[.bool (decide ((x1)<0)),.slice (p1) ((Big.digs ((x1).natAbs)).length) (c1)],.agg #[.bool (decide ((x2)<0)),.slice (p2) ((Big.digs ((x2).natAbs)).length) (c2)]] [] [slF (rI .u32) (p1) (c1) (Big.digs ((x1).natAbs)),slF (rI .u32) (p2) (c2) (Big.digs ((x2).natAbs))] (Y:=Unit) (fun y=>True) (fun y=> .int .i64 ((x1 - x2).sign)) (fun y=>[]) (fun y=>[]):=by
  have h:= @zZd (decide ((x1)<0)) p1 (Big.digs (x1).natAbs).length c1 (Big.digs (x1).natAbs) (decide ((x2)<0)) p2 (Big.digs (x2).natAbs).length c2 (Big.digs (x2).natAbs) rfl rfl hb1 hb2
  rw [Big.raw_big,Big.raw_big] at h
  exact h
theorem zae {x1:Int} {x2:Int} {p1:Option Addr} {c1:Nat} {p2:Option Addr} {c2:Nat} (hb1:Big.ln x1≤274877906944) (hb2:Big.ln x2≤274877906944) (hy:x2≠0):Con Tryz.prog 89 [.agg #[.bool (decide (x1<0)),.slice p1 ((Big.digs ((x1).natAbs)).length) c1],.agg #[.bool (decide (x2<0)),.slice p2 ((Big.digs ((x2).natAbs)).length) c2]] [] [slF (rI .u32) p1 c1 (Big.digs ((x1).natAbs)),slF (rI .u32) p2 c2 (Big.digs ((x2).natAbs))] (Y:=(Option Addr)×Nat×(Option Addr)×Nat) (fun y=>True) (fun y=> .tuple #[.agg #[.bool (decide ((Big.fq x1 x2)<0)),.slice (y.1) ((Big.digs ((Big.fq x1 x2).natAbs)).length) (y.2.1)],.agg #[.bool (decide ((Big.fr x1 x2)<0)),.slice (y.2.2.1) ((Big.digs ((Big.fr x1 x2).natAbs)).length) (y.2.2.2)],.int .i64 0]) (fun y=>[]) (fun y=>[slF (rI .u32) (y.1) (y.2.1) (Big.digs ((Big.fq x1 x2).natAbs)),slF (rI .u32) (y.2.2.1) (y.2.2.2) (Big.digs ((Big.fr x1 x2).natAbs))]):=by
 refine zw Tryz.func89 rfl rfl rfl (fun c=> ?_)
 show RunC _ _ _ _ _ [(0,.agg #[.bool (decide (x1<0)),.slice p1 ((Big.digs ((x1).natAbs)).length) c1]),(1,.agg #[.bool (decide (x2<0)),.slice p2 ((Big.digs ((x2).natAbs)).length) c2])] [] [slF (rI .u32) p1 c1 (Big.digs ((x1).natAbs)),slF (rI .u32) p2 c2 (Big.digs ((x2).natAbs))]
 refine zta 0 rfl (fun hL0=> ?_)
 refine zta 1 rfl (fun hL1=> ?_)
 have hfl:=Big.ln_fq (x:=x1) hy
 have hml:=Big.zTa (Big.fq x1 x2) x2
 unfold Big.ln at hb1 hb2 hfl hml
 have hd1:=Nat.div_le_self x1.natAbs x2.natAbs
 have hd2:=Nat.mod_lt x1.natAbs (show 0<x2.natAbs by omega)
 have hl1:=Big.ln_mono' hd1
 have hl2:=Big.ln_mono' (Nat.le_of_lt hd2)
 refine zj<|zc<|zH rfl rfl (zba rfl rfl) (fun b1=> ?_)
 refine zH rfl rfl (zba rfl rfl) (fun b2=> ?_)
 refine zH rfl rfl (zo zr42 rfl) (fun b3=> ?_)
 refine zH rfl rfl (zo zr42 rfl) (fun b4=> ?_)
 refine e_p (zh rfl)<|zk<|zg<|zj<|zca (.c (i:=3) rfl (.c (i:=2) rfl (.c (i:=0) rfl (.c (i:=0) rfl .n))))<|zT (OW:=[boxA b1 42 [.bool (decide (x1<0)),.slice p1 ((Big.digs ((x1).natAbs)).length) c1],boxA b2 42 [.bool (decide (x2<0)),.slice p2 ((Big.digs ((x2).natAbs)).length) c2]]) (O:=[boxA b4 42 [wz.b,wz.l],boxA b3 42 [wz.b,wz.l]]) 4 mixed (.then .ret) kr<|e_uw 0 rfl rfl (ze 0 ty42 rfl rfl (.t2 .nil))<|e_uw 2 rfl rfl (ze 1 ty42 rfl rfl (.t2 .nil))<|e_one 1 (zm rfl rfl rfl rfl (.c rfl .n) ce90 (zad (z:=x1) (p:=p1) (cap:=c1) (hln:=by first|rfl|assumption|omega|(unfold Big.ln;omega)|(unfold Big.ln;rw [hsq];omega)|(decide +kernel))) (.c (j:=0) rfl .n) ?_)
 rintro ⟨p25,c26⟩ -
 dsimp only [aq,nq,cq]
 refine e_one 3 (zm rfl rfl rfl rfl (.c rfl .n) ce90 (zad (z:=x2) (p:=p2) (cap:=c2) (hln:=by first|rfl|assumption|omega|(unfold Big.ln;omega)|(unfold Big.ln;rw [hsq];omega)|(decide +kernel))) (.c (j:=2) rfl .n) ?_)
 rintro ⟨p27,c28⟩ -
 dsimp only [aq,nq,cq]
 refine e_one 4 (zp kr rfl rfl rfl rfl rfl sz42 rfl (.t2 .nil) ?_)
 refine zab (zla (i:=1) rfl)<|e_one 5 (zp kr rfl rfl rfl rfl rfl sz42 rfl (.t2 .nil) ?_)
 refine zQ kr<|zg<|zj<|zj<|zc<|e_p (zf Tryz.underlying42 rfl sz40 rfl rfl)<|e_ru (zd 0 ty40 rfl rfl rfl)<|e_p (zea Tryz.underlying40 rfl)<|e_p (zIa rfl rfl)<|zk<|zg<|zP rfl (fun h9=> ?_) (fun h9=> ?_)
 ·
  exact absurd (Big.len_digs_nil.1 (show (Big.digs x2.natAbs).length=0 by omega)) om
 ·
  refine zx<|zg<|zj<|zc<|e_p (zf Tryz.underlying42 rfl sz40 rfl rfl)<|e_ru (zd 1 ty40 rfl rfl rfl)<|e_p (zf Tryz.underlying42 rfl sz40 rfl rfl)<|e_ru (zd 0 ty40 rfl rfl rfl)<|zE rfl rfl (.c rfl (.c rfl .n)) ce99 (zpd (a:=(x1).natAbs) (b:=(x2).natAbs) (p1:=p25) (c1:=c26) (p2:=p27) (c2:=c28) (hb1:=by first|rfl|assumption|omega|(unfold Big.ln;omega)|(unfold Big.ln;rw [hsq];omega)|(decide +kernel)) (hb2:=by first|rfl|assumption|omega|(unfold Big.ln;omega)|(unfold Big.ln;rw [hsq];omega)|(decide +kernel)) (hb0:=by first|rfl|assumption|omega|(unfold Big.ln;omega)|(unfold Big.ln;rw [hsq];omega)|(decide +kernel))) (.c (j:=1) rfl (.c (j:=0) rfl .n)) ?_
  rintro ⟨p310,c311,p412,c413⟩ -
  dsimp only [aq,nq,cq]
  refine e_mv rfl<|e_p (zy rfl rfl)<|e_p (zy rfl rfl)<|e_p (zh rfl)<|e_p (zh rfl)<|zk<|zg<|zj ?_
  obtain ⟨Q,hQ⟩:∃z,z=((x1).natAbs) / ((x2).natAbs):=⟨_,rfl⟩
  rw [← hQ]
  obtain ⟨R0,hR0⟩:∃z,z=((x1).natAbs)%((x2).natAbs):=⟨_,rfl⟩
  rw [← hR0]
  rw [← hQ] at hl1
  rw [← hR0] at hl2
  have hsq:(Big.sg (decide (decide (x1<0)≠decide (x2<0))) (Q:Int)).natAbs=Q:=by rw [Big.sg_abs om];exact Int.toNat_natCast _
  refine zc<|e_p (zf Tryz.underlying42 rfl sz4 rfl rfl)<|e_ru (zd 1 ty4 rfl rfl rfl)<|e_p (zf Tryz.underlying42 rfl sz4 rfl rfl)<|e_ru (zd 0 ty4 rfl rfl rfl)<|e_p (zZa Tryz.underlying4 rfl rfl)<|e_mv rfl<|zE rfl rfl (.c rfl (.c rfl .n)) ce91 (zyb (s:=decide (decide (x1<0)≠decide (x2<0))) (a:=Q) (p:=p310) (cap:=c311) (hln:=by first|rfl|assumption|omega|(unfold Big.ln;omega)|(unfold Big.ln;rw [hsq];omega)|(decide +kernel))) (.c (j:=0) rfl .n) ?_
  rintro ⟨p214,c215⟩ -
  dsimp only [aq,nq,cq]
  refine zH rfl rfl (zo zr42 rfl) (fun b16=> ?_)
  refine zl 0 rfl rfl rfl rfl rfl sz42 rfl (.t2 .nil) .z<|zk<|zg<|zj<|zj<|zc<|e_p (zf Tryz.underlying42 rfl sz4 rfl rfl)<|e_ru (zd 2 ty4 rfl rfl rfl)<|e_p (zf Tryz.underlying42 rfl sz4 rfl rfl)<|e_ru (zd 1 ty4 rfl rfl rfl)<|e_p (zZa Tryz.underlying4 rfl rfl)<|zia rfl rfl (zma rfl) (fun hsd=> ?_) (fun hsd=> ?_)
  ·
   refine e_mv rfl<|e_p (zea Tryz.underlying40 rfl)<|e_p (zYa rfl rfl)<|e_p (zI rfl rfl)<|zk<|zg<|zP rfl (fun hadj=> ?_) (fun hadj=> ?_)
   ·
    have hr0:x1.natAbs%x2.natAbs≠0:=fun e=>by rw [hR0,e,Big.digs_zero] at hadj;exact absurd hadj dd
    have hqz:Big.sg (decide (decide (x1<0)≠decide (x2<0))) (Q:Int) - 1=Big.fq x1 x2:=by have h9:=(Big.fq_odd hy hsd hr0).1;rw [← h9,decide_eq_true hsd,hQ,Big.sg_t,Big.sg_t];omega
    refine zT (OW:=[boxA b16 42 [.bool (decide ((Big.sg (decide (decide (x1<0)≠decide (x2<0))) (Q:Int))<0)),.slice p214 ((Big.digs ((Big.sg (decide (decide (x1<0)≠decide (x2<0))) (Q:Int)).natAbs)).length) c215]]) (O:=[boxA b2 42 [.bool (decide (x2<0)),.slice p27 ((Big.digs ((x2).natAbs)).length) c28],boxA b1 42 [.bool (decide (x1<0)),.slice p25 ((Big.digs ((x1).natAbs)).length) c26],boxA b4 42 [wz.b,wz.l],boxA b3 42 [wz.b,wz.l]]) 3 mixed (.then .ret) kr<|e_uw 0 rfl rfl (ze 0 ty42 rfl rfl (.t2 .nil))<|e_one 1 (zm rfl rfl rfl rfl (.c rfl .n) ce87 (zaf (z:=1) (hz:=by first|rfl|assumption|omega|(unfold Big.ln;omega)|(unfold Big.ln;rw [hsq];omega)|(decide +kernel))) (.n) ?_)
    rintro ⟨p217,c218⟩ -
    dsimp only [aq,nq,cq]
    refine e_one 2 (zm rfl rfl rfl rfl (.c rfl (.c rfl .n)) ce98 (zvc (x1:=Big.sg (decide (decide (x1<0)≠decide (x2<0))) (Q:Int)) (x2:=1) (p1:=p214) (c1:=c215) (p2:=p217) (c2:=c218) (hb1:=by first|rfl|assumption|omega|(unfold Big.ln;omega)|(unfold Big.ln;rw [hsq];omega)|(decide +kernel)) (hb2:=by first|rfl|assumption|omega|(unfold Big.ln;omega)|(unfold Big.ln;rw [hsq];omega)|(decide +kernel))) (.c (j:=1) rfl (.c (j:=0) rfl .n)) ?_)
    rintro ⟨p319,c320⟩ -
    dsimp only [aq,nq,cq]
    refine e_one 3 (zp kr rfl rfl rfl rfl rfl sz42 rfl (.t2 .nil) ?_)
    refine zQ kr<|zg<|zj ?_
    have e21:(Big.sg (decide (decide (x1<0)≠decide (x2<0))) (Q:Int)) - 1=Big.fq x1 x2:=by exact hqz
    rw [e21]
    refine zca (.c (i:=4) rfl (.c (i:=3) rfl (.c (i:=0) rfl (.c (i:=0) rfl (.c (i:=0) rfl .n)))))<|zT (OW:=[boxA b3 42 [wz.b,wz.l],boxA b4 42 [wz.b,wz.l]]) (O:=[boxA b16 42 [.bool (decide ((Big.fq x1 x2)<0)),.slice p319 ((Big.digs ((Big.fq x1 x2).natAbs)).length) c320],boxA b2 42 [.bool (decide (x2<0)),.slice p27 ((Big.digs ((x2).natAbs)).length) c28],boxA b1 42 [.bool (decide (x1<0)),.slice p25 ((Big.digs ((x1).natAbs)).length) c26]]) 6 mixed (.then .ret) kr<|e_uw 0 rfl rfl (ze 2 ty42 rfl rfl (.t2 .nil))<|e_uw 1 rfl rfl (ze 4 ty42 rfl rfl (.t2 .nil))<|e_uw 2 rfl rfl (ze 2 ty42 rfl rfl (.t2 .nil))<|e_uw 3 rfl rfl (ze 3 ty42 rfl rfl (.t2 .nil))<|e_one 4 (zm rfl rfl rfl rfl (.c rfl (.c rfl .n)) ce60 (zwc (x1:=Big.fq x1 x2) (x2:=x2) (p1:=p319) (c1:=c320) (p2:=p27) (c2:=c28) (hb1:=by first|rfl|assumption|omega|(unfold Big.ln;omega)|(unfold Big.ln;rw [hsq];omega)|(decide +kernel)) (hb2:=by first|rfl|assumption|omega|(unfold Big.ln;omega)|(unfold Big.ln;rw [hsq];omega)|(decide +kernel))) (.c (j:=0) rfl (.c (j:=5) rfl .n)) ?_)
    rintro ⟨p322,c323⟩ -
    dsimp only [aq,nq,cq]
    refine e_one 5 (zm rfl rfl rfl rfl (.c rfl (.c rfl .n)) ce98 (zvc (x1:=x1) (x2:=(Big.fq x1 x2)*x2) (p1:=p25) (c1:=c26) (p2:=p322) (c2:=c323) (hb1:=by first|rfl|assumption|omega|(unfold Big.ln;omega)|(unfold Big.ln;rw [hsq];omega)|(decide +kernel)) (hb2:=by first|rfl|assumption|omega|(unfold Big.ln;omega)|(unfold Big.ln;rw [hsq];omega)|(decide +kernel))) (.c (j:=7) rfl (.c (j:=0) rfl .n)) ?_)
    rintro ⟨p324,c325⟩ -
    dsimp only [aq,nq,cq]
    refine e_one 6 (zp kr rfl rfl rfl rfl rfl sz42 rfl (.t2 .nil) ?_)
    refine zab (zla (i:=1) rfl)<|e_one 7 (zp kr rfl rfl rfl rfl rfl sz42 rfl (.t2 .nil) ?_)
    refine e_pv 8 rfl rfl (zh rfl)<|zQ kr<|zg<|zO ?_
    have hz2:x1 - Big.fq x1 x2*x2=Big.fr x1 x2:=by unfold Big.fr;rw [Int.mul_comm]
    exact zcc Tryz.results89 (p319,c320,p324,c325) trivial (zr 1 ty42 rfl rfl (.t2 .nil)) (zr 0 ty42 rfl rfl (.t2 .nil)) (zB rfl) (by rw [hz2]) (ho:=(.n:PickO _ _ _)) ((.c (j:=2) rfl (.e (j:=0) rfl (by rw [hz2]) .n)):SelR _ _ _)
   ·
    have hr0:x1.natAbs%x2.natAbs=0:=Big.len_digs_nil.1 (by rw [← hR0];omega)
    have hqz:Big.sg (decide (decide (x1<0)≠decide (x2<0))) (Q:Int)=Big.fq x1 x2:=by rw [decide_eq_true hsd,hQ];exact (Big.fq_even hy hsd hr0).1
    refine zx<|zg<|zj ?_
    have e26:Big.sg (decide (decide (x1<0)≠decide (x2<0))) (Q:Int)=Big.fq x1 x2:=by exact hqz
    rw [e26]
    refine zca (.c (i:=4) rfl (.c (i:=3) rfl (.c (i:=0) rfl (.c (i:=0) rfl (.c (i:=0) rfl .n)))))<|zT (OW:=[boxA b3 42 [wz.b,wz.l],boxA b4 42 [wz.b,wz.l]]) (O:=[boxA b16 42 [.bool (decide ((Big.fq x1 x2)<0)),.slice p214 ((Big.digs ((Big.fq x1 x2).natAbs)).length) c215],boxA b2 42 [.bool (decide (x2<0)),.slice p27 ((Big.digs ((x2).natAbs)).length) c28],boxA b1 42 [.bool (decide (x1<0)),.slice p25 ((Big.digs ((x1).natAbs)).length) c26]]) 6 mixed (.then .ret) kr<|e_uw 0 rfl rfl (ze 2 ty42 rfl rfl (.t2 .nil))<|e_uw 1 rfl rfl (ze 4 ty42 rfl rfl (.t2 .nil))<|e_uw 2 rfl rfl (ze 2 ty42 rfl rfl (.t2 .nil))<|e_uw 3 rfl rfl (ze 3 ty42 rfl rfl (.t2 .nil))<|e_one 4 (zm rfl rfl rfl rfl (.c rfl (.c rfl .n)) ce60 (zwc (x1:=Big.fq x1 x2) (x2:=x2) (p1:=p214) (c1:=c215) (p2:=p27) (c2:=c28) (hb1:=by first|rfl|assumption|omega|(unfold Big.ln;omega)|(unfold Big.ln;rw [hsq];omega)|(decide +kernel)) (hb2:=by first|rfl|assumption|omega|(unfold Big.ln;omega)|(unfold Big.ln;rw [hsq];omega)|(decide +kernel))) (.c (j:=0) rfl (.c (j:=3) rfl .n)) ?_)
    rintro ⟨p327,c328⟩ -
    dsimp only [aq,nq,cq]
    refine e_one 5 (zm rfl rfl rfl rfl (.c rfl (.c rfl .n)) ce98 (zvc (x1:=x1) (x2:=(Big.fq x1 x2)*x2) (p1:=p25) (c1:=c26) (p2:=p327) (c2:=c328) (hb1:=by first|rfl|assumption|omega|(unfold Big.ln;omega)|(unfold Big.ln;rw [hsq];omega)|(decide +kernel)) (hb2:=by first|rfl|assumption|omega|(unfold Big.ln;omega)|(unfold Big.ln;rw [hsq];omega)|(decide +kernel))) (.c (j:=5) rfl (.c (j:=0) rfl .n)) ?_)
    rintro ⟨p329,c330⟩ -
    dsimp only [aq,nq,cq]
    refine e_one 6 (zp kr rfl rfl rfl rfl rfl sz42 rfl (.t2 .nil) ?_)
    refine zab (zla (i:=1) rfl)<|e_one 7 (zp kr rfl rfl rfl rfl rfl sz42 rfl (.t2 .nil) ?_)
    refine e_pv 8 rfl rfl (zh rfl)<|zQ kr<|zg<|zO ?_
    have hz2:x1 - Big.fq x1 x2*x2=Big.fr x1 x2:=by unfold Big.fr;rw [Int.mul_comm]
    exact zcc Tryz.results89 (p214,c215,p329,c330) trivial (zr 1 ty42 rfl rfl (.t2 .nil)) (zr 0 ty42 rfl rfl (.t2 .nil)) (zB rfl) (by rw [hz2]) (ho:=(.n:PickO _ _ _)) ((.c (j:=2) rfl (.e (j:=0) rfl (by rw [hz2]) .n)):SelR _ _ _)
  ·
   have hs9:=Decidable.not_not.1 hsd
   have hqz:Big.sg (decide (decide (x1<0)≠decide (x2<0))) (Q:Int)=Big.fq x1 x2:=by rw [decide_eq_false hsd,hQ];exact (Big.fq_same hy hs9).1
   refine e_no<|e_no<|e_no<|e_p (zI rfl rfl)<|zk<|zg<|zua rfl rfl<|zx<|zg<|zj ?_
   have e31:Big.sg (decide (decide (x1<0)≠decide (x2<0))) (Q:Int)=Big.fq x1 x2:=by exact hqz
   rw [e31]
   refine zca (.c (i:=4) rfl (.c (i:=3) rfl (.c (i:=0) rfl (.c (i:=0) rfl (.c (i:=0) rfl .n)))))<|zT (OW:=[boxA b3 42 [wz.b,wz.l],boxA b4 42 [wz.b,wz.l]]) (O:=[boxA b16 42 [.bool (decide ((Big.fq x1 x2)<0)),.slice p214 ((Big.digs ((Big.fq x1 x2).natAbs)).length) c215],boxA b2 42 [.bool (decide (x2<0)),.slice p27 ((Big.digs ((x2).natAbs)).length) c28],boxA b1 42 [.bool (decide (x1<0)),.slice p25 ((Big.digs ((x1).natAbs)).length) c26]]) 6 mixed (.then .ret) kr<|e_uw 0 rfl rfl (ze 2 ty42 rfl rfl (.t2 .nil))<|e_uw 1 rfl rfl (ze 4 ty42 rfl rfl (.t2 .nil))<|e_uw 2 rfl rfl (ze 2 ty42 rfl rfl (.t2 .nil))<|e_uw 3 rfl rfl (ze 3 ty42 rfl rfl (.t2 .nil))<|e_one 4 (zm rfl rfl rfl rfl (.c rfl (.c rfl .n)) ce60 (zwc (x1:=Big.fq x1 x2) (x2:=x2) (p1:=p214) (c1:=c215) (p2:=p27) (c2:=c28) (hb1:=by first|rfl|assumption|omega|(unfold Big.ln;omega)|(unfold Big.ln;rw [hsq];omega)|(decide +kernel)) (hb2:=by first|rfl|assumption|omega|(unfold Big.ln;omega)|(unfold Big.ln;rw [hsq];omega)|(decide +kernel))) (.c (j:=0) rfl (.c (j:=3) rfl .n)) ?_)
   rintro ⟨p332,c333⟩ -
   dsimp only [aq,nq,cq]
   refine e_one 5 (zm rfl rfl rfl rfl (.c rfl (.c rfl .n)) ce98 (zvc (x1:=x1) (x2:=(Big.fq x1 x2)*x2) (p1:=p25) (c1:=c26) (p2:=p332) (c2:=c333) (hb1:=by first|rfl|assumption|omega|(unfold Big.ln;omega)|(unfold Big.ln;rw [hsq];omega)|(decide +kernel)) (hb2:=by first|rfl|assumption|omega|(unfold Big.ln;omega)|(unfold Big.ln;rw [hsq];omega)|(decide +kernel))) (.c (j:=5) rfl (.c (j:=0) rfl .n)) ?_)
   rintro ⟨p334,c335⟩ -
   dsimp only [aq,nq,cq]
   refine e_one 6 (zp kr rfl rfl rfl rfl rfl sz42 rfl (.t2 .nil) ?_)
   refine zab (zla (i:=1) rfl)<|e_one 7 (zp kr rfl rfl rfl rfl rfl sz42 rfl (.t2 .nil) ?_)
   refine e_pv 8 rfl rfl (zh rfl)<|zQ kr<|zg<|zO ?_
   have hz2:x1 - Big.fq x1 x2*x2=Big.fr x1 x2:=by unfold Big.fr;rw [Int.mul_comm]
   exact zcc Tryz.results89 (p214,c215,p334,c335) trivial (zr 1 ty42 rfl rfl (.t2 .nil)) (zr 0 ty42 rfl rfl (.t2 .nil)) (zB rfl) (by rw [hz2]) (ho:=(.n:PickO _ _ _)) ((.c (j:=2) rfl (.e (j:=0) rfl (by rw [hz2]) .n)):SelR _ _ _)
theorem zDb {w1:Wd} {w2:Wd} {x1:Int} {x2:Int} (hb1:Big.ln x1≤274877906944) (hb2:Big.ln x2≤274877906944) (hy:x2≠0):Con Tryz.prog 89 [.agg #[w1.b,w1.l],.agg #[w2.b,w2.l]] [] [zF w1 (x1),zF w2 (x2)] (Y:=(Wd)×(Wd)) (fun y=>True) (fun y=> .tuple #[.agg #[y.1.b,y.1.l],.agg #[y.2.b,y.2.l],.int .i64 (0)]) (fun y=>[]) (fun y=>[zF y.1 (Big.fq x1 x2),zF y.2 (Big.fr x1 x2)]):=by
  exact zVe (zKc (fun p1 c1 p2 c2=>zae hb1 hb2 hy))
end Go.Proofs.YtjeahiahjgifgaaGreatDoor.Sp
namespace Go.Proofs.YtjeahiahjgifgaaGreatDoor.Sp
open Go
set_option linter.unusedVariables false
set_option maxRecDepth 100000
set_option maxHeartbeats 8000000
theorem zqd {z:Int} (hz: -9223372036854775808≤z∧z≤9223372036854775807):Con Tryz.prog 56 [.int .i64 z] [] [] (Y:=(Option Addr)×Nat) (fun y=>True) (fun y=> .agg #[.bool (decide (z<0)),.slice (y.1) ((Big.digs ((z).natAbs)).length) (y.2)]) (fun y=>[]) (fun y=>[slF (rI .u32) (y.1) (y.2) (Big.digs ((z).natAbs))]):=by
 refine zw Tryz.func56 rfl rfl rfl (fun c=> ?_)
 show RunC _ _ _ _ _ [(0,.int .i64 z)] [] []
 refine zj<|zc<|zH rfl rfl (zo zr42 rfl) (fun b1=> ?_)
 refine zk<|zg<|zj<|zc<|e_mv rfl<|zE rfl rfl (.c rfl .n) ce87 (zaf (z:=z) (hz:=ass)) (.n) ?_
 rintro ⟨p22,c23⟩ -
 dsimp only [aq,nq,cq]
 refine zl 0 rfl rfl rfl rfl rfl sz42 rfl (.t2 .nil) .z<|zk<|zg<|zO ?_
 exact zL Tryz.results56 (p22,c23) trivial (zr 0 ty42 rfl rfl (.t2 .nil)) rfl (ho:=(.n:PickO _ _ _)) ((.c (j:=0) rfl .n):SelR _ _ _)
theorem zMb {z:Int} (hz: -9223372036854775808≤z∧z≤9223372036854775807):Con Tryz.prog 56 [.int .i64 (z)] [] [] (Y:=(Wd)) (fun y=>True) (fun y=> .agg #[y.b,y.l]) (fun y=>[]) (fun y=>[zF y (z)]):=by
  exact zic (zqd hz)
theorem zXa {z:Int} (hz: -9223372036854775808≤z∧z≤9223372036854775807):Con Tryz.prog 22 [.int .i64 z] [] [] (Y:=Wd×Wd) (fun y=>True) (fun y=> .agg #[y.1.b,y.1.l,y.2.b,y.2.l]) (fun y=>[]) (fun y=>[qF true y.1 y.2 ((z:Int):Rat)]):=by
 refine zw Tryz.func22 rfl rfl rfl (fun c=> ?_)
 show RunC _ _ _ _ _ [(0,.int .i64 z)] [] []
 refine zj<|zc<|zH rfl rfl (zo zr44 rfl) (fun b1=> ?_)
 refine zk<|zg<|zj<|zc<|e_mv rfl<|zE rfl rfl (.c rfl .n) ce56 (zMb (z:=z) (hz:=ass)) (.n) ?_
 rintro w32 -
 dsimp only [aq,nq,cq]
 refine zE rfl rfl (.c rfl .n) ce56 (zMb (z:=1) (hz:=by first|rfl|assumption|omega|(rw [Big.zX];omega)|(decide +kernel))) (.n) ?_
 rintro w33 -
 dsimp only [aq,nq,cq]
 refine e_p (zu zr44 rfl Tryz.underlying44 (.c sz42 (.c sz42 .n)) (.c rfl (.c rfl .n)) (.c rfl rfl rfl (.t2 .nil) (.c rfl rfl rfl (.s2 (.t2 .nil)) .n)))<|zl 0 rfl rfl rfl rfl rfl sz44 rfl (.t4 .nil) .z<|zk<|zg<|zO<|zVa (qF true w32 w33 ((z:Int):Rat)) (qF_close 1 0 rfl rfl (by exact ⟨(Rat.num_intCast z).symm,by rw [Rat.den_intCast];rfl,Nat.le_trans (Big.hq_64 hz.1 hz.2) dd⟩)) ?_
 exact zL Tryz.results22 (w32,w33) trivial (zr 0 ty44 rfl rfl (.t4 .nil)) rfl (ho:=(.n:PickO _ _ _)) ((.c (j:=0) rfl .n):SelR _ _ _)
theorem zcd {s:Bool} {p1:Option Addr} {n1:Nat} {c1:Nat} {l1:List Int} {t:Bool} {p2:Option Addr} {n2:Nat} {c2:Nat} {l2:List Int} (hn1:l1.length=n1) (hn2:l2.length=n2) (hm1:n1≤1048576) (hm2:n2≤1048576):Con Tryz.prog 31 [.agg #[.bool s,.slice p1 n1 c1,.bool t,.slice p2 n2 c2]] [] [slF (rI .u32) p1 c1 l1,slF (rI .u32) p2 c2 l2] (Y:=Unit) (fun y=>True) (fun y=> .bool (decide (Big.qok ((s,l1),(t,l2))))) (fun y=>[]) (fun y=>[]):=by
 refine zw Tryz.func31 rfl rfl rfl (fun c=> ?_)
 show RunC _ _ _ _ _ [(0,.agg #[.bool s,.slice p1 n1 c1,.bool t,.slice p2 n2 c2])] [] [slF (rI .u32) p1 c1 l1,slF (rI .u32) p2 c2 l2]
 refine zta 0 rfl (fun hL0=> ?_)
 refine zib 0 rfl (fun hE0=> ?_)
 refine zta 1 rfl (fun hL1=> ?_)
 refine zib 1 rfl (fun hE1=> ?_)
 have hnn1:Big.nn l1:=fun g hg=>(zG.1 (hE0 g hg)).1
 have hnn2:Big.nn l2:=fun g hg=>(zG.1 (hE1 g hg)).1
 have hb1:Big.ln (Big.raw s l1)≤n1:=by have:=Big.zjb (s:=s) hnn1;omega
 have hb2:Big.ln (Big.raw t l2)≤n2:=by have:=Big.zjb (s:=t) hnn2;omega
 refine zj<|zc<|zH rfl rfl (zba rfl rfl) (fun b1=> ?_)
 refine e_p (zh rfl)<|zk<|zg<|zj<|zDa (X:=Unit) (fun x=>True) (fun x=>[(18,.bool (decide (¬(Big.canon s l1∧Big.canon t l2∧0<Big.raw t l2)))),(2,.bool false),(1,.pointer (some ⟨b1,0,none⟩))]) (fun x=>[boxA b1 44 [.bool s,.slice p1 n1 c1,.bool t,.slice p2 n2 c2]]) (fun x=>[slF (rI .u32) p1 c1 l1,slF (rI .u32) p2 c2 l2]) ?_ ?_
 ·
  refine zc<|e_p (zf Tryz.underlying44 rfl sz42 rfl rfl)<|e_ru (ze 0 ty42 rfl rfl (.t2 .nil))<|zR rfl rfl (.c rfl .n) ce65 (zCc (s:=s) (p:=p1) (n:=n1) (cap:=c1) (l:=l1) (hn:=ass)) (.c (j:=0) rfl .n)<|e_p (zHa rfl)<|zia rfl rfl (zma rfl) (fun h2=> ?_) (fun h2=> ?_)
  ·
   refine e_no<|e_no<|e_no<|e_no<|e_p (zI rfl rfl)<|e_mv rfl<|e_no<|e_no<|e_no<|e_no<|e_p (zI rfl rfl)<|zk ?_
   exact zha () (show True from by first|trivial|omega|simp_all) ((.e rfl (congrArg Value.bool (by simp_all)) (.c rfl (.c rfl .n))):SubM _ _) (ho:=((.c (i:=0) rfl .n):PickO _ _ _)) ((.of [0,1] rfl):SelR _ _ _)
  ·
   refine e_p (zf Tryz.underlying44 rfl sz42 rfl rfl)<|e_ru (ze 0 ty42 rfl rfl (.s2 (.t2 .nil)))<|zR rfl rfl (.c rfl .n) ce65 (zCc (s:=t) (p:=p2) (n:=n2) (cap:=c2) (l:=l2) (hn:=ass)) (.c (j:=1) rfl .n)<|e_p (zHa rfl)<|e_p (zI rfl rfl)<|zia rfl rfl (zma rfl) (fun h3=> ?_) (fun h3=> ?_)
   ·
    refine e_no<|e_no<|e_no<|e_no<|e_p (zI rfl rfl)<|zk ?_
    exact zha () (show True from by first|trivial|omega|simp_all) ((.e rfl (congrArg Value.bool (by simp_all)) (.c rfl (.c rfl .n))):SubM _ _) (ho:=((.c (i:=0) rfl .n):PickO _ _ _)) ((.of [0,1] rfl):SelR _ _ _)
   ·
    refine e_p (zf Tryz.underlying44 rfl sz42 rfl rfl)<|e_ru (ze 0 ty42 rfl rfl (.s2 (.t2 .nil)))<|zR rfl rfl (.c rfl .n) ce66 (zWd (s:=t) (p:=p2) (n:=n2) (cap:=c2) (l:=l2) (hn:=ass) (hln:=by first|rfl|assumption|omega|(rw [Big.zX];omega)|(decide +kernel))) (.c (j:=1) rfl .n)<|e_p (zHc rfl rfl)<|e_p (zI rfl rfl)<|zk ?_
    exact zha () (show True from by first|trivial|omega|simp_all) ((.e rfl (congrArg Value.bool (by exact decide_eq_decide.2 (Big.sgn_le (Decidable.not_not.1 ‹_›) (Decidable.not_not.1 ‹_›)))) (.c rfl (.c rfl .n))):SubM _ _) (ho:=((.c (i:=0) rfl .n):PickO _ _ _)) ((.of [0,1] rfl):SelR _ _ _)
 ·
  rintro ⟨⟩ -
  try dsimp only
  refine zP rfl (fun hc=> ?_) (fun hc=> ?_)
  ·
   refine zj<|zc<|e_p (zh rfl)<|zk<|zg<|zO<|zt ?_
   exact zL Tryz.results31 () trivial (zB rfl) (congrArg Value.bool (decide_eq_false (fun h=>hc ⟨h.1,h.2.1,h.2.2.1⟩))) (ho:=(.n:PickO _ _ _)) (.n:SelR _ _ _)
  ·
   have hcc:=Decidable.not_not.1 hc
   have hgl:=Big.zOd (n:=Big.raw s l1) (d:=Big.raw t l2) om
   refine zx<|zg<|zj<|zc<|e_p (zf Tryz.underlying44 rfl sz42 rfl rfl)<|e_ru (ze 0 ty42 rfl rfl (.t2 .nil))<|e_p (zf Tryz.underlying44 rfl sz42 rfl rfl)<|e_ru (ze 0 ty42 rfl rfl (.s2 (.t2 .nil)))<|zE rfl rfl (.c rfl (.c rfl .n)) ce68 (zve (s:=s) (p1:=p1) (n1:=n1) (c1:=c1) (l1:=l1) (t:=t) (p2:=p2) (n2:=n2) (c2:=c2) (l2:=l2) (hn1:=ass) (hn2:=ass) (hm1:=by first|rfl|assumption|omega|(rw [Big.zX];omega)|(decide +kernel)) (hm2:=by first|rfl|assumption|omega|(rw [Big.zX];omega)|(decide +kernel))) (.c (j:=0) rfl (.c (j:=1) rfl .n)) ?_
   rintro ⟨p34,c35⟩ -
   dsimp only [aq,nq,cq]
   refine zE rfl rfl (.c rfl .n) ce56 (zqd (z:=1) (hz:=by first|rfl|assumption|omega|(rw [Big.zX];omega)|(decide +kernel))) (.n) ?_
   rintro ⟨p26,c27⟩ -
   dsimp only [aq,nq,cq]
   refine zR rfl rfl (.c rfl (.c rfl .n)) ce67 (zBd (x1:=((Nat.gcd (Big.raw s l1).natAbs (Big.raw t l2).natAbs:Nat):Int)) (x2:=1) (p1:=p34) (c1:=c35) (p2:=p26) (c2:=c27) (hb1:=by first|rfl|assumption|omega|(rw [Big.zX];omega)|(decide +kernel)) (hb2:=by first|rfl|assumption|omega|(rw [Big.zX];omega)|(decide +kernel))) (.c (j:=1) rfl (.c (j:=0) rfl .n))<|e_p (zIa rfl rfl)<|e_p (zh rfl)<|zk<|zg<|zO ?_
   exact zL Tryz.results31 () trivial (zB rfl) (congrArg Value.bool (decide_eq_decide.2 (Big.qok_sub (x:=((s,l1),(t,l2))) (Decidable.not_not.1 hc)).symm)) (ho:=(.n:PickO _ _ _)) (.n:SelR _ _ _)
theorem zLc {u1:Wd} {v1:Wd} {q1:Rat}:Con Tryz.prog 31 [.agg #[u1.b,u1.l,v1.b,v1.l]] [] [qF true u1 v1 (q1)] (Y:=Unit) (fun y=>True) (fun y=> .bool true) (fun y=>[]) (fun y=>[]):=by
  exact zIf (fun x hx hk h1 h2=>by have h:= @zcd x.1.1 u1.p _ u1.c x.1.2 x.2.1 v1.p _ v1.c x.2.2 rfl rfl h1 h2;rw [decide_eq_true (hk rfl)] at h;exact h)
theorem zle {s:Bool} {p1:Option Addr} {n1:Nat} {c1:Nat} {l1:List Int} {t:Bool} {p2:Option Addr} {n2:Nat} {c2:Nat} {l2:List Int} (hn1:l1.length=n1) (hn2:l2.length=n2) (hm1:n1≤1048576) (hm2:n2≤1048576):Con Tryz.prog 57 [.agg #[.bool s,.slice p1 n1 c1,.bool t,.slice p2 n2 c2]] [] [slF (rI .u32) p1 c1 l1,slF (rI .u32) p2 c2 l2] (Y:=Wd×Wd) (fun y=>True) (fun y=> .agg #[y.1.b,y.1.l,y.2.b,y.2.l]) (fun y=>[]) (fun y=>[qF true y.1 y.2 (Big.qv ((s,l1),(t,l2)))]):=by
 refine zw Tryz.func57 rfl rfl rfl (fun c=> ?_)
 show RunC _ _ _ _ _ [(0,.agg #[.bool s,.slice p1 n1 c1,.bool t,.slice p2 n2 c2])] [] [slF (rI .u32) p1 c1 l1,slF (rI .u32) p2 c2 l2]
 refine zta 0 rfl (fun hL0=> ?_)
 refine zib 0 rfl (fun hE0=> ?_)
 refine zta 1 rfl (fun hL1=> ?_)
 refine zib 1 rfl (fun hE1=> ?_)
 have hnn1:Big.nn l1:=fun g hg=>(zG.1 (hE0 g hg)).1
 have hnn2:Big.nn l2:=fun g hg=>(zG.1 (hE1 g hg)).1
 have hb1:Big.ln (Big.raw s l1)≤n1:=by have:=Big.zjb (s:=s) hnn1;omega
 have hb2:Big.ln (Big.raw t l2)≤n2:=by have:=Big.zjb (s:=t) hnn2;omega
 refine zj<|zc<|zH rfl rfl (zba rfl rfl) (fun b1=> ?_)
 refine zH rfl rfl (zo zr44 rfl) (fun b2=> ?_)
 refine zk<|zg<|zj<|zj<|zc<|e_ru (ze 1 ty44 rfl rfl (.t4 .nil))<|zR rfl rfl (.c rfl .n) ce31 (zcd (s:=s) (p1:=p1) (n1:=n1) (c1:=c1) (l1:=l1) (t:=t) (p2:=p2) (n2:=n2) (c2:=c2) (l2:=l2) (hn1:=ass) (hn2:=ass) (hm1:=ass) (hm2:=ass)) (.c (j:=0) rfl (.c (j:=1) rfl .n))<|zk<|zg<|zP rfl (fun hq=> ?_) (fun hq=> ?_)
 ·
  have hrp:=Big.raw_parts (x:=((s,l1),(t,l2))) hnn1 hnn2 hq
  have hqp:=Big.qv_parts (x:=((s,l1),(t,l2))) hq
  have hl:Big.hq (Big.qv ((s,l1),(t,l2)))≤1048576:=by unfold Big.hq;rw [hqp.1,hqp.2];dsimp only;omega
  refine zj<|zc<|e_ru (ze 1 ty44 rfl rfl (.t4 .nil))<|zl 0 rfl rfl rfl rfl rfl sz44 rfl (.t4 .nil) .z<|zk<|zg<|zO<|zt<|zVa (qF true ⟨s,p1,n1,c1⟩ ⟨t,p2,n2,c2⟩ (Big.qv ((s,l1),(t,l2)))) (fun g r=>qF_rawI 0 1 rfl rfl hn1 hn2 hm1 hm2 hq g r) ?_
  exact zL Tryz.results57 (⟨s,p1,n1,c1⟩,⟨t,p2,n2,c2⟩) trivial (zr 0 ty44 rfl rfl (.t4 .nil)) rfl (ho:=(.n:PickO _ _ _)) ((.c (j:=0) rfl .n):SelR _ _ _)
 ·
  have hz:=Big.qv_not (x:=((s,l1),(t,l2))) hq
  refine zx<|zg<|zj<|zc<|zE rfl rfl (.c rfl .n) ce22 (zXa (z:=0) (hz:=by first|rfl|assumption|omega|(rw [Big.zX];omega)|(decide +kernel))) (.n) ?_
  rintro ⟨w33,w44⟩ -
  dsimp only [aq,nq,cq]
  refine zl 0 rfl rfl rfl rfl rfl sz44 rfl (.t4 .nil) .z<|zk<|zg<|zO ?_
  exact zL Tryz.results57 (w33,w44) trivial (zr 0 ty44 rfl rfl (.t4 .nil)) rfl (ho:=(.n:PickO _ _ _)) ((.e (j:=0) rfl (by rw [hz];rfl) .n):SelR _ _ _)
theorem zmb {k1:Bool} {u1:Wd} {v1:Wd} {q1:Rat}:Con Tryz.prog 57 [.agg #[u1.b,u1.l,v1.b,v1.l]] [] [qF k1 u1 v1 (q1)] (Y:=(Wd)×(Wd)) (fun y=>True) (fun y=> .agg #[y.1.b,y.1.l,y.2.b,y.2.l]) (fun y=>[]) (fun y=>[qF true y.1 y.2 (q1)]):=by
  exact zUe (fun x hx hk h1 h2 hl=>by subst hx;exact zle rfl rfl h1 h2)
theorem zVb {w1:Wd} {w2:Wd} {x1:Int} {x2:Int} (hl1:Big.ln x1≤1048576) (hl2:Big.ln x2≤1048576) (hd:x2≠0):Con Tryz.prog 58 [.agg #[w1.b,w1.l],.agg #[w2.b,w2.l]] [] [zF w1 x1,zF w2 x2] (Y:=Wd×Wd) (fun y=>True) (fun y=> .agg #[y.1.b,y.1.l,y.2.b,y.2.l]) (fun y=>[]) (fun y=>[qF true y.1 y.2 (Rat.divInt x1 x2)]):=by
 refine zw Tryz.func58 rfl rfl rfl (fun c=> ?_)
 show RunC _ _ _ _ _ [(0,.agg #[w1.b,w1.l]),(1,.agg #[w2.b,w2.l])] [] [zF w1 x1,zF w2 x2]
 refine zj<|zc<|zH rfl rfl (zba rfl rfl) (fun b1=> ?_)
 refine zH rfl rfl (zba rfl rfl) (fun b2=> ?_)
 refine zH rfl rfl (zo zr44 rfl) (fun b3=> ?_)
 refine zk<|zg<|zj<|zc<|e_ru (ze 2 ty42 rfl rfl (.t2 .nil))<|e_ru (ze 1 ty42 rfl rfl (.t2 .nil))<|zE rfl rfl (.c rfl (.c rfl .n)) ce68 (zgf (w1:=w1) (w2:=w2) (x1:=x1) (x2:=x2) (hb1:=by first|rfl|assumption|omega|(rw [Big.zX];omega)|(decide +kernel)) (hb2:=by first|rfl|assumption|omega|(rw [Big.zX];omega)|(decide +kernel))) (.c (j:=0) rfl (.c (j:=1) rfl .n)) ?_
 rintro w34 -
 dsimp only [aq,nq,cq]
 refine zH rfl rfl (zo zr42 rfl) (fun b5=> ?_)
 refine zl 0 rfl rfl rfl rfl rfl sz42 rfl (.t2 .nil) .z<|zk<|zg<|zj<|zj<|zc<|e_ru (ze 2 ty42 rfl rfl (.t2 .nil))<|zR rfl rfl (.c rfl .n) ce66 (zDc (w1:=w2) (x1:=x2) (hln:=by first|rfl|assumption|omega|(rw [Big.zX];omega)|(decide +kernel))) (.c (j:=2) rfl .n)<|e_p (zV rfl rfl)<|zk<|zg<|zP rfl (fun hneg=> ?_) (fun hneg=> ?_)
 ·
  have hs:x2<0:=by rcases Big.sign_le (x:=x2) with h|h|h <;> omega
  have hgp:=Big.gcd_pos_right (n:=x1) (d:=x2) om
  have hgl:=Big.zOd (n:=x1) (d:=x2) om
  obtain ⟨hr1,hr2⟩:=Big.red_neg (n:=x1) hs
  refine zc<|e_ru (ze 0 ty42 rfl rfl (.t2 .nil))<|zE rfl rfl (.c rfl .n) ce88 (zVd (w1:=w34) (x1:=((Nat.gcd x1.natAbs x2.natAbs:Nat):Int)) (hln:=by first|rfl|assumption|omega|(rw [Big.zX];omega)|(decide +kernel))) (.c (j:=0) rfl .n) ?_
  rintro w36 -
  dsimp only [aq,nq,cq]
  refine zl 0 rfl rfl rfl rfl rfl sz42 rfl (.t2 .nil) .z<|zk<|zg<|zj<|zc<|e_ru (ze 3 ty42 rfl rfl (.t2 .nil))<|e_ru (ze 0 ty42 rfl rfl (.t2 .nil))<|zE rfl rfl (.c rfl (.c rfl .n)) ce89 (zDb (w1:=w1) (w2:=w36) (x1:=x1) (x2:= - ((Nat.gcd x1.natAbs x2.natAbs:Nat):Int)) (hb1:=by first|rfl|assumption|omega|(rw [Big.zX];omega)|(decide +kernel)) (hb2:=by first|rfl|assumption|omega|(rw [Big.zX];omega)|(decide +kernel)) (hy:=by first|rfl|assumption|omega|(rw [Big.zX];omega)|(decide +kernel))) (.c (j:=2) rfl (.c (j:=0) rfl .n)) ?_
  rintro ⟨w37,w48⟩ -
  dsimp only [aq,nq,cq]
  refine e_mv rfl<|e_p (zy rfl rfl)<|e_p (zy rfl rfl)<|e_p (zy rfl rfl)<|zH rfl rfl (zo zr42 rfl) (fun b9=> ?_)
  refine zH rfl rfl (zo zr42 rfl) (fun b10=> ?_)
  refine zl 1 rfl rfl rfl rfl rfl sz42 rfl (.t2 .nil) (.s .z)<|zl 0 rfl rfl rfl rfl rfl sz42 rfl (.t2 .nil) .z<|e_p (zh rfl)<|zk<|zg<|zj<|zc<|e_ru (ze 4 ty42 rfl rfl (.t2 .nil))<|e_ru (ze 2 ty42 rfl rfl (.t2 .nil))<|zE rfl rfl (.c rfl (.c rfl .n)) ce89 (zDb (w1:=w2) (w2:=w36) (x1:=x2) (x2:= - ((Nat.gcd x1.natAbs x2.natAbs:Nat):Int)) (hb1:=by first|rfl|assumption|omega|(rw [Big.zX];omega)|(decide +kernel)) (hb2:=by first|rfl|assumption|omega|(rw [Big.zX];omega)|(decide +kernel)) (hy:=by first|rfl|assumption|omega|(rw [Big.zX];omega)|(decide +kernel))) (.c (j:=5) rfl (.c (j:=2) rfl .n)) ?_
  rintro ⟨w311,w412⟩ -
  dsimp only [aq,nq,cq]
  refine e_mv rfl<|e_p (zy rfl rfl)<|e_p (zy rfl rfl)<|e_p (zy rfl rfl)<|zH rfl rfl (zo zr42 rfl) (fun b13=> ?_)
  refine zH rfl rfl (zo zr42 rfl) (fun b14=> ?_)
  refine zl 1 rfl rfl rfl rfl rfl sz42 rfl (.t2 .nil) (.s .z)<|zl 0 rfl rfl rfl rfl rfl sz42 rfl (.t2 .nil) .z<|e_p (zh rfl)<|zk<|zg<|zj<|zc<|e_ru (ze 3 ty42 rfl rfl (.t2 .nil))<|e_ru (ze 1 ty42 rfl rfl (.t2 .nil))<|e_p (zu zr44 rfl Tryz.underlying44 (.c sz42 (.c sz42 .n)) (.c rfl (.c rfl .n)) (.c rfl rfl rfl (.t2 .nil) (.c rfl rfl rfl (.s2 (.t2 .nil)) .n)))<|zl 5 rfl rfl rfl rfl rfl sz44 rfl (.t4 .nil) (.s (.s (.s (.s (.s .z)))))<|zk<|zg<|zO<|zVa (qF true w37 w311 (Rat.divInt x1 x2)) (qF_close 2 0 rfl rfl (by exact ⟨hr1,hr2,Nat.le_trans (Big.hq_divInt hd) om⟩)) ?_
  exact zL Tryz.results58 (w37,w311) trivial (zr 5 ty44 rfl rfl (.t4 .nil)) rfl (ho:=(.n:PickO _ _ _)) ((.c (j:=0) rfl .n):SelR _ _ _)
 ·
  have hs:0<x2:=by rcases Big.sign_le (x:=x2) with h|h|h <;> omega
  have hgp:=Big.gcd_pos_right (n:=x1) (d:=x2) om
  have hgl:=Big.zOd (n:=x1) (d:=x2) om
  obtain ⟨hr1,hr2⟩:=Big.red_pos (n:=x1) hs
  refine zx<|zg<|zj<|zc<|e_ru (ze 3 ty42 rfl rfl (.t2 .nil))<|e_ru (ze 0 ty42 rfl rfl (.t2 .nil))<|zE rfl rfl (.c rfl (.c rfl .n)) ce89 (zDb (w1:=w1) (w2:=w34) (x1:=x1) (x2:=((Nat.gcd x1.natAbs x2.natAbs:Nat):Int)) (hb1:=by first|rfl|assumption|omega|(rw [Big.zX];omega)|(decide +kernel)) (hb2:=by first|rfl|assumption|omega|(rw [Big.zX];omega)|(decide +kernel)) (hy:=by first|rfl|assumption|omega|(rw [Big.zX];omega)|(decide +kernel))) (.c (j:=1) rfl (.c (j:=0) rfl .n)) ?_
  rintro ⟨w315,w416⟩ -
  dsimp only [aq,nq,cq]
  refine e_mv rfl<|e_p (zy rfl rfl)<|e_p (zy rfl rfl)<|e_p (zy rfl rfl)<|zH rfl rfl (zo zr42 rfl) (fun b17=> ?_)
  refine zH rfl rfl (zo zr42 rfl) (fun b18=> ?_)
  refine zl 1 rfl rfl rfl rfl rfl sz42 rfl (.t2 .nil) (.s .z)<|zl 0 rfl rfl rfl rfl rfl sz42 rfl (.t2 .nil) .z<|e_p (zh rfl)<|zk<|zg<|zj<|zc<|e_ru (ze 4 ty42 rfl rfl (.t2 .nil))<|e_ru (ze 2 ty42 rfl rfl (.t2 .nil))<|zE rfl rfl (.c rfl (.c rfl .n)) ce89 (zDb (w1:=w2) (w2:=w34) (x1:=x2) (x2:=((Nat.gcd x1.natAbs x2.natAbs:Nat):Int)) (hb1:=by first|rfl|assumption|omega|(rw [Big.zX];omega)|(decide +kernel)) (hb2:=by first|rfl|assumption|omega|(rw [Big.zX];omega)|(decide +kernel)) (hy:=by first|rfl|assumption|omega|(rw [Big.zX];omega)|(decide +kernel))) (.c (j:=4) rfl (.c (j:=2) rfl .n)) ?_
  rintro ⟨w319,w420⟩ -
  dsimp only [aq,nq,cq]
  refine e_mv rfl<|e_p (zy rfl rfl)<|e_p (zy rfl rfl)<|e_p (zy rfl rfl)<|zH rfl rfl (zo zr42 rfl) (fun b21=> ?_)
  refine zH rfl rfl (zo zr42 rfl) (fun b22=> ?_)
  refine zl 1 rfl rfl rfl rfl rfl sz42 rfl (.t2 .nil) (.s .z)<|zl 0 rfl rfl rfl rfl rfl sz42 rfl (.t2 .nil) .z<|e_p (zh rfl)<|zk<|zg<|zj<|zc<|e_ru (ze 3 ty42 rfl rfl (.t2 .nil))<|e_ru (ze 1 ty42 rfl rfl (.t2 .nil))<|e_p (zu zr44 rfl Tryz.underlying44 (.c sz42 (.c sz42 .n)) (.c rfl (.c rfl .n)) (.c rfl rfl rfl (.t2 .nil) (.c rfl rfl rfl (.s2 (.t2 .nil)) .n)))<|zl 5 rfl rfl rfl rfl rfl sz44 rfl (.t4 .nil) (.s (.s (.s (.s (.s .z)))))<|zk<|zg<|zO<|zVa (qF true w315 w319 (Rat.divInt x1 x2)) (qF_close 2 0 rfl rfl (by exact ⟨hr1,hr2,Nat.le_trans (Big.hq_divInt hd) om⟩)) ?_
  exact zL Tryz.results58 (w315,w319) trivial (zr 5 ty44 rfl rfl (.t4 .nil)) rfl (ho:=(.n:PickO _ _ _)) ((.c (j:=0) rfl .n):SelR _ _ _)
theorem zCf {w1:Wd} {w2:Wd} {x1:Int} {x2:Int} (hl1:Big.ln x1≤1048576) (hl2:Big.ln x2≤1048576):Con Tryz.prog 72 [.agg #[w1.b,w1.l],.agg #[w2.b,w2.l]] [] [zF w1 x1,zF w2 x2] (Y:=Wd×Wd) (fun y=>True) (fun y=> .tuple #[.agg #[y.1.b,y.1.l,y.2.b,y.2.l],.int .i64 (if x2=0 then 14 else 0)]) (fun y=>[]) (fun y=>[qF (decide (x2≠0)) y.1 y.2 (Rat.divInt x1 x2)]):=by
 refine zw Tryz.func72 rfl rfl rfl (fun c=> ?_)
 show RunC _ _ _ _ _ [(0,.agg #[w1.b,w1.l]),(1,.agg #[w2.b,w2.l])] [] [zF w1 x1,zF w2 x2]
 refine zj<|zc<|zH rfl rfl (zba rfl rfl) (fun b1=> ?_)
 refine zH rfl rfl (zba rfl rfl) (fun b2=> ?_)
 refine zH rfl rfl (zo zr44 rfl) (fun b3=> ?_)
 refine e_p (zh rfl)<|zk<|zg<|zj<|zj<|zc<|e_ru (ze 1 ty42 rfl rfl (.t2 .nil))<|zR rfl rfl (.c rfl .n) ce66 (zDc (w1:=w2) (x1:=x2) (hln:=by first|rfl|assumption|omega|(rw [Big.zX];omega)|(decide +kernel))) (.c (j:=1) rfl .n)<|e_p (zIa rfl rfl)<|zk<|zg<|zP rfl (fun hz0=> ?_) (fun hz0=> ?_)
 ·
  have hx0:x2=0:=Big.sign_zero.1 hz0
  refine zj<|zc<|e_p (zu zr44 rfl Tryz.underlying44 (.c sz42 (.c sz42 .n)) .n .n)<|zl 0 rfl rfl rfl rfl rfl sz44 rfl (.t4 .nil) .z<|e_p (zh rfl)<|zk<|zg<|zO<|zt<|zVa (qF false wz wz 0) (fun g _=>qF_none g) ?_
  exact zCa Tryz.results72 (wz,wz) trivial (zr 0 ty44 rfl rfl (.t4 .nil)) (zB rfl) (by rw [if_pos hx0];rfl) (ho:=(.n:PickO _ _ _)) ((.e (j:=0) rfl (by rw [Big.divInt_nil hx0,decide_eq_false (not_not_intro hx0)]) .n):SelR _ _ _)
 ·
  have hx0:x2≠0:=fun e=>hz0 (Big.sign_zero.2 e)
  refine zx<|zg<|zj<|zc<|e_ru (ze 2 ty42 rfl rfl (.t2 .nil))<|e_ru (ze 1 ty42 rfl rfl (.t2 .nil))<|zE rfl rfl (.c rfl (.c rfl .n)) ce58 (zVb (w1:=w1) (w2:=w2) (x1:=x1) (x2:=x2) (hl1:=ass) (hl2:=ass) (hd:=by first|rfl|assumption|omega|(rw [Big.zX];omega)|(decide +kernel))) (.c (j:=0) rfl (.c (j:=1) rfl .n)) ?_
  rintro ⟨w34,w45⟩ -
  dsimp only [aq,nq,cq]
  refine zl 0 rfl rfl rfl rfl rfl sz44 rfl (.t4 .nil) .z<|e_p (zh rfl)<|zk<|zg<|zO ?_
  exact zCa Tryz.results72 (w34,w45) trivial (zr 0 ty44 rfl rfl (.t4 .nil)) (zB rfl) (by rw [if_neg hx0]) (ho:=(.n:PickO _ _ _)) ((.e (j:=0) rfl (by rw [decide_eq_true hx0]) .n):SelR _ _ _)
theorem zDf {z1:Int} {z2:Int} (hz1: -9223372036854775808≤z1∧z1≤9223372036854775807) (hz2: -9223372036854775808≤z2∧z2≤9223372036854775807):Con Tryz.prog 41 [.int .i64 z1,.int .i64 z2] [] [] (Y:=Wd×Wd) (fun y=>True) (fun y=> .tuple #[.agg #[y.1.b,y.1.l,y.2.b,y.2.l],.int .i64 (if z2=0 then 14 else 0)]) (fun y=>[]) (fun y=>[qF (decide (z2≠0)) y.1 y.2 (Rat.divInt z1 z2)]):=by
 refine zw Tryz.func41 rfl rfl rfl (fun c=> ?_)
 show RunC _ _ _ _ _ [(0,.int .i64 z1),(1,.int .i64 z2)] [] []
 have g1:=Big.zRe hz1.1 hz1.2
 have g2:=Big.zRe hz2.1 hz2.2
 refine zj<|zc<|zH rfl rfl (zo zr44 rfl) (fun b1=> ?_)
 refine e_p (zh rfl)<|zk<|zg<|zj<|zc<|e_mv rfl<|zE rfl rfl (.c rfl .n) ce56 (zMb (z:=z1) (hz:=ass)) (.n) ?_
 rintro w32 -
 dsimp only [aq,nq,cq]
 refine e_mv rfl<|zE rfl rfl (.c rfl .n) ce56 (zMb (z:=z2) (hz:=ass)) (.n) ?_
 rintro w33 -
 dsimp only [aq,nq,cq]
 refine zE rfl rfl (.c rfl (.c rfl .n)) ce72 (zCf (w1:=w32) (w2:=w33) (x1:=z1) (x2:=z2) (hl1:=by first|rfl|assumption|omega|(rw [Big.zX];omega)|(decide +kernel)) (hl2:=by first|rfl|assumption|omega|(rw [Big.zX];omega)|(decide +kernel))) (.c (j:=1) rfl (.c (j:=0) rfl .n)) ?_
 rintro ⟨w34,w45⟩ -
 dsimp only [aq,nq,cq]
 refine e_p (zy rfl rfl)<|e_p (zy rfl rfl)<|zl 0 rfl rfl rfl rfl rfl sz44 rfl (.t4 .nil) .z<|e_p (zh rfl)<|zk<|zg<|zO ?_
 exact zCa Tryz.results41 (w34,w45) trivial (zr 0 ty44 rfl rfl (.t4 .nil)) (zB rfl) rfl (ho:=(.n:PickO _ _ _)) ((.c (j:=0) rfl .n):SelR _ _ _)
theorem zrd {z1:Int} {z2:Int} (hz1: -9223372036854775808≤z1∧z1≤9223372036854775807) (hz2: -9223372036854775808≤z2∧z2≤9223372036854775807) (hy:z2≠0):Con Tryz.prog 41 [.int .i64 (z1),.int .i64 (z2)] [] [] (Y:=(Wd)×(Wd)) (fun y=>True) (fun y=> .tuple #[.agg #[y.1.b,y.1.l,y.2.b,y.2.l],.int .i64 (0)]) (fun y=>[]) (fun y=>[qF true y.1 y.2 (Rat.divInt z1 z2)]):=by
  have h:=zDf hz1 hz2
  rw [if_neg hy,decide_eq_true hy] at h
  exact h
theorem zFe {k1:Bool} {u1:Wd} {v1:Wd} {q1:Rat} (hl:Big.hq q1≤1048576):Con Tryz.prog 53 [.agg #[u1.b,u1.l,v1.b,v1.l]] [] [qF k1 u1 v1 q1] (Y:=Unit) (fun y=>True) (fun y=> .int .i64 (Big.sgq q1)) (fun y=>[]) (fun y=>[]):=by
 refine zw Tryz.func53 rfl rfl rfl (fun c=> ?_)
 show RunC _ _ _ _ _ [(0,.agg #[u1.b,u1.l,v1.b,v1.l])] [] [qF k1 u1 v1 q1]
 have a1:=Big.hq_num q1
 have a2:=Big.hq_den q1
 refine zj<|zc<|zH rfl rfl (zba rfl rfl) (fun b1=> ?_)
 refine e_p (zh rfl)<|zk<|zg<|zj<|zc<|e_ru (ze 0 ty44 rfl rfl (.t4 .nil))<|zE rfl rfl (.c rfl .n) ce57 (zmb (k1:=k1) (u1:=u1) (v1:=v1) (q1:=q1)) (.c (j:=0) rfl .n) ?_
 rintro ⟨w32,w43⟩ -
 dsimp only [aq,nq,cq]
 refine e_p (zIc Tryz.underlying44 rfl ty42 rfl (.t2 .nil))<|zGc (qF_open 0 rfl) (fun _ _=> ?_)
 refine zR rfl rfl (.c rfl .n) ce66 (zDc (w1:=w32) (x1:=(q1).num) (hln:=by first|rfl|assumption|omega|(rw [Big.zX];omega)|(decide +kernel))) (.c (j:=0) rfl .n)<|e_p (zh rfl)<|zk<|zg<|zO ?_
 exact zL Tryz.results53 () trivial (zB rfl) rfl (ho:=(.n:PickO _ _ _)) (.n:SelR _ _ _)
theorem zhf {k1:Bool} {u1:Wd} {v1:Wd} {q1:Rat} (hl:Big.hq q1≤1048576):Con Tryz.prog 62 [.agg #[u1.b,u1.l,v1.b,v1.l]] [] [qF k1 u1 v1 q1] (Y:=Wd×Wd) (fun y=>True) (fun y=> .agg #[y.1.b,y.1.l,y.2.b,y.2.l]) (fun y=>[]) (fun y=>[qF true y.1 y.2 (- q1)]):=by
 refine zw Tryz.func62 rfl rfl rfl (fun c=> ?_)
 show RunC _ _ _ _ _ [(0,.agg #[u1.b,u1.l,v1.b,v1.l])] [] [qF k1 u1 v1 q1]
 have a1:=Big.hq_num q1
 have a2:=Big.hq_den q1
 refine zj<|zc<|zH rfl rfl (zba rfl rfl) (fun b1=> ?_)
 refine zH rfl rfl (zo zr44 rfl) (fun b2=> ?_)
 refine zk<|zg<|zj<|zc<|e_ru (ze 1 ty44 rfl rfl (.t4 .nil))<|zE rfl rfl (.c rfl .n) ce57 (zmb (k1:=k1) (u1:=u1) (v1:=v1) (q1:=q1)) (.c (j:=0) rfl .n) ?_
 rintro ⟨w33,w44⟩ -
 dsimp only [aq,nq,cq]
 refine zH rfl rfl (zo zr44 rfl) (fun b5=> ?_)
 refine zl 0 rfl rfl rfl rfl rfl sz44 rfl (.t4 .nil) .z<|zk<|zg<|zj<|zca (.c (i:=1) rfl (.c (i:=0) rfl (.c (i:=0) rfl .n)))<|zT (OW:=[boxA b2 44 (cw [wz,wz])]) (O:=[boxA b5 44 (cw [w33,w44]),boxA b1 44 (cw [u1,v1])]) 6 mixed (.then .ret) kr<|e_pv 0 rfl rfl (zf Tryz.underlying44 rfl sz42 rfl rfl)<|e_uw 1 rfl rfl (ze 1 ty42 rfl rfl (.t2 .nil))<|e_pv 3 rfl rfl (zf Tryz.underlying44 rfl sz42 rfl rfl)<|e_uw 4 rfl rfl (ze 1 ty42 rfl rfl (.s2 (.t2 .nil)))<|zPb (qF_open 0 rfl) (fun _ _=> ?_)
 refine e_one 2 (zm rfl rfl rfl rfl (.c rfl .n) ce88 (zVd (w1:=w33) (x1:=(q1).num) (hln:=by first|rfl|assumption|omega|(rw [Big.zX];omega)|(decide +kernel))) (.c (j:=0) rfl .n) ?_)
 rintro w36 -
 dsimp only [aq,nq,cq]
 refine e_pv 5 rfl rfl (zu zr44 rfl Tryz.underlying44 (.c sz42 (.c sz42 .n)) (.c rfl (.c rfl .n)) (.c rfl rfl rfl (.t2 .nil) (.c rfl rfl rfl (.s2 (.t2 .nil)) .n)))<|e_one 6 (zp kr rfl rfl rfl rfl rfl sz44 rfl (.t4 .nil) ?_)
 refine zQ kr<|zg<|zO<|zVa (qF true w36 w44 (- q1)) (qF_close 0 2 rfl rfl (by exact ⟨(Rat.neg_num q1).symm,by rw [Rat.neg_den],by rw [Big.hq_neg];exact hl⟩)) ?_
 exact zL Tryz.results62 (w36,w44) trivial (zr 0 ty44 rfl rfl (.t4 .nil)) rfl (ho:=(.n:PickO _ _ _)) ((.c (j:=0) rfl .n):SelR _ _ _)
theorem zxc {k1:Bool} {u1:Wd} {v1:Wd} {q1:Rat} {k2:Bool} {u2:Wd} {v2:Wd} {q2:Rat} (hl:Big.hq q1+Big.hq q2+1≤1048576):Con Tryz.prog 25 [.agg #[u1.b,u1.l,v1.b,v1.l],.agg #[u2.b,u2.l,v2.b,v2.l]] [] [qF k1 u1 v1 q1,qF k2 u2 v2 q2] (Y:=Wd×Wd) (fun y=>True) (fun y=> .agg #[y.1.b,y.1.l,y.2.b,y.2.l]) (fun y=>[]) (fun y=>[qF true y.1 y.2 (q1+q2)]):=by
 refine zw Tryz.func25 rfl rfl rfl (fun c=> ?_)
 show RunC _ _ _ _ _ [(0,.agg #[u1.b,u1.l,v1.b,v1.l]),(1,.agg #[u2.b,u2.l,v2.b,v2.l])] [] [qF k1 u1 v1 q1,qF k2 u2 v2 q2]
 have a1:=Big.hq_num q1
 have a2:=Big.hq_den q1
 have a3:=Big.hq_num q2
 have a4:=Big.hq_den q2
 have b1:=Big.zTa q1.num q2.den
 have b2:=Big.zTa q2.num q1.den
 have b3:=Big.zVc (q1.num*q2.den) (q2.num*q1.den)
 have b4:=Big.zTa (q1.den:Int) q2.den
 have b5:=Big.zTa q1.num q2.num
 refine zj<|zc<|zH rfl rfl (zba rfl rfl) (fun b1=> ?_)
 refine zH rfl rfl (zba rfl rfl) (fun b2=> ?_)
 refine zH rfl rfl (zo zr44 rfl) (fun b3=> ?_)
 refine zk<|zg<|zj<|zc<|e_ru (ze 2 ty44 rfl rfl (.t4 .nil))<|zE rfl rfl (.c rfl .n) ce57 (zmb (k1:=k1) (u1:=u1) (v1:=v1) (q1:=q1)) (.c (j:=0) rfl .n) ?_
 rintro ⟨w34,w45⟩ -
 dsimp only [aq,nq,cq]
 refine zH rfl rfl (zo zr44 rfl) (fun b6=> ?_)
 refine zl 0 rfl rfl rfl rfl rfl sz44 rfl (.t4 .nil) .z<|zk<|zg<|zj<|zc<|e_ru (ze 2 ty44 rfl rfl (.t4 .nil))<|zE rfl rfl (.c rfl .n) ce57 (zmb (k1:=k2) (u1:=u2) (v1:=v2) (q1:=q2)) (.c (j:=2) rfl .n) ?_
 rintro ⟨w37,w48⟩ -
 dsimp only [aq,nq,cq]
 refine zH rfl rfl (zo zr44 rfl) (fun b9=> ?_)
 refine zl 0 rfl rfl rfl rfl rfl sz44 rfl (.t4 .nil) .z<|zk<|zg<|zj<|zca (.c (i:=2) rfl (.c (i:=0) rfl (.c (i:=0) rfl (.c (i:=0) rfl (.c (i:=0) rfl .n)))))<|zT (OW:=[boxA b3 44 (cw [wz,wz])]) (O:=[boxA b9 44 (cw [w37,w48]),boxA b6 44 (cw [w34,w45]),boxA b2 44 (cw [u2,v2]),boxA b1 44 (cw [u1,v1])]) 17 mixed (.then .ret) kr<|e_pv 0 rfl rfl (zf Tryz.underlying44 rfl sz42 rfl rfl)<|e_uw 1 rfl rfl (ze 2 ty42 rfl rfl (.t2 .nil))<|e_pv 2 rfl rfl (zf Tryz.underlying44 rfl sz42 rfl rfl)<|e_uw 3 rfl rfl (ze 1 ty42 rfl rfl (.s2 (.t2 .nil)))<|e_pv 5 rfl rfl (zf Tryz.underlying44 rfl sz42 rfl rfl)<|e_uw 6 rfl rfl (ze 1 ty42 rfl rfl (.t2 .nil))<|e_pv 7 rfl rfl (zf Tryz.underlying44 rfl sz42 rfl rfl)<|e_uw 8 rfl rfl (ze 2 ty42 rfl rfl (.s2 (.t2 .nil)))<|e_pv 11 rfl rfl (zf Tryz.underlying44 rfl sz42 rfl rfl)<|e_uw 12 rfl rfl (ze 2 ty42 rfl rfl (.s2 (.t2 .nil)))<|e_pv 13 rfl rfl (zf Tryz.underlying44 rfl sz42 rfl rfl)<|e_uw 14 rfl rfl (ze 1 ty42 rfl rfl (.s2 (.t2 .nil)))<|zPb (qF_open 1 rfl) (fun _ _=> ?_)
 refine zPb (qF_open 2 rfl) (fun _ _=> ?_)
 refine e_one 4 (zm rfl rfl rfl rfl (.c rfl (.c rfl .n)) ce60 (zUb (w1:=w34) (w2:=w48) (x1:=(q1).num) (x2:=(((q2).den:Nat):Int)) (hb1:=by first|rfl|assumption|omega|(rw [Big.zX];omega)|(decide +kernel)) (hb2:=by first|rfl|assumption|omega|(rw [Big.zX];omega)|(decide +kernel))) (.c (j:=2) rfl (.c (j:=1) rfl .n)) ?_)
 rintro w310 -
 dsimp only [aq,nq,cq]
 refine e_one 9 (zm rfl rfl rfl rfl (.c rfl (.c rfl .n)) ce60 (zUb (w1:=w37) (w2:=w45) (x1:=(q2).num) (x2:=(((q1).den:Nat):Int)) (hb1:=by first|rfl|assumption|omega|(rw [Big.zX];omega)|(decide +kernel)) (hb2:=by first|rfl|assumption|omega|(rw [Big.zX];omega)|(decide +kernel))) (.c (j:=1) rfl (.c (j:=4) rfl .n)) ?_)
 rintro w311 -
 dsimp only [aq,nq,cq]
 refine e_one 10 (zm rfl rfl rfl rfl (.c rfl (.c rfl .n)) ce59 (zef (w1:=w310) (w2:=w311) (x1:=((q1).num)*(((q2).den:Nat):Int)) (x2:=((q2).num)*(((q1).den:Nat):Int)) (hb1:=by first|rfl|assumption|omega|(rw [Big.zX];omega)|(decide +kernel)) (hb2:=by first|rfl|assumption|omega|(rw [Big.zX];omega)|(decide +kernel))) (.c (j:=1) rfl (.c (j:=0) rfl .n)) ?_)
 rintro w312 -
 dsimp only [aq,nq,cq]
 refine e_one 15 (zm rfl rfl rfl rfl (.c rfl (.c rfl .n)) ce60 (zUb (w1:=w45) (w2:=w48) (x1:=(((q1).den:Nat):Int)) (x2:=(((q2).den:Nat):Int)) (hb1:=by first|rfl|assumption|omega|(rw [Big.zX];omega)|(decide +kernel)) (hb2:=by first|rfl|assumption|omega|(rw [Big.zX];omega)|(decide +kernel))) (.c (j:=6) rfl (.c (j:=4) rfl .n)) ?_)
 rintro w313 -
 dsimp only [aq,nq,cq]
 refine e_one 16 (zm rfl rfl rfl rfl (.c rfl (.c rfl .n)) ce58 (zVb (w1:=w312) (w2:=w313) (x1:=(((q1).num)*(((q2).den:Nat):Int))+(((q2).num)*(((q1).den:Nat):Int))) (x2:=(((q1).den:Nat):Int)*(((q2).den:Nat):Int)) (hl1:=by first|rfl|assumption|omega|(rw [Big.zX];omega)|(decide +kernel)) (hl2:=by first|rfl|assumption|omega|(rw [Big.zX];omega)|(decide +kernel)) (hd:=by exact Int.mul_ne_zero (Big.den_ne q1) (Big.den_ne q2))) (.c (j:=1) rfl (.c (j:=0) rfl .n)) ?_)
 rintro ⟨w314,w415⟩ -
 dsimp only [aq,nq,cq]
 refine e_one 17 (zp kr rfl rfl rfl rfl rfl sz44 rfl (.t4 .nil) ?_)
 refine zQ kr<|zg<|zO ?_
 exact zL Tryz.results25 (w314,w415) trivial (zr 0 ty44 rfl rfl (.t4 .nil)) rfl (ho:=(.n:PickO _ _ _)) ((.e (j:=0) rfl (by rw [Big.add_parts]) .n):SelR _ _ _)
theorem zdd {k1:Bool} {u1:Wd} {v1:Wd} {q1:Rat} {k2:Bool} {u2:Wd} {v2:Wd} {q2:Rat} (hl:Big.hq q1+Big.hq q2+1≤1048576):Con Tryz.prog 54 [.agg #[u1.b,u1.l,v1.b,v1.l],.agg #[u2.b,u2.l,v2.b,v2.l]] [] [qF k1 u1 v1 q1,qF k2 u2 v2 q2] (Y:=Wd×Wd) (fun y=>True) (fun y=> .agg #[y.1.b,y.1.l,y.2.b,y.2.l]) (fun y=>[]) (fun y=>[qF true y.1 y.2 (q1*q2)]):=by
 refine zw Tryz.func54 rfl rfl rfl (fun c=> ?_)
 show RunC _ _ _ _ _ [(0,.agg #[u1.b,u1.l,v1.b,v1.l]),(1,.agg #[u2.b,u2.l,v2.b,v2.l])] [] [qF k1 u1 v1 q1,qF k2 u2 v2 q2]
 have a1:=Big.hq_num q1
 have a2:=Big.hq_den q1
 have a3:=Big.hq_num q2
 have a4:=Big.hq_den q2
 have b1:=Big.zTa q1.num q2.den
 have b2:=Big.zTa q2.num q1.den
 have b3:=Big.zVc (q1.num*q2.den) (q2.num*q1.den)
 have b4:=Big.zTa (q1.den:Int) q2.den
 have b5:=Big.zTa q1.num q2.num
 refine zj<|zc<|zH rfl rfl (zba rfl rfl) (fun b1=> ?_)
 refine zH rfl rfl (zba rfl rfl) (fun b2=> ?_)
 refine zH rfl rfl (zo zr44 rfl) (fun b3=> ?_)
 refine zk<|zg<|zj<|zc<|e_ru (ze 2 ty44 rfl rfl (.t4 .nil))<|zE rfl rfl (.c rfl .n) ce57 (zmb (k1:=k1) (u1:=u1) (v1:=v1) (q1:=q1)) (.c (j:=0) rfl .n) ?_
 rintro ⟨w34,w45⟩ -
 dsimp only [aq,nq,cq]
 refine zH rfl rfl (zo zr44 rfl) (fun b6=> ?_)
 refine zl 0 rfl rfl rfl rfl rfl sz44 rfl (.t4 .nil) .z<|zk<|zg<|zj<|zc<|e_ru (ze 2 ty44 rfl rfl (.t4 .nil))<|zE rfl rfl (.c rfl .n) ce57 (zmb (k1:=k2) (u1:=u2) (v1:=v2) (q1:=q2)) (.c (j:=2) rfl .n) ?_
 rintro ⟨w37,w48⟩ -
 dsimp only [aq,nq,cq]
 refine zH rfl rfl (zo zr44 rfl) (fun b9=> ?_)
 refine zl 0 rfl rfl rfl rfl rfl sz44 rfl (.t4 .nil) .z<|zk<|zg<|zj<|zca (.c (i:=2) rfl (.c (i:=0) rfl (.c (i:=0) rfl (.c (i:=0) rfl (.c (i:=0) rfl .n)))))<|zT (OW:=[boxA b3 44 (cw [wz,wz])]) (O:=[boxA b9 44 (cw [w37,w48]),boxA b6 44 (cw [w34,w45]),boxA b2 44 (cw [u2,v2]),boxA b1 44 (cw [u1,v1])]) 11 mixed (.then .ret) kr<|e_pv 0 rfl rfl (zf Tryz.underlying44 rfl sz42 rfl rfl)<|e_uw 1 rfl rfl (ze 2 ty42 rfl rfl (.t2 .nil))<|e_pv 2 rfl rfl (zf Tryz.underlying44 rfl sz42 rfl rfl)<|e_uw 3 rfl rfl (ze 1 ty42 rfl rfl (.t2 .nil))<|e_pv 5 rfl rfl (zf Tryz.underlying44 rfl sz42 rfl rfl)<|e_uw 6 rfl rfl (ze 2 ty42 rfl rfl (.s2 (.t2 .nil)))<|e_pv 7 rfl rfl (zf Tryz.underlying44 rfl sz42 rfl rfl)<|e_uw 8 rfl rfl (ze 1 ty42 rfl rfl (.s2 (.t2 .nil)))<|zPb (qF_open 1 rfl) (fun _ _=> ?_)
 refine zPb (qF_open 2 rfl) (fun _ _=> ?_)
 refine e_one 4 (zm rfl rfl rfl rfl (.c rfl (.c rfl .n)) ce60 (zUb (w1:=w34) (w2:=w37) (x1:=(q1).num) (x2:=(q2).num) (hb1:=by first|rfl|assumption|omega|(rw [Big.zX];omega)|(decide +kernel)) (hb2:=by first|rfl|assumption|omega|(rw [Big.zX];omega)|(decide +kernel))) (.c (j:=2) rfl (.c (j:=0) rfl .n)) ?_)
 rintro w310 -
 dsimp only [aq,nq,cq]
 refine e_one 9 (zm rfl rfl rfl rfl (.c rfl (.c rfl .n)) ce60 (zUb (w1:=w45) (w2:=w48) (x1:=(((q1).den:Nat):Int)) (x2:=(((q2).den:Nat):Int)) (hb1:=by first|rfl|assumption|omega|(rw [Big.zX];omega)|(decide +kernel)) (hb2:=by first|rfl|assumption|omega|(rw [Big.zX];omega)|(decide +kernel))) (.c (j:=4) rfl (.c (j:=2) rfl .n)) ?_)
 rintro w311 -
 dsimp only [aq,nq,cq]
 refine e_one 10 (zm rfl rfl rfl rfl (.c rfl (.c rfl .n)) ce58 (zVb (w1:=w310) (w2:=w311) (x1:=((q1).num)*((q2).num)) (x2:=(((q1).den:Nat):Int)*(((q2).den:Nat):Int)) (hl1:=by first|rfl|assumption|omega|(rw [Big.zX];omega)|(decide +kernel)) (hl2:=by first|rfl|assumption|omega|(rw [Big.zX];omega)|(decide +kernel)) (hd:=by exact Int.mul_ne_zero (Big.den_ne q1) (Big.den_ne q2))) (.c (j:=1) rfl (.c (j:=0) rfl .n)) ?_)
 rintro ⟨w312,w413⟩ -
 dsimp only [aq,nq,cq]
 refine e_one 11 (zp kr rfl rfl rfl rfl rfl sz44 rfl (.t4 .nil) ?_)
 refine zQ kr<|zg<|zO ?_
 exact zL Tryz.results54 (w312,w413) trivial (zr 0 ty44 rfl rfl (.t4 .nil)) rfl (ho:=(.n:PickO _ _ _)) ((.e (j:=0) rfl (by rw [Big.mul_parts]) .n):SelR _ _ _)
theorem zif {k1:Bool} {u1:Wd} {v1:Wd} {q1:Rat} {k2:Bool} {u2:Wd} {v2:Wd} {q2:Rat} (hl:Big.hq q1+Big.hq q2+1≤1048576):Con Tryz.prog 28 [.agg #[u1.b,u1.l,v1.b,v1.l],.agg #[u2.b,u2.l,v2.b,v2.l]] [] [qF k1 u1 v1 q1,qF k2 u2 v2 q2] (Y:=Wd×Wd) (fun y=>True) (fun y=> .agg #[y.1.b,y.1.l,y.2.b,y.2.l]) (fun y=>[]) (fun y=>[qF true y.1 y.2 (q1 - q2)]):=by
 refine zw Tryz.func28 rfl rfl rfl (fun c=> ?_)
 show RunC _ _ _ _ _ [(0,.agg #[u1.b,u1.l,v1.b,v1.l]),(1,.agg #[u2.b,u2.l,v2.b,v2.l])] [] [qF k1 u1 v1 q1,qF k2 u2 v2 q2]
 have a1:=Big.hq_num q1
 have a2:=Big.hq_den q1
 have a3:=Big.hq_num q2
 have a4:=Big.hq_den q2
 refine zj<|zc<|zH rfl rfl (zba rfl rfl) (fun b1=> ?_)
 refine zH rfl rfl (zba rfl rfl) (fun b2=> ?_)
 refine zH rfl rfl (zo zr44 rfl) (fun b3=> ?_)
 refine zk<|zg<|zj<|zT (OW:=[boxA b3 44 (cw [wz,wz])]) (O:=[boxA b2 44 (cw [u2,v2]),boxA b1 44 (cw [u1,v1])]) 4 mixed (.then .ret) kr<|e_uw 0 rfl rfl (ze 2 ty44 rfl rfl (.t4 .nil))<|e_uw 1 rfl rfl (ze 1 ty44 rfl rfl (.t4 .nil))<|e_one 2 (zm rfl rfl rfl rfl (.c rfl .n) ce62 (zhf (k1:=k2) (u1:=u2) (v1:=v2) (q1:=q2) (hl:=by first|rfl|assumption|omega|(rw [Big.zX];omega)|(decide +kernel)|(rw [Big.hq_neg];omega))) (.c (j:=1) rfl .n) ?_)
 rintro ⟨w34,w45⟩ -
 dsimp only [aq,nq,cq]
 refine e_one 3 (zm rfl rfl rfl rfl (.c rfl (.c rfl .n)) ce25 (zxc (k1:=k1) (u1:=u1) (v1:=v1) (q1:=q1) (k2:=true) (u2:=w34) (v2:=w45) (q2:= - q2) (hl:=by first|rfl|assumption|omega|(rw [Big.zX];omega)|(decide +kernel)|(rw [Big.hq_neg];omega))) (.c (j:=1) rfl (.c (j:=0) rfl .n)) ?_)
 rintro ⟨w36,w47⟩ -
 dsimp only [aq,nq,cq]
 refine e_one 4 (zp kr rfl rfl rfl rfl rfl sz44 rfl (.t4 .nil) ?_)
 refine zQ kr<|zg<|zO ?_
 exact zL Tryz.results28 (w36,w47) trivial (zr 0 ty44 rfl rfl (.t4 .nil)) rfl (ho:=(.n:PickO _ _ _)) ((.e (j:=0) rfl (by rw [Rat.sub_eq_add_neg]) .n):SelR _ _ _)
theorem zCd {k1:Bool} {u1:Wd} {v1:Wd} {q1:Rat} {k2:Bool} {u2:Wd} {v2:Wd} {q2:Rat} (hl:Big.hq q1+Big.hq q2+1≤1048576):Con Tryz.prog 38 [.agg #[u1.b,u1.l,v1.b,v1.l],.agg #[u2.b,u2.l,v2.b,v2.l]] [] [qF k1 u1 v1 q1,qF k2 u2 v2 q2] (Y:=Unit) (fun y=>True) (fun y=> .int .i64 (Big.sgq (q1 - q2))) (fun y=>[]) (fun y=>[]):=by
 refine zw Tryz.func38 rfl rfl rfl (fun c=> ?_)
 show RunC _ _ _ _ _ [(0,.agg #[u1.b,u1.l,v1.b,v1.l]),(1,.agg #[u2.b,u2.l,v2.b,v2.l])] [] [qF k1 u1 v1 q1,qF k2 u2 v2 q2]
 have hsb:=Big.hq_sub q1 q2
 refine zj<|zc<|zH rfl rfl (zba rfl rfl) (fun b1=> ?_)
 refine zH rfl rfl (zba rfl rfl) (fun b2=> ?_)
 refine e_p (zh rfl)<|zk<|zg<|zj<|zc<|e_ru (ze 1 ty44 rfl rfl (.t4 .nil))<|e_ru (ze 0 ty44 rfl rfl (.t4 .nil))<|zE rfl rfl (.c rfl (.c rfl .n)) ce28 (zif (k1:=k1) (u1:=u1) (v1:=v1) (q1:=q1) (k2:=k2) (u2:=u2) (v2:=v2) (q2:=q2) (hl:=ass)) (.c (j:=0) rfl (.c (j:=1) rfl .n)) ?_
 rintro ⟨w33,w44⟩ -
 dsimp only [aq,nq,cq]
 refine zR rfl rfl (.c rfl .n) ce53 (zFe (k1:=true) (u1:=w33) (v1:=w44) (q1:=q1 - q2) (hl:=by first|rfl|assumption|omega|(rw [Big.zX];omega)|(decide +kernel))) (.c (j:=0) rfl .n)<|e_p (zh rfl)<|zk<|zg<|zO ?_
 exact zL Tryz.results38 () trivial (zB rfl) rfl (ho:=(.n:PickO _ _ _)) (.n:SelR _ _ _)
theorem zEc {u1:Wd} {v1:Wd} {q1:Rat} {u2:Wd} {v2:Wd} {q2:Rat} (hl:Big.hq q1+Big.hq q2+1≤1048576):Con Tryz.prog 27 [.agg #[u1.b,u1.l,v1.b,v1.l],.agg #[u2.b,u2.l,v2.b,v2.l]] [] [qF true u1 v1 q1,qF true u2 v2 q2] (Y:=Unit) (fun y=>True) (fun y=> .bool (decide (q1=q2))) (fun y=>[]) (fun y=>[]):=by
 refine zw Tryz.func27 rfl rfl rfl (fun c=> ?_)
 show RunC _ _ _ _ _ [(0,.agg #[u1.b,u1.l,v1.b,v1.l]),(1,.agg #[u2.b,u2.l,v2.b,v2.l])] [] [qF true u1 v1 q1,qF true u2 v2 q2]
 refine zj<|zc<|zH rfl rfl (zba rfl rfl) (fun b1=> ?_)
 refine zH rfl rfl (zba rfl rfl) (fun b2=> ?_)
 refine e_p (zh rfl)<|zk<|zg<|zDa (X:=Unit) (fun x=>True) (fun x=>[(4,.bool (decide (Big.sgq (q1 - q2)=0)))]) (fun x=>[boxA b2 44 (cw [u2,v2]),boxA b1 44 (cw [u1,v1])]) (fun x=>[qF true u1 v1 q1,qF true u2 v2 q2]) ?_ ?_
 ·
  refine zc<|e_ru (ze 1 ty44 rfl rfl (.t4 .nil))<|zR rfl rfl (.c rfl .n) ce31 (zLc (u1:=u1) (v1:=v1) (q1:=q1)) (.c (j:=0) rfl .n)<|e_mv rfl<|e_ru (ze 0 ty44 rfl rfl (.t4 .nil))<|zR rfl rfl (.c rfl .n) ce31 (zLc (u1:=u2) (v1:=v2) (q1:=q2)) (.c (j:=1) rfl .n)<|e_p (zI rfl rfl)<|e_mv rfl<|e_ru (ze 1 ty44 rfl rfl (.t4 .nil))<|e_ru (ze 0 ty44 rfl rfl (.t4 .nil))<|zR rfl rfl (.c rfl (.c rfl .n)) ce38 (zCd (k1:=true) (u1:=u1) (v1:=v1) (q1:=q1) (k2:=true) (u2:=u2) (v2:=v2) (q2:=q2) (hl:=ass)) (.c (j:=0) rfl (.c (j:=1) rfl .n))<|e_p (zIa rfl rfl)<|e_p (zI rfl rfl)<|e_p (zh rfl)<|zk ?_
  exact zha () (show True from by first|trivial|omega|simp_all) ((.c rfl .n):SubM _ _) (ho:=((.of [0,0] rfl):PickO _ _ _)) ((.of [0,1] rfl):SelR _ _ _)
 ·
  rintro ⟨⟩ -
  try dsimp only [cw]
  refine zO ?_
  exact zL Tryz.results27 () trivial (zB rfl) (congrArg Value.bool (decide_eq_decide.2 Big.sgq_sub_zero.symm)) (ho:=(.n:PickO _ _ _)) (.n:SelR _ _ _)
end Go.Proofs.YtjeahiahjgifgaaGreatDoor.Sp
namespace Go.Proofs.YtjeahiahjgifgaaGreatDoor.Sp
open Go
set_option linter.unusedVariables false
def Wd.zz (u v:Wd):Prop:=u.s=false∧v.s=false∧u.n=0∧v.n=0
instance (u v:Wd):Decidable (Wd.zz u v):=inferInstanceAs (Decidable (_∧_))
theorem Wd.zz_wz:Wd.zz wz wz:=⟨rfl,rfl,rfl,rfl⟩
def rQ:Rp Rat:=⟨4,Wd×Wd,fun _ w=>[w.1.b,w.1.l,w.2.b,w.2.l],fun g q w=>(qF true w.1 w.2 q).on g,fun _ _ _ _ h k=>(qF true _ _ _).mono _ _ h k,fun _ _=>rfl,fun _ _=>rfl⟩
theorem open_rQ {A:Fa} {q:Rat} {w1 w2:Wd} {R:List Fa}:∀g,Holds g (A :: okF rQ q (w1,w2) :: R)→Holds g (A :: qF true w1 w2 q :: R):=fun g ⟨h,a,r⟩=>⟨h,a,r⟩
def qo (y:Big.RQ):Option Rat:=if Big.qok y then some (Big.qv y) else none
section
variable {P : Program} {O : List As} {R : List Fa} {f : Nat} {u v : Wd}
end
end Go.Proofs.YtjeahiahjgifgaaGreatDoor.Sp
theorem Go.Proofs.YtjeahiahjgifgaaGreatDoor.Big.ext_getR {a b:List Rat} (hl:a.length=b.length) (h:∀j,j<a.length→a.getD j 0=b.getD j 0):a=b:=by
  refine List.ext_getElem hl fun i h1 h2=> ?_
  have:=h i h1
  rw [List.getD_eq_getElem?_getD,List.getD_eq_getElem?_getD,List.getElem?_eq_getElem h1,List.getElem?_eq_getElem h2] at this
  exact this
namespace Go.Proofs.YtjeahiahjgifgaaGreatDoor.Sp
open Go
set_option linter.unusedVariables false
set_option maxRecDepth 100000
set_option maxHeartbeats 8000000
theorem zFc {u1:Wd} {v1:Wd}:Con Tryz.prog 34 [.agg #[u1.b,u1.l,v1.b,v1.l]] [] [] (Y:=Unit) (fun y=>True) (fun y=> .bool (decide (Wd.zz u1 v1))) (fun y=>[]) (fun y=>[]):=by
 refine zw Tryz.func34 rfl rfl rfl (fun c=> ?_)
 show RunC _ _ _ _ _ [(0,.agg #[u1.b,u1.l,v1.b,v1.l])] [] []
 refine zj<|zc<|zH rfl rfl (zba rfl rfl) (fun b1=> ?_)
 refine e_p (zh rfl)<|zk<|zg<|zDa (X:=Unit) (fun x=>True) (fun x=>[(26,.bool (decide (u1.s=false∧v1.s=false∧u1.n=0∧v1.n=0))),(2,.bool (decide (((((!u1.s)=true)∧((!v1.s)=true))∧(((u1.n:Nat):Int)=0))∧(((v1.n:Nat):Int)=0))))]) (fun x=>[boxA b1 44 (cw [u1,v1])]) (fun x=>[]) ?_ ?_
 ·
  refine zc<|e_p (zf Tryz.underlying44 rfl sz42 rfl rfl)<|e_p (zf Tryz.underlying42 rfl sz4 rfl rfl)<|e_ru (zd 0 ty4 rfl rfl rfl)<|e_p (zec rfl)<|zJe rfl rfl (zma rfl) (fun h2=> ?_) (fun h2=> ?_)
  ·
   refine e_p (zf Tryz.underlying44 rfl sz42 rfl rfl)<|e_p (zf Tryz.underlying42 rfl sz4 rfl rfl)<|e_ru (zd 0 ty4 rfl rfl rfl)<|e_p (zec rfl)<|e_p (zI rfl rfl)<|zJe rfl rfl (zma rfl) (fun h3=> ?_) (fun h3=> ?_)
   ·
    refine e_p (zf Tryz.underlying44 rfl sz42 rfl rfl)<|e_p (zf Tryz.underlying42 rfl sz40 rfl rfl)<|e_ru (zd 0 ty40 rfl rfl rfl)<|e_p (zea Tryz.underlying40 rfl)<|e_p (zIa rfl rfl)<|e_p (zI rfl rfl)<|zia rfl rfl (zma rfl) (fun h4=> ?_) (fun h4=> ?_)
    ·
     refine e_p (zf Tryz.underlying44 rfl sz42 rfl rfl)<|e_p (zf Tryz.underlying42 rfl sz40 rfl rfl)<|e_ru (zd 0 ty40 rfl rfl rfl)<|e_p (zea Tryz.underlying40 rfl)<|e_p (zIa rfl rfl)<|e_p (zI rfl rfl)<|e_p (zh rfl)<|zk ?_
     exact zha () (show True from by first|trivial|omega|simp_all) ((.e rfl (congrArg Value.bool (by first|(simp_all;done)|(simp_all;omega)|omega)) (.e rfl (congrArg Value.bool (by first|(simp_all;done)|(simp_all;omega)|omega)) .n)):SubM _ _) (ho:=((.c (i:=0) rfl .n):PickO _ _ _)) (.n:SelR _ _ _)
    ·
     refine e_no<|e_no<|e_no<|e_no<|e_no<|e_p (zI rfl rfl)<|e_p (zh rfl)<|zk ?_
     exact zha () (show True from by first|trivial|omega|simp_all) ((.e rfl (congrArg Value.bool (by first|(simp_all;done)|(simp_all;omega)|omega)) (.e rfl (congrArg Value.bool (by first|(simp_all;done)|(simp_all;omega)|omega)) .n)):SubM _ _) (ho:=((.c (i:=0) rfl .n):PickO _ _ _)) (.n:SelR _ _ _)
   ·
    refine e_no<|e_no<|e_no<|e_no<|e_no<|e_p (zI rfl rfl)<|e_mv rfl<|e_no<|e_no<|e_no<|e_no<|e_no<|e_p (zI rfl rfl)<|e_p (zh rfl)<|zk ?_
    exact zha () (show True from by first|trivial|omega|simp_all) ((.e rfl (congrArg Value.bool (by first|(simp_all;done)|(simp_all;omega)|omega)) (.e rfl (congrArg Value.bool (by first|(simp_all;done)|(simp_all;omega)|omega)) .n)):SubM _ _) (ho:=((.c (i:=0) rfl .n):PickO _ _ _)) (.n:SelR _ _ _)
  ·
   refine e_no<|e_no<|e_no<|e_no<|e_p (zI rfl rfl)<|e_mv rfl<|e_no<|e_no<|e_no<|e_no<|e_no<|e_p (zI rfl rfl)<|e_mv rfl<|e_no<|e_no<|e_no<|e_no<|e_no<|e_p (zI rfl rfl)<|e_p (zh rfl)<|zk ?_
   exact zha () (show True from by first|trivial|omega|simp_all) ((.e rfl (congrArg Value.bool (by first|(simp_all;done)|(simp_all;omega)|omega)) (.e rfl (congrArg Value.bool (by first|(simp_all;done)|(simp_all;omega)|omega)) .n)):SubM _ _) (ho:=((.c (i:=0) rfl .n):PickO _ _ _)) (.n:SelR _ _ _)
 ·
  rintro ⟨⟩ -
  try dsimp only [cw]
  refine zO ?_
  exact zL Tryz.results34 () trivial (zB rfl) (congrArg Value.bool (decide_eq_decide.2 (by unfold Wd.zz;cases u1.s <;> cases v1.s <;> simp))) (ho:=(.n:PickO _ _ _)) (.n:SelR _ _ _)
end Go.Proofs.YtjeahiahjgifgaaGreatDoor.Sp
namespace Go.Proofs.YtjeahiahjgifgaaGreatDoor.Sp
open Go
set_option linter.unusedVariables false
set_option maxRecDepth 100000
set_option maxHeartbeats 8000000
theorem zWb {cm:Sh.C} {h:Int} (h64fo: -9223372036854775808≤cm.fo∧cm.fo≤9223372036854775807) (h64cx: -9223372036854775808≤cm.cx∧cm.cx≤9223372036854775807) (h64cy: -9223372036854775808≤cm.cy∧cm.cy≤9223372036854775807) (h64h: -9223372036854775808≤h∧h≤9223372036854775807):Con Tryz.prog 45 [.agg #[.int .i64 (cm.fo),.int .i64 (cm.cx),.int .i64 (cm.cy)],.int .i64 h] [] [] (Y:=Unit) (fun y=>True) (fun y=> .bool (decide (Sh.cam cm∧Sh.inb h))) (fun y=>[]) (fun y=>[]):=by
 refine zw Tryz.func45 rfl rfl rfl (fun c=> ?_)
 show RunC _ _ _ _ _ [(0,.agg #[.int .i64 (cm.fo),.int .i64 (cm.cx),.int .i64 (cm.cy)]),(1,.int .i64 h)] [] []
 refine zj<|zc<|zH rfl rfl (zba rfl rfl) (fun b1=> ?_)
 refine e_p (zh rfl)<|zk<|zg<|zDa (X:=Unit) (fun x=>True) (fun x=>[(4,.bool (decide (((1≤cm.fo)∧(cm.fo≤1048576))∧(Sh.wi 1048576 ([cm.cx,cm.cy,h])))))]) (fun x=>[boxA b1 37 [.int .i64 (cm.fo),.int .i64 (cm.cx),.int .i64 (cm.cy)]]) (fun x=>[]) ?_ ?_
 ·
  refine zc<|e_p (zf Tryz.underlying37 rfl sz3 rfl rfl)<|e_ru (zd 0 ty3 rfl rfl rfl)<|e_p (zsb rfl rfl)<|zia rfl rfl (zma rfl) (fun h2=> ?_) (fun h2=> ?_)
  ·
   refine e_p (zf Tryz.underlying37 rfl sz3 rfl rfl)<|e_ru (zd 0 ty3 rfl rfl rfl)<|e_p (zHc rfl rfl)<|e_p (zI rfl rfl)<|zia rfl rfl (zma rfl) (fun h3=> ?_) (fun h3=> ?_)
   ·
    refine e_p (zf Tryz.underlying37 rfl sz35 rfl rfl)<|e_p (zf Tryz.underlying35 rfl sz3 rfl rfl)<|e_ru (zd 0 ty3 rfl rfl rfl)<|e_p (zf Tryz.underlying37 rfl sz35 rfl rfl)<|e_p (zf Tryz.underlying35 rfl sz3 rfl rfl)<|e_ru (zd 0 ty3 rfl rfl rfl)<|e_mv rfl<|zLa rfl rfl (zS (enc:=fun z:Int=>[.int .i64 z]) (ok:=InK .i64) (h1:=fun _=>rfl) (h2:=fun _=>rfl) (k:=3) Tryz.underlying51 inf3 rfl dd dd dd (.c (x:=cm.cx) rfl rfl (fun _ _=>by exact zq.2 om) (.c (x:=cm.cy) rfl rfl (fun _ _=>by exact zq.2 om) (.c (x:=h) rfl rfl (fun _ _=>by exact zq.2 om) .n)))) (fun b4 _=> ?_)
    refine zqa 0 rfl .z<|zR rfl rfl (.c rfl (.c rfl .n)) ce42 (ztb (p:=some ⟨b4,0,none⟩) (n:=3) (cap:=3) (l:=[cm.cx,cm.cy,h]) (m:=1048576) (hn:=cbd) (hm:=cbd)) (.c (j:=0) rfl .n)<|e_p (zI rfl rfl)<|e_p (zh rfl)<|zk ?_
    exact zha () (show True from by first|trivial|omega|simp_all) ((.e rfl (congrArg Value.bool cbu) .n):SubM _ _) (ho:=((.c (i:=1) rfl .n):PickO _ _ _)) (.n:SelR _ _ _)
   ·
    refine e_no<|e_no<|e_no<|e_no<|e_no<|e_no<|e_no<|e_no<|e_no<|e_p (zI rfl rfl)<|e_p (zh rfl)<|zk ?_
    exact zha () (show True from by first|trivial|omega|simp_all) ((.e rfl (congrArg Value.bool cbu) .n):SubM _ _) (ho:=((.c (i:=0) rfl .n):PickO _ _ _)) (.n:SelR _ _ _)
  ·
   refine e_no<|e_no<|e_no<|e_p (zI rfl rfl)<|e_mv rfl<|e_no<|e_no<|e_no<|e_no<|e_no<|e_no<|e_no<|e_no<|e_no<|e_p (zI rfl rfl)<|e_p (zh rfl)<|zk ?_
   exact zha () (show True from by first|trivial|omega|simp_all) ((.e rfl (congrArg Value.bool cbu) .n):SubM _ _) (ho:=((.c (i:=0) rfl .n):PickO _ _ _)) (.n:SelR _ _ _)
 ·
  rintro ⟨⟩ -
  try dsimp only
  refine zO ?_
  exact zL Tryz.results45 () trivial (zB rfl) (congrArg Value.bool (decide_eq_decide.2 (by unfold Sh.cam Sh.inb;rw [Sh.wi_3];constructor <;> intro k <;> omega))) (ho:=(.n:PickO _ _ _)) (.n:SelR _ _ _)
theorem zjc {u:Int} {v:Int} (h64u: -9223372036854775808≤u∧u≤9223372036854775807) (h64v: -9223372036854775808≤v∧v≤9223372036854775807):Con Tryz.prog 46 [.agg #[.int .i64 u,.int .i64 v]] [] [] (Y:=Unit) (fun y=>True) (fun y=> .bool (decide (Sh.inb u∧Sh.inb v∧Sh.inr (Sh.ro v)))) (fun y=>[]) (fun y=>[]):=by
 refine zw Tryz.func46 rfl rfl rfl (fun c=> ?_)
 show RunC _ _ _ _ _ [(0,.agg #[.int .i64 u,.int .i64 v])] [] []
 refine zj<|zc<|zH rfl rfl (zba rfl rfl) (fun b1=> ?_)
 refine e_p (zh rfl)<|zk<|zg<|zDa (X:=Unit) (fun x=>True) (fun x=>[(2,.bool (decide ((Sh.wi 1048576 ([u,v]))∧(0≤(Sh.ro v)∧(Sh.ro v)<64))))]) (fun x=>[boxA b1 35 [.int .i64 u,.int .i64 v]]) (fun x=>[]) ?_ ?_
 ·
  refine zc<|e_p (zf Tryz.underlying35 rfl sz3 rfl rfl)<|e_ru (zd 0 ty3 rfl rfl rfl)<|e_p (zf Tryz.underlying35 rfl sz3 rfl rfl)<|e_ru (zd 0 ty3 rfl rfl rfl)<|zLa rfl rfl (zS (enc:=fun z:Int=>[.int .i64 z]) (ok:=InK .i64) (h1:=fun _=>rfl) (h2:=fun _=>rfl) (k:=2) Tryz.underlying51 inf3 rfl dd dd dd (.c (x:=u) rfl rfl (fun _ _=>by exact zq.2 om) (.c (x:=v) rfl rfl (fun _ _=>by exact zq.2 om) .n))) (fun b2 _=> ?_)
  refine zqa 0 rfl .z<|zR rfl rfl (.c rfl (.c rfl .n)) ce42 (ztb (p:=some ⟨b2,0,none⟩) (n:=2) (cap:=2) (l:=[u,v]) (m:=1048576) (hn:=cbd) (hm:=cbd)) (.c (j:=0) rfl .n)<|zia rfl rfl (zma rfl) (fun h3=> ?_) (fun h3=> ?_)
  ·
   refine e_ru (ze 1 ty35 rfl rfl (.t2 .nil))<|zR rfl rfl (.c rfl .n) ce74 (zPd (u:=u) (v:=v)) (.n)<|zR rfl rfl (.c rfl .n) ce44 (zYb (r:=(Sh.ro v))) (.n)<|e_p (zI rfl rfl)<|e_p (zh rfl)<|zk ?_
   exact zha () (show True from by first|trivial|omega|simp_all) ((.e rfl (congrArg Value.bool cbu) .n):SubM _ _) (ho:=((.c (i:=1) rfl .n):PickO _ _ _)) (.n:SelR _ _ _)
  ·
   refine e_no<|e_no<|e_no<|e_p (zI rfl rfl)<|e_p (zh rfl)<|zk ?_
   exact zha () (show True from by first|trivial|omega|simp_all) ((.e rfl (congrArg Value.bool cbu) .n):SubM _ _) (ho:=((.c (i:=1) rfl .n):PickO _ _ _)) (.n:SelR _ _ _)
 ·
  rintro ⟨⟩ -
  try dsimp only
  refine zO ?_
  exact zL Tryz.results46 () trivial (zB rfl) (congrArg Value.bool (decide_eq_decide.2 (by unfold Sh.inb Sh.inr;rw [Sh.wi_2];constructor <;> intro k <;> omega))) (ho:=(.n:PickO _ _ _)) (.n:SelR _ _ _)
end Go.Proofs.YtjeahiahjgifgaaGreatDoor.Sp
namespace Go.Proofs.YtjeahiahjgifgaaGreatDoor.Sp
open Go
set_option linter.unusedVariables false
set_option maxRecDepth 100000
set_option maxHeartbeats 8000000
theorem zsd {s:Sh.S} {cm:Sh.C} {u:Int} {v:Int} {h:Int} (hfi: -9223372036854775808≤s.fi∧s.fi≤9223372036854775807) (hst: -9223372036854775808≤s.st∧s.st≤9223372036854775807) (hta: -9223372036854775808≤s.ta∧s.ta≤9223372036854775807) (htb: -9223372036854775808≤s.tb∧s.tb≤9223372036854775807) (hxa: -9223372036854775808≤s.xa∧s.xa≤9223372036854775807) (hya: -9223372036854775808≤s.ya∧s.ya≤9223372036854775807) (hza: -9223372036854775808≤s.za∧s.za≤9223372036854775807) (hqa: -9223372036854775808≤s.qa∧s.qa≤9223372036854775807) (hqb: -9223372036854775808≤s.qb∧s.qb≤9223372036854775807) (hqc: -9223372036854775808≤s.qc∧s.qc≤9223372036854775807) (hqd: -9223372036854775808≤s.qd∧s.qd≤9223372036854775807) (hxb: -9223372036854775808≤s.xb∧s.xb≤9223372036854775807) (hyb: -9223372036854775808≤s.yb∧s.yb≤9223372036854775807) (hzb: -9223372036854775808≤s.zb∧s.zb≤9223372036854775807) (hra: -9223372036854775808≤s.ra∧s.ra≤9223372036854775807) (hrb: -9223372036854775808≤s.rb∧s.rb≤9223372036854775807) (hrc: -9223372036854775808≤s.rc∧s.rc≤9223372036854775807) (hrd: -9223372036854775808≤s.rd∧s.rd≤9223372036854775807) (h64fo: -9223372036854775808≤cm.fo∧cm.fo≤9223372036854775807) (h64cx: -9223372036854775808≤cm.cx∧cm.cx≤9223372036854775807) (h64cy: -9223372036854775808≤cm.cy∧cm.cy≤9223372036854775807) (h64u: -9223372036854775808≤u∧u≤9223372036854775807) (h64v: -9223372036854775808≤v∧v≤9223372036854775807) (h64h: -9223372036854775808≤h∧h≤9223372036854775807):Con Tryz.prog 24 [.agg #[.int .i64 (s.fi),.int .i64 (s.st),.int .i64 (s.ta),.int .i64 (s.xa),.int .i64 (s.ya),.int .i64 (s.za),.int .i64 (s.qa),.int .i64 (s.qb),.int .i64 (s.qc),.int .i64 (s.qd),.int .i64 (s.tb),.int .i64 (s.xb),.int .i64 (s.yb),.int .i64 (s.zb),.int .i64 (s.ra),.int .i64 (s.rb),.int .i64 (s.rc),.int .i64 (s.rd)],.agg #[.int .i64 (cm.fo),.int .i64 (cm.cx),.int .i64 (cm.cy)],.agg #[.int .i64 u,.int .i64 v],.int .i64 h] [] [sgF] (Y:=Wd×Wd×Wd×Wd) (fun y=>Sh.Gc s cm u v h≠0→y.1=wz∧y.2.1=wz∧y.2.2.1=wz∧y.2.2.2=wz) (fun y=> .tuple #[.agg #[y.1.b,y.1.l,y.2.1.b,y.2.1.l,y.2.2.1.b,y.2.2.1.l,y.2.2.2.b,y.2.2.2.l],.int .i64 (Sh.Gc s cm u v h)]) (fun y=>[]) (fun y=>[qF (decide (Sh.Gc s cm u v h=0)) y.1 y.2.1 (Sh.Gx s cm u v h),qF (decide (Sh.Gc s cm u v h=0)) y.2.2.1 y.2.2.2 (Sh.Gy s cm u v h)]):=by
 refine zw Tryz.func24 rfl rfl rfl (fun c=> ?_)
 show RunC _ _ _ _ _ [(0,.agg #[.int .i64 (s.fi),.int .i64 (s.st),.int .i64 (s.ta),.int .i64 (s.xa),.int .i64 (s.ya),.int .i64 (s.za),.int .i64 (s.qa),.int .i64 (s.qb),.int .i64 (s.qc),.int .i64 (s.qd),.int .i64 (s.tb),.int .i64 (s.xb),.int .i64 (s.yb),.int .i64 (s.zb),.int .i64 (s.ra),.int .i64 (s.rb),.int .i64 (s.rc),.int .i64 (s.rd)]),(1,.agg #[.int .i64 (cm.fo),.int .i64 (cm.cx),.int .i64 (cm.cy)]),(2,.agg #[.int .i64 u,.int .i64 v]),(3,.int .i64 h)] [] [sgF]
 refine zj<|zc<|zH rfl rfl (zba rfl rfl) (fun b1=> ?_)
 refine zH rfl rfl (zba rfl rfl) (fun b2=> ?_)
 refine zH rfl rfl (zba rfl rfl) (fun b3=> ?_)
 refine zH rfl rfl (zo zr46 rfl) (fun b4=> ?_)
 refine e_p (zh rfl)<|zk<|zg<|zj<|zj<|zc<|e_ru (ze 3 ty29 rfl rfl (.t8 (.t8 (.t2 .nil))))<|zR rfl rfl (.c rfl (.c rfl .n)) ce12 (zRb (s:=s) (n:=1) (hfi:=ass) (hst:=ass) (hta:=ass) (htb:=ass) (hxa:=ass) (hya:=ass) (hza:=ass) (hqa:=ass) (hqb:=ass) (hqc:=ass) (hqd:=ass) (hxb:=ass) (hyb:=ass) (hzb:=ass) (hra:=ass) (hrb:=ass) (hrc:=ass) (hrd:=ass)) (.n)<|e_p (zh rfl)<|zk<|zg<|zj<|zc<|e_mv rfl<|e_p (zhb rfl rfl)<|zk<|zg<|zP rfl (fun hc=> ?_) (fun hc=> ?_)
 ·
  refine zj<|zc<|e_p (zu zr46 rfl Tryz.underlying46 (.c sz44 (.c sz44 .n)) .n .n)<|e_mv rfl<|zl 0 rfl rfl rfl rfl rfl sz46 rfl (.t8 .nil) .z<|e_p (zh rfl)<|zk<|zg<|zO<|zt<|zVa (qF false wz wz 0) (fun g _=>qF_none g) ?_
  have hg9:Sh.Gc s cm u v h=Sh.chk s 1:=if_neg hc
  have hg8:¬Sh.Gc s cm u v h=0:=by rw [hg9];exact hc
  have hx9:Sh.Gx s cm u v h=0:=if_neg hg8
  have hy9:Sh.Gy s cm u v h=0:=if_neg hg8
  exact zCa Tryz.results24 (wz,wz,wz,wz) (fun _=>⟨rfl,rfl,rfl,rfl⟩) (zr 0 ty46 rfl rfl (.t8 .nil)) (zB rfl) (by rw [hg9];rfl) (ho:=(.n:PickO _ _ _)) ((.e (j:=0) rfl (by rw [hx9,decide_eq_false hg8]) (.e (j:=0) rfl (by rw [hy9,decide_eq_false hg8]) .n)):SelR _ _ _)
 ·
  have hc0:Sh.chk s 1=0:=Decidable.not_not.1 hc
  obtain ⟨hok,-,hlt,hnd⟩:=Sh.chk_ok hc0
  refine zx<|zg<|zj<|zDa (X:=Unit) (fun x=>True) (fun x=>[(25,.bool (decide ((¬(Sh.cam cm∧Sh.inb h))∨(¬(Sh.inb u∧Sh.inb v∧Sh.inr (Sh.ro v)))))),(9,.int .i64 0),(8,.pointer (some ⟨b4,0,none⟩)),(6,.pointer (some ⟨b3,0,none⟩)),(5,.pointer (some ⟨b2,0,none⟩)),(4,.pointer (some ⟨b1,0,none⟩)),(3,.int .i64 h)]) (fun x=>[boxA b4 46 (cw [wz,wz,wz,wz]),boxA b3 35 [.int .i64 u,.int .i64 v],boxA b2 37 [.int .i64 (cm.fo),.int .i64 (cm.cx),.int .i64 (cm.cy)],boxA b1 29 (cS s)]) (fun x=>[sgF]) ?_ ?_
  ·
   refine zc<|e_ru (ze 2 ty37 rfl rfl (.t2 (.take .nil)))<|e_mv rfl<|zR rfl rfl (.c rfl (.c rfl .n)) ce45 (zWb (cm:=cm) (h:=h) (h64fo:=ass) (h64cx:=ass) (h64cy:=ass) (h64h:=ass)) (.n)<|e_p (zHa rfl)<|zia rfl rfl (zma rfl) (fun h5=> ?_) (fun h5=> ?_)
   ·
    refine e_no<|e_no<|e_no<|e_p (zI rfl rfl)<|zk ?_
    exact zha () (show True from by first|trivial|omega|simp_all) ((.e rfl (congrArg Value.bool cbu) (.of rfl)):SubM _ _) (ho:=((.of [0,0,0,0] rfl):PickO _ _ _)) ((.c (j:=0) rfl .n):SelR _ _ _)
   ·
    refine e_ru (ze 1 ty35 rfl rfl (.t2 .nil))<|zR rfl rfl (.c rfl .n) ce46 (zjc (u:=u) (v:=v) (h64u:=ass) (h64v:=ass)) (.n)<|e_p (zHa rfl)<|e_p (zI rfl rfl)<|zk ?_
    exact zha () (show True from by first|trivial|omega|simp_all) ((.e rfl (congrArg Value.bool cbu) (.of rfl)):SubM _ _) (ho:=((.of [0,0,0,0] rfl):PickO _ _ _)) ((.c (j:=0) rfl .n):SelR _ _ _)
  ·
   rintro ⟨⟩ -
   try dsimp only [cw]
   refine zP rfl (fun hcp=> ?_) (fun hcp=> ?_)
   ·
    have hcp2:¬Sh.cp cm u v h:=fun k=>hcp.elim (fun e=>e ⟨k.1,k.2.2.2.1⟩) (fun e=>e ⟨k.2.1,k.2.2.1,k.2.2.2.2⟩)
    refine zj<|zc<|e_p (zu zr46 rfl Tryz.underlying46 (.c sz44 (.c sz44 .n)) .n .n)<|zl 0 rfl rfl rfl rfl rfl sz46 rfl (.t8 .nil) .z<|e_p (zh rfl)<|zk<|zg<|zO<|zt<|zVa (qF false wz wz 0) (fun g _=>qF_none g) ?_
    have hg9:Sh.Gc s cm u v h=2:=(if_pos hc0).trans (if_neg hcp2)
    have hg8:¬Sh.Gc s cm u v h=0:=by rw [hg9];decide
    have hx9:Sh.Gx s cm u v h=0:=if_neg hg8
    have hy9:Sh.Gy s cm u v h=0:=if_neg hg8
    exact zCa Tryz.results24 (wz,wz,wz,wz) (fun _=>⟨rfl,rfl,rfl,rfl⟩) (zr 0 ty46 rfl rfl (.t8 .nil)) (zB rfl) (by rw [hg9];rfl) (ho:=(.n:PickO _ _ _)) ((.e (j:=0) rfl (by rw [hx9,decide_eq_false hg8]) (.e (j:=0) rfl (by rw [hy9,decide_eq_false hg8]) .n)):SelR _ _ _)
   ·
    have hca:=Decidable.not_not.1 (fun e=>hcp (Or.inl e))
    have hcb:=Decidable.not_not.1 (fun e=>hcp (Or.inr e))
    have hcp2:Sh.cp cm u v h:=⟨hca.1,hcb.1,hcb.2.1,hca.2,hcb.2.2⟩
    refine zx<|zg<|zj<|zc<|e_ru (ze 3 ty29 rfl rfl (.t8 (.t8 (.t2 .nil))))<|e_ru (ze 2 ty37 rfl rfl (.t2 (.take .nil)))<|e_ru (ze 1 ty35 rfl rfl (.t2 .nil))<|e_mv rfl<|zE rfl rfl (.c rfl (.c rfl (.c rfl (.c rfl .n)))) ce47 (zld (s:=s) (cm:=cm) (u:=u) (v:=v) (h:=h) (hok:=cbd) (hlt:=cbd) (hc:=by exact hcp2.1) (hu:=by exact hcp2.2.1) (hv:=by exact hcp2.2.2.1) (hh:=by exact hcp2.2.2.2.1) (hr:=by exact hcp2.2.2.2.2)) (.c (j:=0) rfl .n) ?_
    rintro ⟨w16,w27,w38,w49⟩ hph
    dsimp only [aq,nq,cq]
    replace hph:Sh.gc s cm u v h≠0→w16=wz∧w27=wz∧w38=wz∧w49=wz:=hph
    refine e_p (zy rfl rfl)<|e_p (zy rfl rfl)<|zl 0 rfl rfl rfl rfl rfl sz46 rfl (.t8 .nil) .z<|e_p (zh rfl)<|zk<|zg<|zO ?_
    have hg9:Sh.Gc s cm u v h=Sh.gc s cm u v h:=(if_pos hc0).trans (if_pos hcp2)
    have hx9:Sh.Gx s cm u v h=Sh.gx s cm u v h:=by by_cases k:Sh.gc s cm u v h=0;rw [show Sh.Gx s cm u v h=Sh.gx s cm u v h from if_pos (hg9.trans k)];(rw [show Sh.Gx s cm u v h=0 from if_neg (fun e=>k (hg9.symm.trans e)),show Sh.gx s cm u v h=0 from if_neg k])
    have hy9:Sh.Gy s cm u v h=Sh.gy s cm u v h:=by by_cases k:Sh.gc s cm u v h=0;rw [show Sh.Gy s cm u v h=Sh.gy s cm u v h from if_pos (hg9.trans k)];(rw [show Sh.Gy s cm u v h=0 from if_neg (fun e=>k (hg9.symm.trans e)),show Sh.gy s cm u v h=0 from if_neg k])
    exact zCa Tryz.results24 (w16,w27,w38,w49) (fun k=>hph (by rw [← hg9];exact k)) (zr 0 ty46 rfl rfl (.t8 .nil)) (zB rfl) (by rw [hg9]) (ho:=(.n:PickO _ _ _)) ((.e (j:=0) rfl (by rw [hx9,hg9]) (.e (j:=1) rfl (by rw [hy9,hg9]) .n)):SelR _ _ _)
end Go.Proofs.YtjeahiahjgifgaaGreatDoor.Sp
namespace Go.Proofs.YtjeahiahjgifgaaGreatDoor.Sp
open Go
set_option linter.unusedVariables false
set_option maxRecDepth 100000
set_option maxHeartbeats 8000000
theorem zed {s:Sh.S} {cm:Sh.C} {u:Int} {v:Int} {r:Int} {h:Int} (hfi: -9223372036854775808≤s.fi∧s.fi≤9223372036854775807) (hst: -9223372036854775808≤s.st∧s.st≤9223372036854775807) (hta: -9223372036854775808≤s.ta∧s.ta≤9223372036854775807) (htb: -9223372036854775808≤s.tb∧s.tb≤9223372036854775807) (hxa: -9223372036854775808≤s.xa∧s.xa≤9223372036854775807) (hya: -9223372036854775808≤s.ya∧s.ya≤9223372036854775807) (hza: -9223372036854775808≤s.za∧s.za≤9223372036854775807) (hqa: -9223372036854775808≤s.qa∧s.qa≤9223372036854775807) (hqb: -9223372036854775808≤s.qb∧s.qb≤9223372036854775807) (hqc: -9223372036854775808≤s.qc∧s.qc≤9223372036854775807) (hqd: -9223372036854775808≤s.qd∧s.qd≤9223372036854775807) (hxb: -9223372036854775808≤s.xb∧s.xb≤9223372036854775807) (hyb: -9223372036854775808≤s.yb∧s.yb≤9223372036854775807) (hzb: -9223372036854775808≤s.zb∧s.zb≤9223372036854775807) (hra: -9223372036854775808≤s.ra∧s.ra≤9223372036854775807) (hrb: -9223372036854775808≤s.rb∧s.rb≤9223372036854775807) (hrc: -9223372036854775808≤s.rc∧s.rc≤9223372036854775807) (hrd: -9223372036854775808≤s.rd∧s.rd≤9223372036854775807) (h64fo: -9223372036854775808≤cm.fo∧cm.fo≤9223372036854775807) (h64cx: -9223372036854775808≤cm.cx∧cm.cx≤9223372036854775807) (h64cy: -9223372036854775808≤cm.cy∧cm.cy≤9223372036854775807) (h64u: -9223372036854775808≤u∧u≤9223372036854775807) (h64v: -9223372036854775808≤v∧v≤9223372036854775807) (h64r: -9223372036854775808≤r∧r≤9223372036854775807) (h64h: -9223372036854775808≤h∧h≤9223372036854775807):Con Tryz.prog 14 [.agg #[.int .i64 (s.fi),.int .i64 (s.st),.int .i64 (s.ta),.int .i64 (s.xa),.int .i64 (s.ya),.int .i64 (s.za),.int .i64 (s.qa),.int .i64 (s.qb),.int .i64 (s.qc),.int .i64 (s.qd),.int .i64 (s.tb),.int .i64 (s.xb),.int .i64 (s.yb),.int .i64 (s.zb),.int .i64 (s.ra),.int .i64 (s.rb),.int .i64 (s.rc),.int .i64 (s.rd)],.agg #[.int .i64 (cm.fo),.int .i64 (cm.cx),.int .i64 (cm.cy)],.agg #[.int .i64 u,.int .i64 v],.int .i64 r,.int .i64 h] [] [sgF] (Y:=Wd×Wd×Wd×Wd) (fun y=>Sh.Cc s cm u v r h≠0→y.1=wz∧y.2.1=wz∧y.2.2.1=wz∧y.2.2.2=wz) (fun y=> .tuple #[.agg #[y.1.b,y.1.l,y.2.1.b,y.2.1.l,y.2.2.1.b,y.2.2.1.l,y.2.2.2.b,y.2.2.2.l],.int .i64 (Sh.Cc s cm u v r h)]) (fun y=>[]) (fun y=>[qF (decide (Sh.Cc s cm u v r h=0)) y.1 y.2.1 (Sh.Cx s cm u v r h),qF (decide (Sh.Cc s cm u v r h=0)) y.2.2.1 y.2.2.2 (Sh.Cy s cm u v r h)]):=by
 refine zw Tryz.func14 rfl rfl rfl (fun c=> ?_)
 show RunC _ _ _ _ _ [(0,.agg #[.int .i64 (s.fi),.int .i64 (s.st),.int .i64 (s.ta),.int .i64 (s.xa),.int .i64 (s.ya),.int .i64 (s.za),.int .i64 (s.qa),.int .i64 (s.qb),.int .i64 (s.qc),.int .i64 (s.qd),.int .i64 (s.tb),.int .i64 (s.xb),.int .i64 (s.yb),.int .i64 (s.zb),.int .i64 (s.ra),.int .i64 (s.rb),.int .i64 (s.rc),.int .i64 (s.rd)]),(1,.agg #[.int .i64 (cm.fo),.int .i64 (cm.cx),.int .i64 (cm.cy)]),(2,.agg #[.int .i64 u,.int .i64 v]),(3,.int .i64 r),(4,.int .i64 h)] [] [sgF]
 refine zj<|zc<|zH rfl rfl (zba rfl rfl) (fun b1=> ?_)
 refine zH rfl rfl (zba rfl rfl) (fun b2=> ?_)
 refine zH rfl rfl (zba rfl rfl) (fun b3=> ?_)
 refine zH rfl rfl (zo zr46 rfl) (fun b4=> ?_)
 refine e_p (zh rfl)<|zk<|zg<|zj<|zj<|zc<|e_ru (ze 3 ty29 rfl rfl (.t8 (.t8 (.t2 .nil))))<|zR rfl rfl (.c rfl (.c rfl .n)) ce12 (zRb (s:=s) (n:=1) (hfi:=ass) (hst:=ass) (hta:=ass) (htb:=ass) (hxa:=ass) (hya:=ass) (hza:=ass) (hqa:=ass) (hqb:=ass) (hqc:=ass) (hqd:=ass) (hxb:=ass) (hyb:=ass) (hzb:=ass) (hra:=ass) (hrb:=ass) (hrc:=ass) (hrd:=ass)) (.n)<|e_p (zh rfl)<|zk<|zg<|zj<|zc<|e_mv rfl<|e_p (zhb rfl rfl)<|zk<|zg<|zP rfl (fun hc=> ?_) (fun hc=> ?_)
 ·
  refine zj<|zc<|e_p (zu zr46 rfl Tryz.underlying46 (.c sz44 (.c sz44 .n)) .n .n)<|e_mv rfl<|zl 0 rfl rfl rfl rfl rfl sz46 rfl (.t8 .nil) .z<|e_p (zh rfl)<|zk<|zg<|zO<|zt<|zVa (qF false wz wz 0) (fun g _=>qF_none g) ?_
  have hg9:Sh.Cc s cm u v r h=Sh.chk s 1:=if_neg hc
  have hg8:¬Sh.Cc s cm u v r h=0:=by rw [hg9];exact hc
  have hx9:Sh.Cx s cm u v r h=0:=if_neg hg8
  have hy9:Sh.Cy s cm u v r h=0:=if_neg hg8
  exact zCa Tryz.results14 (wz,wz,wz,wz) (fun _=>⟨rfl,rfl,rfl,rfl⟩) (zr 0 ty46 rfl rfl (.t8 .nil)) (zB rfl) (by rw [hg9];rfl) (ho:=(.n:PickO _ _ _)) ((.e (j:=0) rfl (by rw [hx9,decide_eq_false hg8]) (.e (j:=0) rfl (by rw [hy9,decide_eq_false hg8]) .n)):SelR _ _ _)
 ·
  have hc0:Sh.chk s 1=0:=Decidable.not_not.1 hc
  obtain ⟨hok,-,hlt,hnd⟩:=Sh.chk_ok hc0
  refine zx<|zg<|zj<|zDa (X:=Unit) (fun x=>True) (fun x=>[(34,.bool (decide (((¬(0≤r∧r<64))∨(¬(Sh.cam cm∧Sh.inb h)))∨(¬(Sh.inb u∧Sh.inb v∧Sh.inr (Sh.ro v)))))),(11,.int .i64 0),(10,.pointer (some ⟨b4,0,none⟩)),(7,.pointer (some ⟨b3,0,none⟩)),(6,.pointer (some ⟨b2,0,none⟩)),(5,.pointer (some ⟨b1,0,none⟩)),(3,.int .i64 r),(4,.int .i64 h)]) (fun x=>[boxA b4 46 (cw [wz,wz,wz,wz]),boxA b3 35 [.int .i64 u,.int .i64 v],boxA b2 37 [.int .i64 (cm.fo),.int .i64 (cm.cx),.int .i64 (cm.cy)],boxA b1 29 (cS s)]) (fun x=>[sgF]) ?_ ?_
  ·
   refine zc<|e_mv rfl<|zR rfl rfl (.c rfl .n) ce44 (zYb (r:=r)) (.n)<|e_p (zHa rfl)<|zia rfl rfl (zma rfl) (fun h5=> ?_) (fun h5=> ?_)
   ·
    refine e_no<|e_no<|e_no<|e_no<|e_p (zI rfl rfl)<|e_mv rfl<|e_no<|e_no<|e_no<|e_p (zI rfl rfl)<|zk ?_
    exact zha () (show True from by first|trivial|omega|simp_all) ((.e rfl (congrArg Value.bool cbu) (.of rfl)):SubM _ _) (ho:=((.of [0,0,0,0] rfl):PickO _ _ _)) ((.c (j:=0) rfl .n):SelR _ _ _)
   ·
    refine e_ru (ze 2 ty37 rfl rfl (.t2 (.take .nil)))<|e_mv rfl<|zR rfl rfl (.c rfl (.c rfl .n)) ce45 (zWb (cm:=cm) (h:=h) (h64fo:=ass) (h64cx:=ass) (h64cy:=ass) (h64h:=ass)) (.n)<|e_p (zHa rfl)<|e_p (zI rfl rfl)<|zia rfl rfl (zma rfl) (fun h6=> ?_) (fun h6=> ?_)
    ·
     refine e_no<|e_no<|e_no<|e_p (zI rfl rfl)<|zk ?_
     exact zha () (show True from by first|trivial|omega|simp_all) ((.e rfl (congrArg Value.bool cbu) (.of rfl)):SubM _ _) (ho:=((.of [0,0,0,0] rfl):PickO _ _ _)) ((.c (j:=0) rfl .n):SelR _ _ _)
    ·
     refine e_ru (ze 1 ty35 rfl rfl (.t2 .nil))<|zR rfl rfl (.c rfl .n) ce46 (zjc (u:=u) (v:=v) (h64u:=ass) (h64v:=ass)) (.n)<|e_p (zHa rfl)<|e_p (zI rfl rfl)<|zk ?_
     exact zha () (show True from by first|trivial|omega|simp_all) ((.e rfl (congrArg Value.bool cbu) (.of rfl)):SubM _ _) (ho:=((.of [0,0,0,0] rfl):PickO _ _ _)) ((.c (j:=0) rfl .n):SelR _ _ _)
  ·
   rintro ⟨⟩ -
   try dsimp only [cw]
   refine zP rfl (fun hcr=> ?_) (fun hcr=> ?_)
   ·
    have hcr2:¬(Sh.inr r∧Sh.cp cm u v h):=fun k=>hcr.elim (fun e=>e.elim (fun e=>e k.1) (fun e=>e ⟨k.2.1,k.2.2.2.2.1⟩)) (fun e=>e ⟨k.2.2.1,k.2.2.2.1,k.2.2.2.2.2⟩)
    refine zj<|zc<|e_p (zu zr46 rfl Tryz.underlying46 (.c sz44 (.c sz44 .n)) .n .n)<|zl 0 rfl rfl rfl rfl rfl sz46 rfl (.t8 .nil) .z<|e_p (zh rfl)<|zk<|zg<|zO<|zt<|zVa (qF false wz wz 0) (fun g _=>qF_none g) ?_
    have hg9:Sh.Cc s cm u v r h=2:=(if_pos hc0).trans (if_neg hcr2)
    have hg8:¬Sh.Cc s cm u v r h=0:=by rw [hg9];decide
    have hx9:Sh.Cx s cm u v r h=0:=if_neg hg8
    have hy9:Sh.Cy s cm u v r h=0:=if_neg hg8
    exact zCa Tryz.results14 (wz,wz,wz,wz) (fun _=>⟨rfl,rfl,rfl,rfl⟩) (zr 0 ty46 rfl rfl (.t8 .nil)) (zB rfl) (by rw [hg9];rfl) (ho:=(.n:PickO _ _ _)) ((.e (j:=0) rfl (by rw [hx9,decide_eq_false hg8]) (.e (j:=0) rfl (by rw [hy9,decide_eq_false hg8]) .n)):SelR _ _ _)
   ·
    have hir2:=Decidable.not_not.1 (fun e=>hcr (Or.inl (Or.inl e)))
    have hca:=Decidable.not_not.1 (fun e=>hcr (Or.inl (Or.inr e)))
    have hcb:=Decidable.not_not.1 (fun e=>hcr (Or.inr e))
    have hcp2:Sh.cp cm u v h:=⟨hca.1,hcb.1,hcb.2.1,hca.2,hcb.2.2⟩
    have hgq:=Sh.gx_hq hok hcp2.1 hcp2.2.1 hcp2.2.2.1 hcp2.2.2.2.2 hcp2.2.2.2.1
    refine zx<|zg<|zj<|zc<|e_ru (ze 3 ty29 rfl rfl (.t8 (.t8 (.t2 .nil))))<|e_ru (ze 2 ty37 rfl rfl (.t2 (.take .nil)))<|e_ru (ze 1 ty35 rfl rfl (.t2 .nil))<|e_mv rfl<|zE rfl rfl (.c rfl (.c rfl (.c rfl (.c rfl .n)))) ce47 (zld (s:=s) (cm:=cm) (u:=u) (v:=v) (h:=h) (hok:=cbd) (hlt:=cbd) (hc:=by exact hcp2.1) (hu:=by exact hcp2.2.1) (hv:=by exact hcp2.2.2.1) (hh:=by exact hcp2.2.2.2.1) (hr:=by exact hcp2.2.2.2.2)) (.c (j:=0) rfl .n) ?_
    rintro ⟨w17,w28,w39,w410⟩ hy11
    dsimp only [aq,nq,cq]
    replace hy11:Sh.gc s cm u v h≠0→w17=wz∧w28=wz∧w39=wz∧w410=wz:=hy11
    refine e_mv rfl<|e_p (zy rfl rfl)<|e_p (zy rfl rfl)<|zH rfl rfl (zo zr46 rfl) (fun b12=> ?_)
    refine zl 0 rfl rfl rfl rfl rfl sz46 rfl (.t8 .nil) .z<|e_p (zh rfl)<|zk<|zg<|zj<|zj<|zc<|e_mv rfl<|e_p (zhb rfl rfl)<|zk<|zg<|zP rfl (fun hgg=> ?_) (fun hgg=> ?_)
    ·
     refine zj<|zc<|e_p (zu zr46 rfl Tryz.underlying46 (.c sz44 (.c sz44 .n)) .n .n)<|e_mv rfl<|zl 1 rfl rfl rfl rfl rfl sz46 rfl (.t8 .nil) (.s .z)<|e_p (zh rfl)<|zk<|zg<|zO<|zt<|zVa (qF false wz wz 0) (fun g _=>qF_none g) ?_
     have hg9:Sh.Cc s cm u v r h=Sh.gc s cm u v h:=((if_pos hc0).trans (if_pos ⟨hir2,hcp2⟩)).trans (if_neg hgg)
     have hg8:¬Sh.Cc s cm u v r h=0:=by rw [hg9];exact hgg
     have hx9:Sh.Cx s cm u v r h=0:=if_neg hg8
     have hy9:Sh.Cy s cm u v r h=0:=if_neg hg8
     exact zCa Tryz.results14 (wz,wz,wz,wz) (fun _=>⟨rfl,rfl,rfl,rfl⟩) (zr 1 ty46 rfl rfl (.t8 .nil)) (zB rfl) (by rw [hg9];rfl) (ho:=(.n:PickO _ _ _)) ((.e (j:=0) rfl (by rw [hx9,decide_eq_false hg8]) (.e (j:=0) rfl (by rw [hy9,decide_eq_false hg8]) .n)):SelR _ _ _)
    ·
     have hgz:=Decidable.not_not.1 hgg
     refine zx<|zg<|zj<|zc<|e_ru (ze 4 ty29 rfl rfl (.t8 (.t8 (.t2 .nil))))<|e_ru (ze 3 ty37 rfl rfl (.t2 (.take .nil)))<|e_mv rfl<|e_ru (ze 0 ty46 rfl rfl (.t8 .nil))<|e_mv rfl<|zE rfl rfl (.c rfl (.c rfl (.c rfl (.c rfl (.c rfl .n))))) ce48 (zZe (s:=s) (cm:=cm) (r:=r) (k1:=(decide (Sh.gc s cm u v h=0))) (u1:=w17) (v1:=w28) (ax:=(Sh.gx s cm u v h)) (k2:=(decide (Sh.gc s cm u v h=0))) (u2:=w39) (v2:=w410) (ay:=(Sh.gy s cm u v h)) (h:=h) (hok:=cbd) (hlt:=cbd) (hc:=by exact hcp2.1) (hr:=by exact hir2) (hqx:=by exact hgq.1) (hqy:=by exact hgq.2) (hh:=by exact hcp2.2.2.2.1)) (.c (j:=2) rfl (.c (j:=0) rfl (.c (j:=1) rfl .n))) ?_
     rintro ⟨w113,w214,w315,w416⟩ hph
     dsimp only [aq,nq,cq]
     replace hph:Sh.ic s r (Sh.gx s cm u v h) (Sh.gy s cm u v h) h≠0→w113=wz∧w214=wz∧w315=wz∧w416=wz:=hph
     refine e_p (zy rfl rfl)<|e_p (zy rfl rfl)<|zl 1 rfl rfl rfl rfl rfl sz46 rfl (.t8 .nil) (.s .z)<|e_p (zh rfl)<|zk<|zg<|zO ?_
     have hg9:Sh.Cc s cm u v r h=Sh.ic s r (Sh.gx s cm u v h) (Sh.gy s cm u v h) h:=((if_pos hc0).trans (if_pos ⟨hir2,hcp2⟩)).trans (if_pos hgz)
     have hx9:Sh.Cx s cm u v r h=Sh.ix s cm r (Sh.gx s cm u v h) (Sh.gy s cm u v h) h:=by by_cases k:Sh.ic s r (Sh.gx s cm u v h) (Sh.gy s cm u v h) h=0;rw [show Sh.Cx s cm u v r h=Sh.ix s cm r (Sh.gx s cm u v h) (Sh.gy s cm u v h) h from if_pos (hg9.trans k)];(rw [show Sh.Cx s cm u v r h=0 from if_neg (fun e=>k (hg9.symm.trans e)),show Sh.ix s cm r (Sh.gx s cm u v h) (Sh.gy s cm u v h) h=0 from if_neg k])
     have hy9:Sh.Cy s cm u v r h=Sh.iy s cm r (Sh.gx s cm u v h) (Sh.gy s cm u v h) h:=by by_cases k:Sh.ic s r (Sh.gx s cm u v h) (Sh.gy s cm u v h) h=0;rw [show Sh.Cy s cm u v r h=Sh.iy s cm r (Sh.gx s cm u v h) (Sh.gy s cm u v h) h from if_pos (hg9.trans k)];(rw [show Sh.Cy s cm u v r h=0 from if_neg (fun e=>k (hg9.symm.trans e)),show Sh.iy s cm r (Sh.gx s cm u v h) (Sh.gy s cm u v h) h=0 from if_neg k])
     exact zCa Tryz.results14 (w113,w214,w315,w416) (fun k=>hph (by rw [← hg9];exact k)) (zr 1 ty46 rfl rfl (.t8 .nil)) (zB rfl) (by rw [hg9]) (ho:=(.n:PickO _ _ _)) ((.e (j:=0) rfl (by rw [hx9,hg9]) (.e (j:=1) rfl (by rw [hy9,hg9]) .n)):SelR _ _ _)
end Go.Proofs.YtjeahiahjgifgaaGreatDoor.Sp
namespace Go.Proofs.YtjeahiahjgifgaaGreatDoor.Sh
open Go.Proofs.YtjeahiahjgifgaaGreatDoor.Big
theorem k0:((0:Int):Rat)=0:=rfl
theorem k1:((1:Int):Rat)=1:=rfl
theorem k2:((2:Int):Rat)=2:=rfl
def mm (x y:Int):Rat:=((x:Int):Rat)*((y:Int):Rat)
def nn (q:Q4):Rat:=((((q.1:Int):Rat)*((q.1:Int):Rat)+((q.2.1:Int):Rat)*((q.2.1:Int):Rat))+((q.2.2.1:Int):Rat)*((q.2.2.1:Int):Rat))+((q.2.2.2:Int):Rat)*((q.2.2.2:Int):Rat)
theorem e4 (a b c d:Rat):s4 a b c d=a+b+c+d:=by unfold s4;rw [k0];grind
theorem e2 (a b:Rat):s2 a b=a+b:=by unfold s2;rw [k0];grind
end Go.Proofs.YtjeahiahjgifgaaGreatDoor.Sh
namespace Go.Proofs.YtjeahiahjgifgaaGreatDoor.Sh
open Go.Proofs.YtjeahiahjgifgaaGreatDoor.Big
def Pc (s:S) (r:Int):Int:=if chk s 1=0 then (if inr r then (if z4 (rot s r) then 13 else 0) else 2) else chk s 1
def Pq (s:S) (r:Int):Q4:=if Pc s r=0 then rot s r else (0,0,0,0)
def Pp (s:S) (r:Int):R3:=if Pc s r=0 then pos s r else (0,0,0)
def seen (s:S) (c:C) (x y:Rat) (h r:Int):Prop:=(ic s r x y h=0∧0≤sgq (iy s c r x y h - ((64*r:Int):Rat)))∧sgq (iy s c r x y h - ((64*r+64:Int):Rat))<0
instance (s:S) (c:C) (x y:Rat) (h r:Int):Decidable (seen s c x y h r):=by unfold seen;infer_instance
def rc (c:C) (h:Int):Prop:=cam c∧inb h
instance (c:C) (h:Int):Decidable (rc c h):=by unfold rc;infer_instance
theorem gl_take {l:List Int} {i:Nat} (h:i<l.length):gl (l.take (i+1))=Nat.gcd (gl (l.take i)) (l.getD i 0).natAbs:=by
  unfold gl
  rw [List.take_add_one,List.getElem?_eq_getElem h,Option.toList_some,List.foldl_append,List.getD_eq_getElem?_getD,List.getElem?_eq_getElem h];rfl
def lcam (c:C) (lr ll:List Int):Prop:=(∀r∈lr,0≤r∧r<64)∧cam c∧wi 1048576 ll
instance (c:C) (lr ll:List Int):Decidable (lcam c lr ll):=by unfold lcam;infer_instance
def exS:S:=⟨0,10,0,0,0,1000,0,1,0,0,100,100,0,1000,0,1,0,0⟩
def exC:C:=⟨640,0,0⟩
theorem ex_chk:chk exS 64=0:=by decide +kernel
theorem ex_gc:Gc exS exC 64 128 0=0:=by decide +kernel
theorem ex_gx:Gx exS exC 64 128 0=((120:Int):Rat):=by decide +kernel
theorem ex_gy:Gy exS exC 64 128 0=((-200:Int):Rat):=by decide +kernel
theorem ex_cc:Cc exS exC 64 128 0 0=0:=by decide +kernel
theorem ex_cx:Cx exS exC 64 128 0 0=Rat.divInt 384 5:=by decide +kernel
theorem ex_cy:Cy exS exC 64 128 0 0=((128:Int):Rat):=by decide +kernel
end Go.Proofs.YtjeahiahjgifgaaGreatDoor.Sh
namespace Go.Proofs.YtjeahiahjgifgaaGreatDoor.Sp
open Go
set_option linter.unusedVariables false
set_option maxRecDepth 100000
set_option maxHeartbeats 8000000
theorem zWf {p:Option Addr} {n:Nat} {cap:Nat} {l:List Int} (hn:l.length=n) (hl:∀i,i<n→ -4611686018427387904≤l.getD i 0∧l.getD i 0≤4611686018427387904):Con Tryz.prog 69 [.slice p n cap] [] [slF (rI .i64) p cap l] (Y:=Unit) (fun y=>True) (fun y=> .int .i64 (((Sh.gl l):Nat):Int)) (fun y=>[]) (fun y=>[]):=by
 refine zw Tryz.func69 rfl rfl rfl (fun c=> ?_)
 show RunC _ _ _ _ _ [(0,.slice p n cap)] [] [slF (rI .i64) p cap l]
 refine zta 0 rfl (fun hL0=> ?_)
 refine zj<|zc<|e_p (zh rfl)<|zk<|zg<|zj<|zc<|e_p (zh rfl)<|zk<|zg<|zj<|zj<|zc<|e_mv rfl<|e_p (zea Tryz.underlying51 rfl)<|e_mv rfl<|zk<|zg<|zv<|zya (X:=Nat×Nat) (fun x:Nat×Nat=>x.1≤n∧x.2=Sh.gl (l.take x.1)) (fun x=>[(3,.int .i64 ((x.2:Nat):Int)),(8,.int .i64 ((x.1:Nat):Int)),(7,.int .i64 ((n:Nat):Int)),(6,.slice p n cap),(2,.int .i64 0)]) (fun x=>[]) (fun x=>[slF (rI .i64) p cap l]) (fun x:Nat×Nat=>n - x.1) (0,0) (show 0≤n∧0=Sh.gl (l.take 0) from by exact ⟨Nat.zero_le _,rfl⟩) ((.e rfl (by first|rfl|(congr 1;omega)|simp_all) (.e rfl (by first|rfl|(congr 1;omega)|simp_all) (.of rfl))):SubM _ _) (ho:=(.n:PickO _ _ _)) ((.c (j:=0) rfl .n):SelR _ _ _) ?_
 rintro ⟨i,g⟩ hI
 replace hI:i≤n∧g=Sh.gl (l.take i):=hI
 try dsimp only
 obtain ⟨hi,hgl⟩:=hI
 refine zj<|zc<|e_p (zV rfl rfl)<|zk<|zg<|zj<|zP rfl (fun h1=> ?_) (fun h1=> ?_)
 ·
  have hli:=hl i om
  refine zx<|zg<|zj<|zv<|zj<|zc<|zU (x0:=(l.getD i 0)) 0 i rfl Tryz.underlying51 sz3 rfl rfl rfl cbs rfl rfl (gD (d:=0) om) (fun b2 o3 hok4=> ?_)
  replace hok4:=zq.1 hok4
  refine e_ru (zA (j:=0) 0 ty3 rfl rfl rfl rfl)<|e_p (zh rfl)<|zk<|zg<|zj<|zc<|e_mv rfl<|e_mv rfl<|e_p (zdc (z:=(-(l.getD i 0))) rfl (w64 om))<|e_p (zhd rfl rfl)<|e_p (zh rfl)<|zk<|zg<|zv ?_
  have e5:((max (l.getD i 0) (-(l.getD i 0))):Int)=(((l.getD i 0).natAbs:Nat):Int):=by omega
  rw [e5]
  obtain ⟨gg,hgg⟩:∃z:Nat,z=Nat.gcd g (l.getD i 0).natAbs:=⟨_,rfl⟩
  refine zya (X:=Nat×Nat) (fun x:Nat×Nat=>Nat.gcd x.1 x.2=gg) (fun x=>[(5,.int .i64 ((x.2:Nat):Int)),(3,.int .i64 ((x.1:Nat):Int)),(8,.int .i64 ((i:Nat):Int)),(7,.int .i64 ((n:Nat):Int)),(6,.slice p n cap),(2,.int .i64 0)]) (fun x=>[]) (fun x=>[atF b2 o3 [.int .i64 (l.getD i 0)],slF (rI .i64) p cap l]) (fun x:Nat×Nat=>x.2) (g,(l.getD i 0).natAbs) (show Nat.gcd g ((l.getD i 0).natAbs)=gg from by exact hgg.symm) ((.of rfl):SubM _ _) (ho:=(.n:PickO _ _ _)) ((.of [0,1] rfl):SelR _ _ _) ?_
  rintro ⟨x,y⟩ hG
  replace hG:Nat.gcd x y=gg:=hG
  try dsimp only
  refine zj<|zj<|zc<|e_mv rfl<|e_p (zhb rfl rfl)<|zk<|zg<|zP rfl (fun hy0=> ?_) (fun hy0=> ?_)
  ·
   refine zx<|zg<|zv<|zT (OW:=[]) (O:=[]) 100000 mixed (.block (.then (.block (.block (.then (.then (.block (.then .ret)))))))) kr<|e_dm 0 rfl rfl rfl<|e_dm 1 rfl rfl rfl<|e_dm 2 rfl rfl rfl<|e_pv 3 rfl rfl (zgb (z:=(((x%y):Nat):Int)) rfl rfl om (remN om om))<|e_pv 4 rfl rfl (zh rfl)<|e_pv 5 rfl rfl (zh rfl)<|zQ kr<|zK<|zxa (y,(x%y)) (show Nat.gcd y (x%y)=gg from by exact Sh.gcd_step hG) (by show x%y<y;exact Nat.mod_lt _ om) ((.of rfl):SubM _ _) (ho:=(.n:PickO _ _ _)) ((.of [0,1] rfl):SelR _ _ _)
  ·
   refine zpa<|zn<|zn<|zD<|zK<|zg<|zc<|e_p (zJ (z:=(((i+1):Nat):Int)) rfl rfl (w64 om))<|e_mv rfl<|zk<|zxa ((i+1),x) (show (i+1)≤n∧x=Sh.gl (l.take (i+1)) from by exact ⟨by omega,by rw [Sh.gl_take om,←hgl,←hgg,←hG,show y=0 by omega,Nat.gcd_zero_right]⟩) (by show n - (i+1)<n - i;omega) ((.of rfl):SubM _ _) (ho:=(.n:PickO _ _ _)) ((.c (j:=1) rfl .n):SelR _ _ _)
 ·
  refine zpa<|zn<|zn<|zD<|zg<|zj<|zc<|e_mv rfl<|e_p (zh rfl)<|zk<|zg<|zO ?_
  exact zL Tryz.results69 () trivial (zB rfl) (by rw [hgl,List.take_of_length_le om]) (ho:=(.n:PickO _ _ _)) (.n:SelR _ _ _)
theorem zDd {s:Sh.S} {r:Int} (hok:Sh.Ok s) (hr:0≤r∧r≤64):Con Tryz.prog 33 [.agg #[.int .i64 (s.fi),.int .i64 (s.st),.int .i64 (s.ta),.int .i64 (s.xa),.int .i64 (s.ya),.int .i64 (s.za),.int .i64 (s.qa),.int .i64 (s.qb),.int .i64 (s.qc),.int .i64 (s.qd),.int .i64 (s.tb),.int .i64 (s.xb),.int .i64 (s.yb),.int .i64 (s.zb),.int .i64 (s.ra),.int .i64 (s.rb),.int .i64 (s.rc),.int .i64 (s.rd)],.int .i64 r] [] [] (Y:=Unit) (fun y=>True) (fun y=> .agg #[.int .i64 ((Sh.rot s r).1),.int .i64 ((Sh.rot s r).2.1),.int .i64 ((Sh.rot s r).2.2.1),.int .i64 ((Sh.rot s r).2.2.2)]) (fun y=>[]) (fun y=>[]):=by
 refine zw Tryz.func33 rfl rfl rfl (fun c=> ?_)
 show RunC _ _ _ _ _ [(0,.agg #[.int .i64 (s.fi),.int .i64 (s.st),.int .i64 (s.ta),.int .i64 (s.xa),.int .i64 (s.ya),.int .i64 (s.za),.int .i64 (s.qa),.int .i64 (s.qb),.int .i64 (s.qc),.int .i64 (s.qd),.int .i64 (s.tb),.int .i64 (s.xb),.int .i64 (s.yb),.int .i64 (s.zb),.int .i64 (s.ra),.int .i64 (s.rb),.int .i64 (s.rc),.int .i64 (s.rd)]),(1,.int .i64 r)] [] []
 have hn:=hok.n
 have hpa:=hok.pa
 have hpb:=hok.pb
 have hqa:=hok.qa
 have hqb:=hok.qb
 have htm:=Sh.tm_b hok hr
 have hrs: -(64*1073741824)≤r*s.st∧r*s.st≤64*1073741824:=by have h8:=htm;unfold Sh.tm at h8;have h9:=Sh.mul_b (x:=r) (y:=s.st) (m:=64) (n:=1073741824) om om;omega
 have hm0:=Sh.mix_b hok hr hok.qa.1 hok.qb.1
 have hm1:=Sh.mix_b hok hr hok.qa.2.1 hok.qb.2.1
 have hm2:=Sh.mix_b hok hr hok.qa.2.2.1 hok.qb.2.2.1
 have hm3:=Sh.mix_b hok hr hok.qa.2.2.2 hok.qb.2.2.2
 have hrw:=Sh.raw_b hok hr
 refine zj<|zc<|zH rfl rfl (zba rfl rfl) (fun b1=> ?_)
 refine zH rfl rfl (zo zr25 rfl) (fun b2=> ?_)
 refine zk<|zg<|zj<|zc<|e_p (zf Tryz.underlying29 rfl sz3 rfl rfl)<|e_ru (zd 1 ty3 rfl rfl rfl)<|e_mv rfl<|e_p (zf Tryz.underlying29 rfl sz3 rfl rfl)<|e_ru (zd 1 ty3 rfl rfl rfl)<|e_p (zGa (z:=(r*s.st)) rfl rfl (w64 om))<|e_p (zJ (z:=(s.fi+(r*s.st))) rfl rfl (w64 om))<|e_p (zh rfl)<|zk<|zg<|zj ?_
 have e3:s.fi+(r*s.st)=Sh.tm s r:=by rfl
 rw [e3]
 refine zT (OW:=[]) (O:=[boxA b2 25 [.int .i64 0,.int .i64 0,.int .i64 0,.int .i64 0],boxA b1 29 (cS s)]) 100000 mixed (.then .ret) kr<|e_pv 0 rfl rfl (zf Tryz.underlying29 rfl sz27 rfl rfl)<|e_pv 1 rfl rfl (zf Tryz.underlying27 rfl sz3 rfl rfl)<|e_u 2 rfl rfl (zd 1 ty3 rfl rfl rfl)<|e_dm 3 rfl rfl rfl<|e_pv 4 rfl rfl (zka (z:=(s.tb - (Sh.tm s r))) rfl rfl (w64 om))<|e_dm 5 rfl rfl rfl<|e_pv 6 rfl rfl (zf Tryz.underlying29 rfl sz27 rfl rfl)<|e_pv 7 rfl rfl (zf Tryz.underlying27 rfl sz3 rfl rfl)<|e_u 8 rfl rfl (zd 1 ty3 rfl rfl rfl)<|e_pv 9 rfl rfl (zka (z:=((Sh.tm s r) - s.ta)) rfl rfl (w64 om))<|e_pv 10 rfl rfl (zh rfl)<|e_pv 11 rfl rfl (zh rfl)<|zQ kr<|zg<|zj<|zT (OW:=[]) (O:=[boxA b2 25 [.int .i64 0,.int .i64 0,.int .i64 0,.int .i64 0],boxA b1 29 (cS s)]) 8 mixed (.then .ret) kr<|e_pv 0 rfl rfl (zf Tryz.underlying29 rfl sz27 rfl rfl)<|e_pv 1 rfl rfl (zf Tryz.underlying27 rfl sz25 rfl rfl)<|e_u 2 rfl rfl (ze 1 ty25 rfl rfl (.s4 (.s2 (.t4 .nil))))<|e_pv 3 rfl rfl (zf Tryz.underlying29 rfl sz27 rfl rfl)<|e_pv 4 rfl rfl (zf Tryz.underlying27 rfl sz25 rfl rfl)<|e_u 5 rfl rfl (ze 1 ty25 rfl rfl (.s8 (.s4 (.s2 (.t4 .nil)))))<|zgc (m':=[(34,.agg #[.int .i64 (s.ra),.int .i64 (s.rb),.int .i64 (s.rc),.int .i64 (s.rd)]),(31,.agg #[.int .i64 (s.qa),.int .i64 (s.qb),.int .i64 (s.qc),.int .i64 (s.qd)]),(7,.int .i64 ((Sh.tm s r) - s.ta)),(6,.int .i64 (s.tb - (Sh.tm s r))),(4,.pointer (some ⟨b2,0,none⟩))]) (R':=[]) ((.of rfl):SubM _ _) (List.Perm.refl _) (List.Perm.refl _) (.n:SelR _ _ _)<|zga (X:=Nat×Nat) (k':=0) (L':=(lb 10 1023)) (fun (u6_1,u7_1)=>([(9,.pointer (some ⟨u7_1,0,none⟩)),(8,.pointer (some ⟨u6_1,0,none⟩)),(7,.int .i64 ((Sh.tm s r) - s.ta)),(6,.int .i64 (s.tb - (Sh.tm s r))),(4,.pointer (some ⟨b2,0,none⟩))],[boxA u7_1 25 [.int .i64 (s.ra),.int .i64 (s.rb),.int .i64 (s.rc),.int .i64 (s.rd)],boxA u6_1 25 [.int .i64 (s.qa),.int .i64 (s.qb),.int .i64 (s.qc),.int .i64 (s.qd)]],[boxA b2 25 [.int .i64 0,.int .i64 0,.int .i64 0,.int .i64 0],boxA b1 29 (cS s)],[])) ?_ (fun hD0=> ?_)
 ·
  rintro ⟨u6_1,u7_1⟩
  dsimp only [cw,cS]
  refine zQ kr<|zg<|zj<|zc<|e_mv rfl<|e_p (zf Tryz.underlying25 rfl sz3 rfl rfl)<|e_ru (zd 1 ty3 rfl rfl rfl)<|e_p (zGa (z:=((s.tb - (Sh.tm s r))*s.qa)) rfl rfl (w64 om))<|e_mv rfl<|e_p (zf Tryz.underlying25 rfl sz3 rfl rfl)<|e_ru (zd 0 ty3 rfl rfl rfl)<|e_p (zGa (z:=(((Sh.tm s r) - s.ta)*s.ra)) rfl rfl (w64 om))<|e_p (zJ (z:=(((s.tb - (Sh.tm s r))*s.qa)+(((Sh.tm s r) - s.ta)*s.ra))) rfl rfl (w64 om))<|e_mv rfl<|e_p (zf Tryz.underlying25 rfl sz3 rfl rfl)<|e_ru (zd 1 ty3 rfl rfl rfl)<|e_p (zGa (z:=((s.tb - (Sh.tm s r))*s.qb)) rfl rfl (w64 om))<|e_mv rfl<|e_p (zf Tryz.underlying25 rfl sz3 rfl rfl)<|e_ru (zd 0 ty3 rfl rfl rfl)<|e_p (zGa (z:=(((Sh.tm s r) - s.ta)*s.rb)) rfl rfl (w64 om))<|e_p (zJ (z:=(((s.tb - (Sh.tm s r))*s.qb)+(((Sh.tm s r) - s.ta)*s.rb))) rfl rfl (w64 om))<|e_mv rfl<|e_p (zf Tryz.underlying25 rfl sz3 rfl rfl)<|e_ru (zd 1 ty3 rfl rfl rfl)<|e_p (zGa (z:=((s.tb - (Sh.tm s r))*s.qc)) rfl rfl (w64 om))<|e_mv rfl<|e_p (zf Tryz.underlying25 rfl sz3 rfl rfl)<|e_ru (zd 0 ty3 rfl rfl rfl)<|e_p (zGa (z:=(((Sh.tm s r) - s.ta)*s.rc)) rfl rfl (w64 om))<|e_p (zJ (z:=(((s.tb - (Sh.tm s r))*s.qc)+(((Sh.tm s r) - s.ta)*s.rc))) rfl rfl (w64 om))<|e_mv rfl<|e_p (zf Tryz.underlying25 rfl sz3 rfl rfl)<|e_ru (zd 1 ty3 rfl rfl rfl)<|e_p (zGa (z:=((s.tb - (Sh.tm s r))*s.qd)) rfl rfl (w64 om))<|e_mv rfl<|e_p (zf Tryz.underlying25 rfl sz3 rfl rfl)<|e_ru (zd 0 ty3 rfl rfl rfl)<|e_p (zGa (z:=(((Sh.tm s r) - s.ta)*s.rd)) rfl rfl (w64 om))<|e_p (zJ (z:=(((s.tb - (Sh.tm s r))*s.qd)+(((Sh.tm s r) - s.ta)*s.rd))) rfl rfl (w64 om))<|e_p (zu zr25 rfl Tryz.underlying25 (.c sz3 (.c sz3 (.c sz3 (.c sz3 .n)))) (.c rfl (.c rfl (.c rfl (.c rfl .n)))) (.c rfl rfl rfl (.take .nil) (.c rfl rfl rfl (.skip (.take .nil)) (.c rfl rfl rfl (.s2 (.take .nil)) (.c rfl rfl rfl (.s2 (.skip (.take .nil))) .n)))))<|zH rfl rfl (zo zr25 rfl) (fun b4=> ?_)
  refine zl 0 rfl rfl rfl rfl rfl sz25 rfl (.t4 .nil) .z<|zk<|zg<|zj<|zj ?_
  have e5:((s.tb - (Sh.tm s r))*s.qa)+(((Sh.tm s r) - s.ta)*s.ra)=(Sh.raw s r).1:=by rfl
  rw [e5]
  have e6:((s.tb - (Sh.tm s r))*s.qb)+(((Sh.tm s r) - s.ta)*s.rb)=(Sh.raw s r).2.1:=by rfl
  rw [e6]
  have e7:((s.tb - (Sh.tm s r))*s.qc)+(((Sh.tm s r) - s.ta)*s.rc)=(Sh.raw s r).2.2.1:=by rfl
  rw [e7]
  have e8:((s.tb - (Sh.tm s r))*s.qd)+(((Sh.tm s r) - s.ta)*s.rd)=(Sh.raw s r).2.2.2:=by rfl
  rw [e8]
  refine zc<|e_p (zf Tryz.underlying25 rfl sz3 rfl rfl)<|e_ru (zd 0 ty3 rfl rfl rfl)<|e_p (zf Tryz.underlying25 rfl sz3 rfl rfl)<|e_ru (zd 0 ty3 rfl rfl rfl)<|e_p (zf Tryz.underlying25 rfl sz3 rfl rfl)<|e_ru (zd 0 ty3 rfl rfl rfl)<|e_p (zf Tryz.underlying25 rfl sz3 rfl rfl)<|e_ru (zd 0 ty3 rfl rfl rfl)<|zLa rfl rfl (zS (enc:=fun z:Int=>[.int .i64 z]) (ok:=InK .i64) (h1:=fun _=>rfl) (h2:=fun _=>rfl) (k:=4) Tryz.underlying51 inf3 rfl dd dd dd (.c (x:=((Sh.raw s r).1)) rfl rfl (fun _ _=>by exact zq.2 om) (.c (x:=((Sh.raw s r).2.1)) rfl rfl (fun _ _=>by exact zq.2 om) (.c (x:=((Sh.raw s r).2.2.1)) rfl rfl (fun _ _=>by exact zq.2 om) (.c (x:=((Sh.raw s r).2.2.2)) rfl rfl (fun _ _=>by exact zq.2 om) .n))))) (fun b9 _=> ?_)
  refine zqa 0 rfl .z<|zR rfl rfl (.c rfl .n) ce69 (zWf (p:=some ⟨b9,0,none⟩) (n:=4) (cap:=4) (l:=[((Sh.raw s r).1),((Sh.raw s r).2.1),((Sh.raw s r).2.2.1),((Sh.raw s r).2.2.2)]) (hn:=by rfl) (hl:=by intro i hi;match i,hi with|0,_=>exact ⟨by show _≤(Sh.raw s r).1;omega,by show (Sh.raw s r).1≤_;omega⟩|1,_=>exact ⟨by show _≤(Sh.raw s r).2.1;omega,by show (Sh.raw s r).2.1≤_;omega⟩|2,_=>exact ⟨by show _≤(Sh.raw s r).2.2.1;omega,by show (Sh.raw s r).2.2.1≤_;omega⟩|3,_=>exact ⟨by show _≤(Sh.raw s r).2.2.2;omega,by show (Sh.raw s r).2.2.2≤_;omega⟩)) (.c (j:=0) rfl .n)<|e_p (zh rfl)<|zk<|zg<|zj ?_
  have e10:((((Sh.gl ([((Sh.raw s r).1),((Sh.raw s r).2.1),((Sh.raw s r).2.2.1),((Sh.raw s r).2.2.2)])):Nat):Int):Int)=(((Sh.g4 (Sh.raw s r)):Nat):Int):=by rfl
  rw [e10]
  refine zc<|e_mv rfl<|e_p (zYa rfl rfl)<|zk<|zg<|zP rfl (fun hg0=> ?_) (fun hg0=> ?_)
  ·
   have hg9:Sh.g4 (Sh.raw s r)≠0:=by omega
   have hd0:=Sh.tdiv_b (g:=Sh.g4 (Sh.raw s r)) hrw.1
   have hd1:=Sh.tdiv_b (g:=Sh.g4 (Sh.raw s r)) hrw.2.1
   have hd2:=Sh.tdiv_b (g:=Sh.g4 (Sh.raw s r)) hrw.2.2.1
   have hd3:=Sh.tdiv_b (g:=Sh.g4 (Sh.raw s r)) hrw.2.2.2
   refine zca (.c (i:=1) rfl (.c (i:=0) rfl (.c (i:=0) rfl (.c (i:=0) rfl (.c (i:=0) rfl (.c (i:=0) rfl .n))))))<|zT (OW:=[boxA b4 25 [.int .i64 ((Sh.raw s r).1),.int .i64 ((Sh.raw s r).2.1),.int .i64 ((Sh.raw s r).2.2.1),.int .i64 ((Sh.raw s r).2.2.2)]]) (O:=[emA,boxA u7_1 25 [.int .i64 (s.ra),.int .i64 (s.rb),.int .i64 (s.rc),.int .i64 (s.rd)],boxA u6_1 25 [.int .i64 (s.qa),.int .i64 (s.qb),.int .i64 (s.qc),.int .i64 (s.qd)],boxA b2 25 [.int .i64 0,.int .i64 0,.int .i64 0,.int .i64 0],boxA b1 29 (cS s)]) 17 mixed (.then .ret) kr<|e_pv 0 rfl rfl (zf Tryz.underlying25 rfl sz3 rfl rfl)<|e_uw 1 rfl rfl (zd 0 ty3 rfl rfl rfl)<|e_dm 2 rfl rfl rfl<|e_pv 3 rfl rfl (zUa (z:=((Sh.raw s r).1).tdiv (((Sh.g4 (Sh.raw s r)):Nat):Int)) rfl rfl om (w64 om))<|e_pv 4 rfl rfl (zf Tryz.underlying25 rfl sz3 rfl rfl)<|e_uw 5 rfl rfl (zd 0 ty3 rfl rfl rfl)<|e_dm 6 rfl rfl rfl<|e_pv 7 rfl rfl (zUa (z:=((Sh.raw s r).2.1).tdiv (((Sh.g4 (Sh.raw s r)):Nat):Int)) rfl rfl om (w64 om))<|e_pv 8 rfl rfl (zf Tryz.underlying25 rfl sz3 rfl rfl)<|e_uw 9 rfl rfl (zd 0 ty3 rfl rfl rfl)<|e_dm 10 rfl rfl rfl<|e_pv 11 rfl rfl (zUa (z:=((Sh.raw s r).2.2.1).tdiv (((Sh.g4 (Sh.raw s r)):Nat):Int)) rfl rfl om (w64 om))<|e_pv 12 rfl rfl (zf Tryz.underlying25 rfl sz3 rfl rfl)<|e_uw 13 rfl rfl (zd 0 ty3 rfl rfl rfl)<|e_dm 14 rfl rfl rfl<|e_pv 15 rfl rfl (zUa (z:=((Sh.raw s r).2.2.2).tdiv (((Sh.g4 (Sh.raw s r)):Nat):Int)) rfl rfl om (w64 om))<|e_pv 16 rfl rfl (zu zr25 rfl Tryz.underlying25 (.c sz3 (.c sz3 (.c sz3 (.c sz3 .n)))) (.c rfl (.c rfl (.c rfl (.c rfl .n)))) (.c rfl rfl rfl (.take .nil) (.c rfl rfl rfl (.skip (.take .nil)) (.c rfl rfl rfl (.s2 (.take .nil)) (.c rfl rfl rfl (.s2 (.skip (.take .nil))) .n)))))<|e_one 17 (zp kr rfl rfl rfl rfl rfl sz25 rfl (.t4 .nil) ?_)
   refine zQ kr<|zg<|zj<|zc<|e_ru (ze 0 ty25 rfl rfl (.t4 .nil))<|zl 4 rfl rfl rfl rfl rfl sz25 rfl (.t4 .nil) (.s (.s (.s (.s .z))))<|zk<|zg<|zO ?_
   exact zL Tryz.results33 () trivial (zr 4 ty25 rfl rfl (.t4 .nil)) rfl (ho:=(.n:PickO _ _ _)) (.n:SelR _ _ _)
  ·
   refine zx<|zg<|zj<|zc<|e_ru (ze 1 ty25 rfl rfl (.t4 .nil))<|zl 4 rfl rfl rfl rfl rfl sz25 rfl (.t4 .nil) (.s (.s (.s (.s .z))))<|zk<|zg<|zO ?_
   exact zL Tryz.results33 () trivial (zr 4 ty25 rfl rfl (.t4 .nil)) (by rw [show Sh.rot s r=Sh.raw s r from Sh.red_raw om]) (ho:=(.n:PickO _ _ _)) (.n:SelR _ _ _)
 refine zga (X:=Nat×Nat) (k':=1) (L':=(lb 10 511)) (fun (u6_1,u7_1)=>([(9,.pointer (some ⟨u7_1,0,none⟩)),(8,.pointer (some ⟨u6_1,0,none⟩)),(34,.agg #[.int .i64 (s.ra),.int .i64 (s.rb),.int .i64 (s.rc),.int .i64 (s.rd)]),(7,.int .i64 ((Sh.tm s r) - s.ta)),(6,.int .i64 (s.tb - (Sh.tm s r))),(4,.pointer (some ⟨b2,0,none⟩))],[boxA u6_1 25 [.int .i64 (s.qa),.int .i64 (s.qb),.int .i64 (s.qc),.int .i64 (s.qd)],boxA u7_1 25 [.int .i64 0,.int .i64 0,.int .i64 0,.int .i64 0]],[boxA b2 25 [.int .i64 0,.int .i64 0,.int .i64 0,.int .i64 0],boxA b1 29 (cS s)],[])) ?_ (fun hD1=> ?_)
 ·
  rintro ⟨u6_1,u7_1⟩
  dsimp only [cw,cS]
  refine zMa 9 kr ?_
  ·
   refine zAc (zla (i:=1) rfl)<|zp kr rfl rfl rfl rfl rfl sz25 rfl (.t4 .nil) ?_
   exact zN (hD0 (u6_1,u7_1)) kr ((.of rfl):SubM _ _) .rfl .rfl (.n:SelR _ _ _)
 refine zga (X:=Nat×Nat) (k':=2) (L':=(lb 10 255)) (fun (u6_1,u7_1)=>([(9,.pointer (some ⟨u7_1,0,none⟩)),(8,.pointer (some ⟨u6_1,0,none⟩)),(34,.agg #[.int .i64 (s.ra),.int .i64 (s.rb),.int .i64 (s.rc),.int .i64 (s.rd)]),(31,.agg #[.int .i64 (s.qa),.int .i64 (s.qb),.int .i64 (s.qc),.int .i64 (s.qd)]),(7,.int .i64 ((Sh.tm s r) - s.ta)),(6,.int .i64 (s.tb - (Sh.tm s r))),(4,.pointer (some ⟨b2,0,none⟩))],[boxA u7_1 25 [.int .i64 0,.int .i64 0,.int .i64 0,.int .i64 0],boxA u6_1 25 [.int .i64 0,.int .i64 0,.int .i64 0,.int .i64 0]],[boxA b2 25 [.int .i64 0,.int .i64 0,.int .i64 0,.int .i64 0],boxA b1 29 (cS s)],[])) ?_ (fun hD2=> ?_)
 ·
  rintro ⟨u6_1,u7_1⟩
  dsimp only [cw,cS]
  refine zMa 8 kr ?_
  ·
   refine zAc (zla (i:=1) rfl)<|zp kr rfl rfl rfl rfl rfl sz25 rfl (.t4 .nil) ?_
   exact zN (hD1 (u6_1,u7_1)) kr ((.of rfl):SubM _ _) .rfl .rfl (.n:SelR _ _ _)
 refine zga (X:=Nat) (k':=3) (L':=(lb 10 127)) (fun u6_1=>([(8,.pointer (some ⟨u6_1,0,none⟩)),(34,.agg #[.int .i64 (s.ra),.int .i64 (s.rb),.int .i64 (s.rc),.int .i64 (s.rd)]),(31,.agg #[.int .i64 (s.qa),.int .i64 (s.qb),.int .i64 (s.qc),.int .i64 (s.qd)]),(7,.int .i64 ((Sh.tm s r) - s.ta)),(6,.int .i64 (s.tb - (Sh.tm s r))),(4,.pointer (some ⟨b2,0,none⟩))],[boxA u6_1 25 [.int .i64 0,.int .i64 0,.int .i64 0,.int .i64 0]],[boxA b2 25 [.int .i64 0,.int .i64 0,.int .i64 0,.int .i64 0],boxA b1 29 (cS s)],[])) ?_ (fun hD3=> ?_)
 ·
  rintro u6_1
  dsimp only [cw,cS]
  refine zMa 7 kr ?_
  ·
   refine zva rfl rfl rfl rfl (zo zr25 rfl) (fun u7_1 _=> ?_)
   exact zN (hD2 (u6_1,u7_1)) kr ((.of rfl):SubM _ _) .rfl .rfl (.n:SelR _ _ _)
 refine zga (X:=Nat) (k':=3) (L':=(lb 10 191)) (fun u7_1=>([(9,.pointer (some ⟨u7_1,0,none⟩)),(34,.agg #[.int .i64 (s.ra),.int .i64 (s.rb),.int .i64 (s.rc),.int .i64 (s.rd)]),(31,.agg #[.int .i64 (s.qa),.int .i64 (s.qb),.int .i64 (s.qc),.int .i64 (s.qd)]),(7,.int .i64 ((Sh.tm s r) - s.ta)),(6,.int .i64 (s.tb - (Sh.tm s r))),(4,.pointer (some ⟨b2,0,none⟩))],[boxA u7_1 25 [.int .i64 0,.int .i64 0,.int .i64 0,.int .i64 0]],[boxA b2 25 [.int .i64 0,.int .i64 0,.int .i64 0,.int .i64 0],boxA b1 29 (cS s)],[])) ?_ (fun hD4=> ?_)
 ·
  rintro u7_1
  dsimp only [cw,cS]
  refine zMa 6 kr ?_
  ·
   refine zva rfl rfl rfl rfl (zo zr25 rfl) (fun u6_1 _=> ?_)
   exact zN (hD2 (u6_1,u7_1)) kr ((.of rfl):SubM _ _) (zhc 1 rfl (zhc 0 rfl .nil)) .rfl (.n:SelR _ _ _)
 refine zrb 6 7 kr ?_ ?_
 ·
  refine zva rfl rfl rfl rfl (zo zr25 rfl) (fun u6_1 _=> ?_)
  exact zN (hD3 u6_1) kr ((.of rfl):SubM _ _) .rfl .rfl (.n:SelR _ _ _)
 ·
  refine zva rfl rfl rfl rfl (zo zr25 rfl) (fun u7_1 _=> ?_)
  exact zN (hD4 u7_1) kr ((.of rfl):SubM _ _) .rfl .rfl (.n:SelR _ _ _)
end Go.Proofs.YtjeahiahjgifgaaGreatDoor.Sp
