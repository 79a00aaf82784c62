/- Lemmas on the walk and plain lemmas that the claim of this folder uses; each states its own conditions. Lines were printed by a program of ours. -/
import Derived.Test.YtpdbimfnhglhpaaGreatZ3C
set_option linter.unusedVariables false
set_option linter.unusedSimpArgs false
set_option linter.unusedSectionVars false
open Go.Value renaming int → yd, pointer → yf
open Go.IntKind renaming i64 → ye
open Go.Proofs.YtpdbimfnhglhpaaGreat.Big renaming digs → yg, raw → yh, valL → yn, ln → yq, digs_ok → yt, okL_getD → yu, zP → yv, raw_big → yw, okL → yz, sg → yA, ln_mono' → yB, fq → yC, valL_digs → yD, valL_nonneg → yE, zYa → yG, sign_zero → yH, trimL → yI, hq → yJ, len_digs_nil → yK, nn → yM, pw → yN, cmp_ge → yO, hq_num → yP, hq_den → yQ, sg_abs → yT, fr → yU
open Go.Proofs.Tryz renaming underlying28 → yi, underlying30 → yj, underlying60 → yk, prog → yl, underlying62 → ym, underlying182 → yo, underlying133 → yp, underlying32 → yr, underlying46 → yx, results225 → yF, underlying4 → yL, underlying53 → yR, underlying3 → yS
namespace Go.Proofs.YtpdbimfnhglhpaaGreat.Sp
open Go
set_option linter.unusedVariables false
set_option maxRecDepth 100000
set_option maxHeartbeats 8000000
theorem zJa {s:Bool} {p:Option Addr} {n:Nat} {cap:Nat} {l:List Int} (hn:l.length=n) (ho:yz l) (hln:n≤17592186044416):Con yl 168 [.bool s,.slice p n cap] [] [slF (rI .u32) p cap l] (Y:=(Option Addr)×Nat) (fun y=>True) (fun y=> .agg #[.bool (decide ((yA s (yn l))<0)),.slice (y.1) ((yg ((yA s (yn l)).natAbs)).length) (y.2)]) (fun y=>[]) (fun y=>[slF (rI .u32) (y.1) (y.2) (yg ((yA s (yn l)).natAbs))]):=by
 refine zl Tryz.func168 rfl rfl rfl (fun c=> ?_)
 show RunC _ _ _ _ _ [(0,.bool s),(1,.slice p n cap)] [] [slF (rI .u32) p cap l]
 refine zX 0 rfl (fun hL0=> ?_)
 refine ze<|za<|zD rfl rfl (zo zr30 rfl) (fun b1=> ?_)
 refine zf<|zc<|ze<|za<|e_mv rfl<|e_p (zG yi rfl)<|e_p (zb rfl)<|zf<|zc<|ze<|zw<|zha (X:=Nat) (fun x:Nat=>x≤n∧yI (l.take x)=yI l) (fun x=>[(5,yd ye ((x:Nat):Int)),(4,yf (some ⟨b1,0,none⟩)),(0,.bool s),(1,.slice p n cap)]) (fun x=>[boxA b1 30 [wz.b,wz.l]]) (fun x=>[slF (rI .u32) p cap l]) (fun x:Nat=>x) n (show n≤n∧yI (l.take n)=yI l from by exact ⟨by omega,by rw [List.take_of_length_le om]⟩) (mR rfl) (ho:=(o0 rfl)) (s0 rfl) ?_
 rintro k hI
 replace hI:k≤n∧yI (l.take k)=yI l:=hI
 try dsimp only
 obtain ⟨hk,hT⟩:=hI
 refine ze<|zib (X:=Unit) (fun x=>True) (fun x=>[(17,.bool (decide (0<k∧l.getD (k - 1) 0=0))),(5,yd ye ((k:Nat):Int)),(4,yf (some ⟨b1,0,none⟩)),(0,.bool s),(1,.slice p n cap)]) (fun x=>[boxA b1 30 [wz.b,wz.l]]) (fun x=>[slF (rI .u32) p cap l]) ?_ ?_
 ·
  refine za<|e_mv rfl<|e_p (zpa rfl rfl)<|zja rfl rfl (zna rfl) (fun h2=> ?_) (fun h2=> ?_)
  ·
   refine e_mv rfl<|e_mv rfl<|e_p (zla (z:=(((k:Nat):Int) - 1)) rfl rfl (w64 om))<|zZ (x0:=(l.getD ((((k:Nat):Int) - 1).toNat) 0)) 0 ((((k:Nat):Int) - 1).toNat) rfl yi sz133 rfl rfl rfl cbs rfl om (gD (d:=0) om) (fun b3 o4 hok5=> ?_)
   replace hok5:=zA.1 hok5
   refine e_ru (zi (j:=0) 0 ty133 rfl rfl rfl rfl)<|e_p (zxa rfl rfl)<|e_p (zC rfl rfl)<|zf ?_
   exact zka () tt9 ((.e rfl (congrArg Value.bool (by have h1:0<k:=om;have h2:((k:Int) - 1).toNat=k - 1:=om;simp [h1,h2])) (.of rfl)):SubM _ _) (ho:=(o0 rfl)) ((.c (j:=1) rfl .n):SelR _ _ _)
  ·
   refine e_no<|e_no<|e_no<|e_no<|e_no<|e_no<|e_p (zC rfl rfl)<|zf ?_
   exact zka () tt9 ((.e rfl (congrArg Value.bool (by have h1:¬0<k:=om;simp [h1])) (.of rfl)):SubM _ _) (ho:=(o0 rfl)) (s0 rfl)
 ·
  rintro ⟨⟩ -
  try dsimp only
  refine zI rfl (fun hc=> ?_) (fun hc=> ?_)
  ·
   refine zx<|zc<|zw<|za<|e_mv rfl<|e_p (zla (z:=(((k - 1):Nat):Int)) rfl rfl (w64 om))<|e_p (zb rfl)<|zf<|zQ<|zca (k - 1) (show (k - 1)≤n∧yI (l.take (k - 1))=yI l from by exact ⟨by omega,by rw [← hT,Big.trim_go l hc.1 om hc.2]⟩) (by show k - 1<k;omega) ((.e rfl cgs (.of rfl)):SubM _ _) (ho:=(o0 rfl)) (s0 rfl)
  ·
   have htr:l.take k=yg (yA s (yn l)).natAbs:=by rw [yT (yE ho),←Big.digs_valL ho,←hT];exact (Big.trim_stop l om hc).symm
   have hlt:(l.take k).length=k:=by rw [List.length_take];omega
   have hsg:=Big.made_sign (s:=s) ho htr hlt
   refine zda<|zj<|zj<|zu<|zc<|ze<|za<|e_mv rfl<|r_pv_b rfl rfl (zna rfl) (fun hs=> ?_) (fun hs=> ?_)
   ·
    refine e_mv rfl<|e_p (zpa rfl rfl)<|e_p (zC rfl rfl)<|zva rfl rfl (zta (rI .u32) yi inf133) (fun b6 _=> ?_)
    refine e_mv rfl<|e_mv rfl<|e_p (zKb (hi:=k) yi sz133 rfl (.s rfl) (.inr ⟨_,rfl⟩) om)<|zZb (zHc 0 rfl k om) (fun _ _=> ?_)
    refine zEa 0 rfl rfl rfl (zCa 0 rfl yi inf133 dd rfl rfl cbs rfl cbs om om) (fun _=> .z) ?_
    rintro ⟨p7,c8⟩ -
    dsimp only [aq,nq,cq]
    refine e_p (zR zr30 rfl yj (.c sz4 (.c sz28 .n)) (.c rfl (.c rfl .n)) (.c rfl rfl rfl (.take .nil) (.c rfl rfl rfl (.skip (.take .nil)) .n)))<|zk 1 rfl rfl rfl rfl rfl sz30 rfl (.t2 .nil) (.s .z)<|zf<|zc<|zE ?_
    subst hs
    refine zzb 0 rfl .z ?_
    exact zy Tryz.results168 (p7,c8) trivial (zn 1 ty30 rfl rfl (.t2 .nil)) (by rw [hsg,←htr,hlt,Nat.zero_add] <;> simp) (ho:=oN) ((.e (j:=0) rfl (by rw [htr] <;> rfl) .n):SelR _ _ _)
   ·
    refine e_no<|e_no<|e_p (zC rfl rfl)<|zva rfl rfl (zta (rI .u32) yi inf133) (fun b9 _=> ?_)
    refine e_mv rfl<|e_mv rfl<|e_p (zKb (hi:=k) yi sz133 rfl (.s rfl) (.inr ⟨_,rfl⟩) om)<|zZb (zHc 0 rfl k om) (fun _ _=> ?_)
    refine zEa 0 rfl rfl rfl (zCa 0 rfl yi inf133 dd rfl rfl cbs rfl cbs om om) (fun _=> .z) ?_
    rintro ⟨p10,c11⟩ -
    dsimp only [aq,nq,cq]
    refine e_p (zR zr30 rfl yj (.c sz4 (.c sz28 .n)) (.c rfl (.c rfl .n)) (.c rfl rfl rfl (.take .nil) (.c rfl rfl rfl (.skip (.take .nil)) .n)))<|zk 1 rfl rfl rfl rfl rfl sz30 rfl (.t2 .nil) (.s .z)<|zf<|zc<|zE ?_
    subst hs
    refine zzb 0 rfl .z ?_
    exact zy Tryz.results168 (p10,c11) trivial (zn 1 ty30 rfl rfl (.t2 .nil)) (by rw [hsg,←htr,hlt,Nat.zero_add] <;> simp) (ho:=oN) ((.e (j:=0) rfl (by rw [htr] <;> rfl) .n):SelR _ _ _)
theorem zkb {s:Bool} {a:Nat} {p:Option Addr} {cap:Nat} (hln:(yg (a)).length≤17592186044416):Con yl 168 [.bool (s),.slice (p) ((yg (a)).length) (cap)] [] [slF (rI .u32) (p) (cap) (yg (a))] (Y:=(Option Addr)×(Nat)) (fun y=>True) (fun y=> .agg #[.bool (decide ((yA s (a:Int))<0)),.slice (y.1) ((yg ((yA s (a:Int)).natAbs)).length) (y.2)]) (fun y=>[]) (fun y=>[slF (rI .u32) (y.1) (y.2) (yg ((yA s (a:Int)).natAbs))]):=by
  have h:= @zJa s p (yg a).length cap (yg a) rfl (yt a) hln
  rw [yD] at h
  exact h
theorem zab {p:Option Addr} {n:Nat} {cap:Nat} {l:List Int} {i:Nat} (hn:l.length=n) (hi:i≤4611686018427387904):Con yl 254 [.slice p n cap,yd ye ((i:Nat):Int)] [] [slF (rI .u32) p cap l] (Y:=Unit) (fun y=>True) (fun y=> .int .u64 (l.getD i 0)) (fun y=>[]) (fun y=>[]):=by
 refine zl Tryz.func254 rfl rfl rfl (fun c=> ?_)
 show RunC _ _ _ _ _ [(0,.slice p n cap),(1,yd ye ((i:Nat):Int))] [] [slF (rI .u32) p cap l]
 refine zX 0 rfl (fun hL0=> ?_)
 refine ze<|za<|e_p (zb rfl)<|zf<|zc<|ze<|ze<|za<|e_mv rfl<|e_mv rfl<|e_p (zG yi rfl)<|e_p (zV rfl rfl)<|zf<|zc<|zI rfl (fun h1=> ?_) (fun h1=> ?_)
 ·
  refine ze<|za<|e_mv rfl<|e_mv rfl<|zZ (x0:=(l.getD i 0)) 0 i rfl yi sz133 rfl rfl rfl cbs rfl rfl (gD (d:=0) om) (fun b2 o3 hok4=> ?_)
  replace hok4:=zA.1 hok4
  refine e_ru (zi (j:=0) 0 ty133 rfl rfl rfl rfl)<|e_p (zt (z:=(l.getD i 0)) rfl (by rw [yp];rfl) yo (wu64 om))<|e_p (zb rfl)<|zf<|zc<|zE<|zB ?_
  exact zy Tryz.results254 () trivial (zp rfl) rfl (ho:=oN) sN
 ·
  refine zx<|zc<|ze<|za<|e_p (zb rfl)<|zf<|zc<|zE ?_
  exact zy Tryz.results254 () trivial (zp rfl) (by rw [show l.getD i 0=0 by simp [List.getD,List.getElem?_eq_none (show l.length≤i by omega)]]) (ho:=oN) sN
theorem zuc {s:Bool} {p:Option Addr} {n:Nat} {cap:Nat} {l:List Int} (hn:l.length=n):Con yl 150 [.agg #[.bool s,.slice p n cap]] [] [slF (rI .u32) p cap l] (Y:=Unit) (fun y=>True) (fun y=> .bool (decide (Big.canon s l))) (fun y=>[]) (fun y=>[]):=by
 refine zl Tryz.func150 rfl rfl rfl (fun c=> ?_)
 show RunC _ _ _ _ _ [(0,.agg #[.bool s,.slice p n cap])] [] [slF (rI .u32) p cap l]
 refine zX 0 rfl (fun hL0=> ?_)
 refine ze<|za<|zD rfl rfl (zT rfl rfl) (fun b1=> ?_)
 refine e_p (zb rfl)<|zf<|zc<|ze<|za<|e_p (zh yj rfl sz28 rfl rfl)<|e_ru (zg 0 ty28 rfl rfl rfl)<|e_p (zG yi rfl)<|e_p (zb rfl)<|zf<|zc<|ze<|ze<|za<|e_p (zb rfl)<|zf<|zc<|zw<|zha (X:=Nat) (fun x:Nat=>x≤n∧∀j,j<x→l.getD j 0<1000000000) (fun x=>[(4,yd ye ((x:Nat):Int)),(3,yd ye ((n:Nat):Int)),(1,yf (some ⟨b1,0,none⟩))]) (fun x=>[boxA b1 30 [.bool s,.slice p n cap]]) (fun x=>[slF (rI .u32) p cap l]) (fun x:Nat=>n - x) 0 (show 0≤n∧∀j,j<0→l.getD j 0<1000000000 from by exact ⟨by omega,fun j h=>by omega⟩) ((.e rfl cgs (.c rfl (.c rfl .n))):SubM _ _) (ho:=(o0 rfl)) (s0 rfl) ?_
 rintro i hI
 replace hI:i≤n∧∀j,j<i→l.getD j 0<1000000000:=hI
 try dsimp only
 obtain ⟨hi,hall⟩:=hI
 refine ze<|ze<|za<|e_mv rfl<|e_mv rfl<|e_p (zV rfl rfl)<|zf<|zc<|zI rfl (fun h2=> ?_) (fun h2=> ?_)
 ·
  refine zx<|zc<|ze<|zw<|ze<|za<|e_p (zh yj rfl sz28 rfl rfl)<|e_ru (zg 0 ty28 rfl rfl rfl)<|e_mv rfl<|zZ (x0:=(l.getD i 0)) 0 i rfl yi sz133 rfl rfl rfl cbs rfl rfl (gD (d:=0) om) (fun b3 o4 hok5=> ?_)
  replace hok5:=zA.1 hok5
  refine e_ru (zi (j:=0) 0 ty133 rfl rfl rfl rfl)<|e_p (zMa rfl rfl)<|zf<|zc<|zI rfl (fun hb=> ?_) (fun hb=> ?_)
  ·
   refine ze<|za<|e_p (zb rfl)<|zf<|zc<|zE<|zia<|zB<|zB<|zia<|zB ?_
   exact zy Tryz.results150 () trivial (zp rfl) (congrArg Value.bool (decide_eq_false (fun h=>((Big.canon_more om).1 h).2 ⟨_,Big.getD_mem om,hb⟩))) (ho:=oN) sN
  ·
   refine zx<|zQ<|zc<|za<|e_mv rfl<|e_p (zK (z:=(((i+1):Nat):Int)) rfl rfl (w64 om))<|e_p (zb rfl)<|zf<|zca (i+1) (show (i+1)≤n∧∀j,j<(i+1)→l.getD j 0<1000000000 from by refine ⟨by omega,fun j hj=> ?_⟩;by_cases e:j=i;subst e;omega;exact hall j om) (by show n - (i+1)<n - i;omega) (mR rfl) (ho:=(o0 rfl)) ((.c (j:=1) rfl .n):SelR _ _ _)
 ·
  refine zda<|zj<|zj<|zu<|zc<|ze<|ze<|za<|e_mv rfl<|e_p (zxa rfl rfl)<|zf<|zc<|zI rfl (fun h0=> ?_) (fun h0=> ?_)
  ·
   refine ze<|za<|e_p (zh yj rfl sz4 rfl rfl)<|e_ru (zg 0 ty4 rfl rfl rfl)<|e_p (zcb rfl)<|e_p (zb rfl)<|zf<|zc<|zE<|zB ?_
   exact zy Tryz.results150 () trivial (zp rfl) (congrArg Value.bool (by have:l.length=0:=om;cases s <;> simp [Big.canon,this])) (ho:=oN) sN
  ·
   refine zx<|zc<|ze<|za<|e_p (zh yj rfl sz28 rfl rfl)<|e_ru (zg 0 ty28 rfl rfl rfl)<|e_mv rfl<|e_p (zla (z:=(((n:Nat):Int) - 1)) rfl rfl (w64 om))<|zZ (x0:=(l.getD ((((n:Nat):Int) - 1).toNat) 0)) 0 ((((n:Nat):Int) - 1).toNat) rfl yi sz133 rfl rfl rfl cbs rfl om (gD (d:=0) om) (fun b6 o7 hok8=> ?_)
   replace hok8:=zA.1 hok8
   refine e_ru (zi (j:=0) 0 ty133 rfl rfl rfl rfl)<|e_p (zsa rfl rfl)<|e_p (zb rfl)<|zf<|zc<|zE ?_
   exact zy Tryz.results150 () trivial (zp rfl) (congrArg Value.bool (decide_eq_decide.2 (by rw [Big.canon_more om,hn];have e:((n:Int) - 1).toNat=n - 1:=om;rw [e];exact ⟨fun h=>h.1,fun h=>⟨h,fun ⟨g,hg,hb⟩=>by obtain ⟨j,hj,e⟩:=Big.mem_getD hg;have:=hall j om;omega⟩⟩))) (ho:=oN) sN
theorem zSa {s:Bool} {p:Option Addr} {n:Nat} {cap:Nat} {l:List Int} (hn:l.length=n) (hln:n≤4398046511104):Con yl 149 [.agg #[.bool s,.slice p n cap]] [] [slF (rI .u32) p cap l] (Y:=(Option Addr)×Nat) (fun y=>True) (fun y=> .agg #[.bool (decide ((yh s l)<0)),.slice (y.1) ((yg ((yh s l).natAbs)).length) (y.2)]) (fun y=>[]) (fun y=>[slF (rI .u32) (y.1) (y.2) (yg ((yh s l).natAbs))]):=by
 refine zl Tryz.func149 rfl rfl rfl (fun c=> ?_)
 show RunC _ _ _ _ _ [(0,.agg #[.bool s,.slice p n cap])] [] [slF (rI .u32) p cap l]
 refine zX 0 rfl (fun hL0=> ?_)
 refine zXa 0 rfl (fun hE0=> ?_)
 have hnn:yM l:=fun g hg=>(zA.1 (hE0 g hg)).1
 refine ze<|za<|zD rfl rfl (zT rfl rfl) (fun b1=> ?_)
 refine zD rfl rfl (zo zr30 rfl) (fun b2=> ?_)
 refine zf<|zc<|ze<|ze<|za<|e_ru (zd 1 ty30 rfl rfl (.t2 .nil))<|zJ rfl rfl (.c rfl .n) ce150 (zuc (s:=s) (p:=p) (n:=n) (cap:=cap) (l:=l) (hn:=ass)) (.c (j:=0) rfl .n)<|e_p (zUb rfl)<|zf<|zc<|zI rfl (fun hc=> ?_) (fun hc=> ?_)
 ·
  refine ze<|za<|e_p (zR zr30 rfl yj (.c sz4 (.c sz28 .n)) .n .n)<|zk 0 rfl rfl rfl rfl rfl sz30 rfl (.t2 .nil) .z<|zf<|zc<|zE<|zB ?_
  have hz:yh s l=0:=by unfold yh;rw [if_neg hc]
  refine zMd (rI .u32) ?_
  exact zy Tryz.results149 (none,0) trivial (zn 0 ty30 rfl rfl (.t2 .nil)) (by rw [hz];rfl) (ho:=oN) ((.e (j:=0) rfl (by rw [hz];rfl) .n):SelR _ _ _)
 ·
  refine zx<|zc<|ze<|zW (OW:=[boxA b2 30 [wz.b,wz.l]]) (O:=[boxA b1 30 [.bool s,.slice p n cap]]) 5 mixed (.then .ret) kr<|e_pv 0 rfl rfl (zh yj rfl sz4 rfl rfl)<|e_u 1 rfl rfl (zg 0 ty4 rfl rfl rfl)<|e_pv 3 rfl rfl (zh yj rfl sz28 rfl rfl)<|e_uw 4 rfl rfl (zg 1 ty28 rfl rfl rfl)<|e_one 2 (zmb rfl rfl rfl rfl (zta (rI .u32) yi inf133) (fun b3 _=> ?_))
  refine e_one 5 (zcc (A':=fun v:Option Addr×Nat=>rowA 133 (rI .u32) v.1 v.2 (([])++l)) kr rfl rfl rfl (zCa 0 rfl yi inf133 dd rfl rfl cbs rfl cbs om om) ?_)
  rintro ⟨p4,c5⟩ -
  dsimp only [aq,nq,cq]
  refine e_pv 6 rfl rfl (zR zr30 rfl yj (.c sz4 (.c sz28 .n)) (.c rfl (.c rfl .n)) (.c rfl rfl rfl (.take .nil) (.c rfl rfl rfl (.skip (.take .nil)) .n)))<|zDa (zba (i:=1) rfl)<|e_one 7 (zr kr rfl rfl rfl rfl rfl sz30 rfl (.t2 .nil) ?_)
  refine zN kr<|zc<|zE ?_
  have hcc:Big.canon s l:=Decidable.not_not.1 hc
  have hd:yg (yh s l).natAbs=l:=by rw [Big.raw_digs hnn,if_pos hcc]
  have hs:=Big.raw_sign hnn hcc
  refine zzb 1 rfl (.s .z) ?_
  exact zy Tryz.results149 (p4,c5) trivial (zn 0 ty30 rfl rfl (.t2 .nil)) (by rw [hs,hd,hn,Nat.zero_add]) (ho:=oN) ((.e (j:=0) rfl (by rw [hd] <;> rfl) .n):SelR _ _ _)
theorem zTc {z:Int} {p:Option Addr} {cap:Nat} (hln:yq z≤4398046511104):Con yl 149 [.agg #[.bool (decide ((z)<0)),.slice (p) ((yg ((z).natAbs)).length) (cap)]] [] [slF (rI .u32) (p) (cap) (yg ((z).natAbs))] (Y:=(Option Addr)×(Nat)) (fun y=>True) (fun y=> .agg #[.bool (decide ((z)<0)),.slice (y.1) ((yg ((z).natAbs)).length) (y.2)]) (fun y=>[]) (fun y=>[slF (rI .u32) (y.1) (y.2) (yg ((z).natAbs))]):=by
  have h:= @zSa (decide ((z)<0)) p (yg (z).natAbs).length cap (yg (z).natAbs) rfl hln
  rw [yw] at h
  exact h
theorem zLf {z:Int} (hz: -9223372036854775808≤z∧z≤9223372036854775807):Con yl 148 [yd ye z] [] [] (Y:=(Option Addr)×Nat) (fun y=>True) (fun y=> .agg #[.bool (decide (z<0)),.slice (y.1) ((yg ((z).natAbs)).length) (y.2)]) (fun y=>[]) (fun y=>[slF (rI .u32) (y.1) (y.2) (yg ((z).natAbs))]):=by
 refine zl Tryz.func148 rfl rfl rfl (fun c=> ?_)
 show RunC _ _ _ _ _ [(0,yd ye z)] [] []
 refine ze<|za<|zD rfl rfl (zo zr30 rfl) (fun b1=> ?_)
 refine zf<|zc<|ze<|za<|e_mv rfl<|e_p (zt (z:=(z%18446744073709551616)) rfl (by rw [yS];rfl) yo (wu64m om))<|e_p (zb rfl)<|zf<|zc<|zib (X:=Unit) (fun x=>True) (fun x=>[(3,.int .u64 ((z.natAbs:Nat):Int)),(2,yf (some ⟨b1,0,none⟩)),(0,yd ye z)]) (fun x=>[boxA b1 30 [wz.b,wz.l]]) (fun x=>[]) ?_ ?_
 ·
  refine ze<|za<|e_mv rfl<|e_p (zV rfl rfl)<|zf<|zc<|zI rfl (fun hs=> ?_) (fun hs=> ?_)
  ·
   refine za<|e_mv rfl<|e_p (zK (z:=(z+1)) rfl rfl (w64 om))<|e_p (zqf (z:=(-(z+1))) rfl (w64 om))<|e_p (zt (z:=(-(z+1))) rfl (by rw [yS];rfl) yo (wu64 om))<|e_p (zK (z:=((z.natAbs:Nat):Int)) rfl rfl (wu64 om))<|e_p (zb rfl)<|zf ?_
   exact zka () tt9 (mR rfl) (ho:=(o0 rfl)) sN
  ·
   have e2:((z%18446744073709551616):Int)=((z.natAbs:Nat):Int):=by omega
   rw [e2]
   refine zx ?_
   exact zka () tt9 (mR rfl) (ho:=(o0 rfl)) sN
 ·
  rintro ⟨⟩ -
  try dsimp only
  refine ze<|za<|zva rfl rfl (zta (rI .u32) yi inf133) (fun b3 _=> ?_)
  refine e_p (zb rfl)<|zf<|zc<|ze<|zw<|zha (X:=Nat×(Option Addr)×Nat×(List Int)) (fun x:Nat×(Option Addr)×Nat×(List Int)=>x.1≤z.natAbs∧x.2.2.2++yg x.1=yg z.natAbs) (fun x=>[(4,.slice (x.2.1) (x.2.2.2.length) (x.2.2.1)),(3,.int .u64 ((x.1:Nat):Int)),(2,yf (some ⟨b1,0,none⟩)),(0,yd ye z)]) (fun x=>[rowA 133 (rI .u32) (x.2.1) (x.2.2.1) (x.2.2.2),boxA b1 30 [wz.b,wz.l]]) (fun x=>[]) (fun x:Nat×(Option Addr)×Nat×(List Int)=>x.1) (z.natAbs,some ⟨b3,0,none⟩,0,[]) (show z.natAbs≤z.natAbs∧([])++yg z.natAbs=yg z.natAbs from by exact ⟨Nat.le_refl _,rfl⟩) ((.e rfl cgs (.of rfl)):SubM _ _) (ho:=((.of [0,0] rfl):PickO _ _ _)) sN ?_
  rintro ⟨m,p,c,os⟩ hI
  replace hI:m≤z.natAbs∧os++yg m=yg z.natAbs:=hI
  try dsimp only
  obtain ⟨hnn,hos⟩:=hI
  have hlen0:os.length+(yg m).length≤3:=by have:=congrArg List.length hos;rw [List.length_append] at this;have:=Big.zzf (show z.natAbs<18446744073709551616 by omega);omega
  refine ze<|ze<|za<|e_mv rfl<|e_p (zpa rfl rfl)<|zf<|zc<|zI rfl (fun h4=> ?_) (fun h4=> ?_)
  ·
   refine zx<|zc<|zw<|ze<|za<|e_mv rfl<|e_mv rfl<|e_p (zbb (z:=(((m%1000000000):Nat):Int)) rfl rfl om (remN om om))<|e_p (zt (z:=(((m%1000000000):Nat):Int)) rfl (by rw [yo];rfl) yp (wu32 om))<|zva rfl rfl (zH (enc:=fun z:Int=>[.int .u32 z]) (ok:=InK .u32) (h1:=fun _=>rfl) (h2:=fun _=>rfl) (k:=1) yi inf133 rfl dd dd dd (.c (x:=(((m%1000000000):Nat):Int)) rfl rfl (fun _ _=>by exact zA.2 om) .n)) (fun b5 _=> ?_)
   refine zea 0 rfl .z<|zEa 1 rfl rfl rfl (zCa 0 rfl yi inf133 dd rfl rfl cbs rfl cbs om om) (fun _=>(.s .z)) ?_
   rintro ⟨p6,c7⟩ -
   dsimp only [aq,nq,cq]
   refine e_p (zb rfl)<|zf<|zc<|za<|e_mv rfl<|e_p (zfb (z:=(((m / 1000000000):Nat):Int)) rfl rfl om (by rw [quoN (z:=(((m / 1000000000):Nat):Int)) om om];exact wu64 om))<|e_p (zb rfl)<|zf<|zQ<|zca ((m / 1000000000),p6,c7,os++[((m%1000000000:Nat):Int)]) (show (m / 1000000000)≤z.natAbs∧(os++[((m%1000000000:Nat):Int)])++yg (m / 1000000000)=yg z.natAbs from by exact ⟨by omega,Big.split_step om hos⟩) (by show m / 1000000000<m;omega) ((.e rfl (by simp) (.of rfl)):SubM _ _) (ho:=((.e (i:=1) rfl cgs (.c (i:=1) rfl .n)):PickO _ _ _)) sN
  ·
   have hm0:m=0:=by omega
   subst hm0
   have hd:os=yg z.natAbs:=by simpa [Big.digs_zero] using hos
   have hok:yz os:=by rw [hd];exact yt _
   have hlen:os.length≤3:=by rw [hd];exact Big.zzf om
   have hsg:yA (decide (z<0)) (yn os)=z:=by rw [hd,yD];exact Big.sg_big z
   refine zda<|zj<|zj<|zu<|zc<|ze<|za<|e_mv rfl<|e_p (zV rfl rfl)<|e_mv rfl<|zea 0 rfl .z<|zq rfl rfl (.c rfl (.c rfl .n)) ce168 (zJa (s:=decide (z<0)) (p:=p) (n:=os.length) (cap:=c) (l:=os) (hn:=by first|rfl|omega) (ho:=by exact hok) (hln:=by first|rfl|omega)) (.c (j:=0) rfl .n) ?_
   rintro ⟨p28,c29⟩ -
   dsimp only [aq,nq,cq]
   refine zk 1 rfl rfl rfl rfl rfl sz30 rfl (.t2 .nil) (.s .z)<|zf<|zc<|zE ?_
   exact zy Tryz.results148 (p28,c29) trivial (zn 1 ty30 rfl rfl (.t2 .nil)) (by rw [hsg]) (ho:=oN) ((.e (j:=0) rfl (by rw [hsg]) .n):SelR _ _ _)
theorem zMf {a:Nat} {b:Nat} {p1:Option Addr} {c1:Nat} {p2:Option Addr} {c2:Nat} (hb1:(yg a).length≤4398046511104) (hb2:(yg b).length≤4398046511104):Con yl 224 [.slice p1 ((yg a).length) c1,.slice p2 ((yg b).length) c2] [] [slF (rI .u32) p1 c1 (yg a),slF (rI .u32) p2 c2 (yg b)] (Y:=(Option Addr)×Nat) (fun y=>True) (fun y=> .slice (y.1) ((yg (a+b)).length) (y.2)) (fun y=>[]) (fun y=>[slF (rI .u32) (y.1) (y.2) (yg (a+b))]):=by
 refine zl Tryz.func224 rfl rfl rfl (fun c=> ?_)
 show RunC _ _ _ _ _ [(0,.slice p1 ((yg a).length) c1),(1,.slice p2 ((yg b).length) c2)] [] [slF (rI .u32) p1 c1 (yg a),slF (rI .u32) p2 c2 (yg b)]
 refine zX 0 rfl (fun hL0=> ?_)
 refine zX 1 rfl (fun hL1=> ?_)
 refine ze<|za<|e_p (zb rfl)<|zf<|zc<|ze<|za<|zva rfl rfl (zta (rI .u32) yi inf133) (fun b1 _=> ?_)
 refine e_p (zb rfl)<|zf<|zc<|ze<|za<|e_p (zb rfl)<|zf<|zc<|ze<|ze<|za<|e_p (zb rfl)<|zf<|zc<|zw<|zha (X:=Nat×(Option Addr)×Nat×(List Int)×Int) (fun x:Nat×(Option Addr)×Nat×(List Int)×Int=>x.1≤max (yg a).length (yg b).length∧x.2.2.2.1.length=x.1∧0≤x.2.2.2.2∧x.2.2.2.2≤1∧yz x.2.2.2.1∧yn x.2.2.2.1+yN x.1*x.2.2.2.2=yn ((yg a).take x.1)+yn ((yg b).take x.1)) (fun x=>[(6,.int .u64 (x.2.2.2.2)),(5,.slice (x.2.1) (x.2.2.2.1.length) (x.2.2.1)),(7,yd ye ((x.1:Nat):Int)),(4,.slice none 0 0),(0,.slice p1 ((yg a).length) c1),(1,.slice p2 ((yg b).length) c2)]) (fun x=>[rowA 133 (rI .u32) (x.2.1) (x.2.2.1) (x.2.2.2.1)]) (fun x=>[slF (rI .u32) p1 c1 (yg a),slF (rI .u32) p2 c2 (yg b)]) (fun x:Nat×(Option Addr)×Nat×(List Int)×Int=>max (yg a).length (yg b).length - x.1) (0,some ⟨b1,0,none⟩,0,[],0) (show 0≤max (yg a).length (yg b).length∧([]).length=0∧0≤0∧0≤1∧yz ([])∧yn ([])+yN 0*0=yn ((yg a).take 0)+yn ((yg b).take 0) from by exact ⟨by omega,rfl,by decide,by decide,Big.okL_nil,by simp [yn]⟩) ((.c rfl (.e rfl cgs (.e rfl cgs (.of rfl)))):SubM _ _) (ho:=(o0 rfl)) ((.of [0,1] rfl):SelR _ _ _) ?_
 rintro ⟨i,p,c,os,cy⟩ hI
 replace hI:i≤max (yg a).length (yg b).length∧os.length=i∧0≤cy∧cy≤1∧yz os∧yn os+yN i*cy=yn ((yg a).take i)+yn ((yg b).take i):=hI
 try dsimp only
 obtain ⟨hi,hol,hc0,hc1,hok,hv⟩:=hI
 have hg1:=yu (yt a) i
 have hg2:=yu (yt b) i
 refine ze<|zib (X:=Unit) (fun x=>True) (fun x=>[(19,.bool (decide (i<(yg a).length∨i<(yg b).length))),(6,.int .u64 cy),(5,.slice p (os.length) c),(7,yd ye ((i:Nat):Int)),(4,.slice none 0 0),(0,.slice p1 ((yg a).length) c1),(1,.slice p2 ((yg b).length) c2)]) (fun x=>[rowA 133 (rI .u32) p c os]) (fun x=>[slF (rI .u32) p1 c1 (yg a),slF (rI .u32) p2 c2 (yg b)]) ?_ ?_
 ·
  refine za<|e_mv rfl<|e_mv rfl<|e_p (zG yi rfl)<|e_p (zV rfl rfl)<|zja rfl rfl (zna rfl) (fun h2=> ?_) (fun h2=> ?_)
  ·
   refine e_no<|e_no<|e_no<|e_no<|e_p (zC rfl rfl)<|zf ?_
   exact zka () tt9 ((.e rfl (congrArg Value.bool (by simp;omega)) (.of rfl)):SubM _ _) (ho:=(o0 rfl)) ((.of [0,1] rfl):SelR _ _ _)
  ·
   refine e_mv rfl<|e_mv rfl<|e_p (zG yi rfl)<|e_p (zV rfl rfl)<|e_p (zC rfl rfl)<|zf ?_
   exact zka () tt9 ((.e rfl (congrArg Value.bool (by simp;omega)) (.of rfl)):SubM _ _) (ho:=(o0 rfl)) ((.of [0,1] rfl):SelR _ _ _)
 ·
  rintro ⟨⟩ -
  try dsimp only
  refine zI rfl (fun hc=> ?_) (fun hc=> ?_)
  ·
   refine zx<|zc<|ze<|zw<|ze<|za<|e_mv rfl<|e_mv rfl<|zJ rfl rfl (.c rfl (.c rfl .n)) ce254 (zab (p:=p1) (n:=(yg a).length) (cap:=c1) (l:=yg a) (i:=i) (hn:=cbb) (hi:=cbb)) (.c (j:=0) rfl .n)<|e_mv rfl<|e_mv rfl<|zJ rfl rfl (.c rfl (.c rfl .n)) ce254 (zab (p:=p2) (n:=(yg b).length) (cap:=c2) (l:=yg b) (i:=i) (hn:=cbb) (hi:=cbb)) (.c (j:=1) rfl .n)<|e_p (zK (z:=((yg a).getD i 0+(yg b).getD i 0)) rfl rfl (wu64 om))<|e_mv rfl<|e_p (zK (z:=(((yg a).getD i 0+(yg b).getD i 0)+cy)) rfl rfl (wu64 om))<|e_p (zb rfl)<|zf<|zc<|ze<|za<|e_mv rfl<|e_mv rfl<|e_p (zbb (z:=((((yg a).getD i 0+(yg b).getD i 0)+cy)%1000000000)) rfl rfl om (remN om om))<|e_p (zt (z:=((((yg a).getD i 0+(yg b).getD i 0)+cy)%1000000000)) rfl (by rw [yo];rfl) yp (wu32 om))<|zva rfl rfl (zH (enc:=fun z:Int=>[.int .u32 z]) (ok:=InK .u32) (h1:=fun _=>rfl) (h2:=fun _=>rfl) (k:=1) yi inf133 rfl dd dd dd (.c (x:=((((yg a).getD i 0+(yg b).getD i 0)+cy)%1000000000)) rfl rfl (fun _ _=>by exact zA.2 om) .n)) (fun b3 _=> ?_)
   refine zea 0 rfl .z<|zEa 1 rfl rfl rfl (zCa 0 rfl yi inf133 dd rfl rfl cbs rfl cbs om om) (fun _=>(.s .z)) ?_
   rintro ⟨p4,c5⟩ -
   dsimp only [aq,nq,cq]
   refine e_p (zb rfl)<|zf<|zc<|za<|e_mv rfl<|e_p (zfb (z:=((((yg a).getD i 0+(yg b).getD i 0)+cy) / 1000000000)) rfl rfl om (by rw [quoN (z:=((((yg a).getD i 0+(yg b).getD i 0)+cy) / 1000000000)) om om];exact wu64 om))<|e_p (zb rfl)<|zf<|zQ<|zc<|za<|e_mv rfl<|e_p (zK (z:=(((i+1):Nat):Int)) rfl rfl (w64 om))<|e_p (zb rfl)<|zf<|zca ((i+1),p4,c5,os++[((yg a).getD i 0+(yg b).getD i 0+cy)%1000000000],((yg a).getD i 0+(yg b).getD i 0+cy) / 1000000000) (show (i+1)≤max (yg a).length (yg b).length∧(os++[((yg a).getD i 0+(yg b).getD i 0+cy)%1000000000]).length=(i+1)∧0≤(((yg a).getD i 0+(yg b).getD i 0+cy) / 1000000000)∧(((yg a).getD i 0+(yg b).getD i 0+cy) / 1000000000)≤1∧yz (os++[((yg a).getD i 0+(yg b).getD i 0+cy)%1000000000])∧yn (os++[((yg a).getD i 0+(yg b).getD i 0+cy)%1000000000])+yN (i+1)*(((yg a).getD i 0+(yg b).getD i 0+cy) / 1000000000)=yn ((yg a).take (i+1))+yn ((yg b).take (i+1)) from by exact ⟨by omega,by simp [hol],by omega,by omega,Big.okL_snoc hok om om,Big.plus_step hol hv om⟩) (by show max (yg a).length (yg b).length - (i+1)<max (yg a).length (yg b).length - i;omega) ((.e rfl cgs (.e rfl (by simp) (.of rfl))):SubM _ _) (ho:=((.e (i:=1) rfl cgs .n):PickO _ _ _)) ((.of [1,2] rfl):SelR _ _ _)
  ·
   have hok2:=Big.okL_snoc hok hc0 (show cy<1000000000 by omega)
   have hfin:=Big.plus_end (a:=a) (b:=b) hol om om hv
   refine zda<|zj<|zj<|zu<|zc<|ze<|za<|e_mv rfl<|e_mv rfl<|e_p (zt (z:=cy) rfl (by rw [yo];rfl) yp (wu32 om))<|zva rfl rfl (zH (enc:=fun z:Int=>[.int .u32 z]) (ok:=InK .u32) (h1:=fun _=>rfl) (h2:=fun _=>rfl) (k:=1) yi inf133 rfl dd dd dd (.c (x:=cy) rfl rfl (fun _ _=>by exact zA.2 om) .n)) (fun b6 _=> ?_)
   refine zea 0 rfl .z<|zEa 1 rfl rfl rfl (zCa 0 rfl yi inf133 dd rfl rfl cbs rfl cbs om om) (fun _=>(.s .z)) ?_
   rintro ⟨p7,c8⟩ -
   dsimp only [aq,nq,cq]
   refine zea 1 rfl (.s .z)<|zq rfl rfl (.c rfl (.c rfl .n)) ce168 (zJa (s:=false) (p:=p7) (n:=os.length+1) (cap:=c8) (l:=(os++([cy]))) (hn:=by first|rfl|omega|(simp;done)|(simp;omega)) (ho:=by exact hok2) (hln:=by first|rfl|omega|(simp;done)|(simp;omega))) (.c (j:=0) rfl .n) ?_
   rintro ⟨p29,c210⟩ -
   dsimp only [aq,nq,cq]
   refine e_p (zza yj rfl ty28 rfl rfl)<|e_p (zb rfl)<|zf<|zc<|zE ?_
   exact zy Tryz.results224 (p29,c210) trivial (zp rfl) (by rw [hfin]) (ho:=oN) ((.e (j:=0) rfl (by rw [hfin]) .n):SelR _ _ _)
theorem zPb {a:Nat} {b:Nat} {p1:Option Addr} {c1:Nat} {p2:Option Addr} {c2:Nat} (hb1:(yg a).length≤4398046511104) (hb2:(yg b).length≤4398046511104) (hab:b≤a):Con yl 226 [.slice p1 ((yg a).length) c1,.slice p2 ((yg b).length) c2] [] [slF (rI .u32) p1 c1 (yg a),slF (rI .u32) p2 c2 (yg b)] (Y:=(Option Addr)×Nat) (fun y=>True) (fun y=> .slice (y.1) ((yg (a - b)).length) (y.2)) (fun y=>[]) (fun y=>[slF (rI .u32) (y.1) (y.2) (yg (a - b))]):=by
 refine zl Tryz.func226 rfl rfl rfl (fun c=> ?_)
 show RunC _ _ _ _ _ [(0,.slice p1 ((yg a).length) c1),(1,.slice p2 ((yg b).length) c2)] [] [slF (rI .u32) p1 c1 (yg a),slF (rI .u32) p2 c2 (yg b)]
 refine zX 0 rfl (fun hL0=> ?_)
 refine zX 1 rfl (fun hL1=> ?_)
 refine ze<|za<|e_p (zb rfl)<|zf<|zc<|ze<|za<|zva rfl rfl (zta (rI .u32) yi inf133) (fun b1 _=> ?_)
 refine e_p (zb rfl)<|zf<|zc<|ze<|za<|e_p (zb rfl)<|zf<|zc<|ze<|ze<|za<|e_p (zb rfl)<|zf<|zc<|zw<|zha (X:=Nat×(Option Addr)×Nat×(List Int)×Int) (fun x:Nat×(Option Addr)×Nat×(List Int)×Int=>x.1≤(yg a).length∧x.2.2.2.1.length=x.1∧0≤x.2.2.2.2∧x.2.2.2.2≤1∧yz x.2.2.2.1∧yn x.2.2.2.1+yn ((yg b).take x.1)=yn ((yg a).take x.1)+yN x.1*x.2.2.2.2) (fun x=>[(6,.int .u64 (x.2.2.2.2)),(5,.slice (x.2.1) (x.2.2.2.1.length) (x.2.2.1)),(7,yd ye ((x.1:Nat):Int)),(4,.slice none 0 0),(0,.slice p1 ((yg a).length) c1),(1,.slice p2 ((yg b).length) c2)]) (fun x=>[rowA 133 (rI .u32) (x.2.1) (x.2.2.1) (x.2.2.2.1)]) (fun x=>[slF (rI .u32) p1 c1 (yg a),slF (rI .u32) p2 c2 (yg b)]) (fun x:Nat×(Option Addr)×Nat×(List Int)×Int=>(yg a).length - x.1) (0,some ⟨b1,0,none⟩,0,[],0) (show 0≤(yg a).length∧([]).length=0∧0≤0∧0≤1∧yz ([])∧yn ([])+yn ((yg b).take 0)=yn ((yg a).take 0)+yN 0*0 from by exact ⟨by omega,rfl,by decide,by decide,Big.okL_nil,by simp [yn]⟩) ((.c rfl (.e rfl cgs (.e rfl cgs (.of rfl)))):SubM _ _) (ho:=(o0 rfl)) ((.of [0,1] rfl):SelR _ _ _) ?_
 rintro ⟨i,p,c,os,bo⟩ hI
 replace hI:i≤(yg a).length∧os.length=i∧0≤bo∧bo≤1∧yz os∧yn os+yn ((yg b).take i)=yn ((yg a).take i)+yN i*bo:=hI
 try dsimp only
 obtain ⟨hi,hol,hc0,hc1,hok,hv⟩:=hI
 have hg1:=yu (yt a) i
 have hg2:=yu (yt b) i
 refine ze<|ze<|za<|e_mv rfl<|e_mv rfl<|e_p (zG yi rfl)<|e_p (zV rfl rfl)<|zf<|zc<|zI rfl (fun h2=> ?_) (fun h2=> ?_)
 ·
  refine zx<|zc<|ze<|zw<|ze<|za<|e_mv rfl<|e_mv rfl<|zJ rfl rfl (.c rfl (.c rfl .n)) ce254 (zab (p:=p1) (n:=(yg a).length) (cap:=c1) (l:=yg a) (i:=i) (hn:=cbb) (hi:=cbb)) (.c (j:=0) rfl .n)<|e_p (zK (z:=(1000000000+(yg a).getD i 0)) rfl rfl (wu64 om))<|e_mv rfl<|e_mv rfl<|zJ rfl rfl (.c rfl (.c rfl .n)) ce254 (zab (p:=p2) (n:=(yg b).length) (cap:=c2) (l:=yg b) (i:=i) (hn:=cbb) (hi:=cbb)) (.c (j:=1) rfl .n)<|e_p (zla (z:=((1000000000+(yg a).getD i 0) - (yg b).getD i 0)) rfl rfl (wu64 om))<|e_mv rfl<|e_p (zla (z:=(((1000000000+(yg a).getD i 0) - (yg b).getD i 0) - bo)) rfl rfl (wu64 om))<|e_p (zb rfl)<|zf<|zc<|ze<|za<|e_mv rfl<|e_mv rfl<|e_p (zbb (z:=((((1000000000+(yg a).getD i 0) - (yg b).getD i 0) - bo)%1000000000)) rfl rfl om (remN om om))<|e_p (zt (z:=((((1000000000+(yg a).getD i 0) - (yg b).getD i 0) - bo)%1000000000)) rfl (by rw [yo];rfl) yp (wu32 om))<|zva rfl rfl (zH (enc:=fun z:Int=>[.int .u32 z]) (ok:=InK .u32) (h1:=fun _=>rfl) (h2:=fun _=>rfl) (k:=1) yi inf133 rfl dd dd dd (.c (x:=((((1000000000+(yg a).getD i 0) - (yg b).getD i 0) - bo)%1000000000)) rfl rfl (fun _ _=>by exact zA.2 om) .n)) (fun b3 _=> ?_)
  refine zea 0 rfl .z<|zEa 1 rfl rfl rfl (zCa 0 rfl yi inf133 dd rfl rfl cbs rfl cbs om om) (fun _=>(.s .z)) ?_
  rintro ⟨p4,c5⟩ -
  dsimp only [aq,nq,cq]
  refine e_p (zb rfl)<|zf<|zc<|za<|e_mv rfl<|e_p (zfb (z:=((((1000000000+(yg a).getD i 0) - (yg b).getD i 0) - bo) / 1000000000)) rfl rfl om (by rw [quoN (z:=((((1000000000+(yg a).getD i 0) - (yg b).getD i 0) - bo) / 1000000000)) om om];exact wu64 om))<|e_p (zla (z:=(1 - ((((1000000000+(yg a).getD i 0) - (yg b).getD i 0) - bo) / 1000000000))) rfl rfl (wu64 om))<|e_p (zb rfl)<|zf<|zQ<|zc<|za<|e_mv rfl<|e_p (zK (z:=(((i+1):Nat):Int)) rfl rfl (w64 om))<|e_p (zb rfl)<|zf<|zca ((i+1),p4,c5,os++[(1000000000+(yg a).getD i 0 - (yg b).getD i 0 - bo)%1000000000],1 - (1000000000+(yg a).getD i 0 - (yg b).getD i 0 - bo) / 1000000000) (show (i+1)≤(yg a).length∧(os++[(1000000000+(yg a).getD i 0 - (yg b).getD i 0 - bo)%1000000000]).length=(i+1)∧0≤(1 - (1000000000+(yg a).getD i 0 - (yg b).getD i 0 - bo) / 1000000000)∧(1 - (1000000000+(yg a).getD i 0 - (yg b).getD i 0 - bo) / 1000000000)≤1∧yz (os++[(1000000000+(yg a).getD i 0 - (yg b).getD i 0 - bo)%1000000000])∧yn (os++[(1000000000+(yg a).getD i 0 - (yg b).getD i 0 - bo)%1000000000])+yn ((yg b).take (i+1))=yn ((yg a).take (i+1))+yN (i+1)*(1 - (1000000000+(yg a).getD i 0 - (yg b).getD i 0 - bo) / 1000000000) from by exact ⟨by omega,by simp [hol],by omega,by omega,Big.okL_snoc hok om om,Big.minus_step hol hv om⟩) (by show (yg a).length - (i+1)<(yg a).length - i;omega) ((.e rfl cgs (.e rfl (by simp) (.of rfl))):SubM _ _) (ho:=((.e (i:=1) rfl cgs .n):PickO _ _ _)) ((.of [1,2] rfl):SelR _ _ _)
 ·
  have htr:yI os=yg (a - b):=Big.minus_fin hab hok hc0 hol om hv
  have hfin:(yA false (yn os)).natAbs=a - b:=by rw [yT (yE hok)];have:=congrArg yn htr;rw [Big.valL_trim,yD] at this;omega
  refine zda<|zj<|zj<|zu<|zc<|ze<|za<|e_mv rfl<|zea 0 rfl .z<|zq rfl rfl (.c rfl (.c rfl .n)) ce168 (zJa (s:=false) (p:=p) (n:=os.length) (cap:=c) (l:=os) (hn:=by first|rfl|omega|(simp;done)|(simp;omega)) (ho:=by exact hok) (hln:=by first|rfl|omega|(simp;done)|(simp;omega))) (.c (j:=0) rfl .n) ?_
  rintro ⟨p26,c27⟩ -
  dsimp only [aq,nq,cq]
  refine e_p (zza yj rfl ty28 rfl rfl)<|e_p (zb rfl)<|zf<|zc<|zE ?_
  exact zy Tryz.results226 (p26,c27) trivial (zp rfl) (by rw [hfin]) (ho:=oN) ((.e (j:=0) rfl (by rw [hfin]) .n):SelR _ _ _)
theorem zUc {a:Nat} {b:Nat} {p1:Option Addr} {c1:Nat} {p2:Option Addr} {c2:Nat}:Con yl 225 [.slice p1 ((yg a).length) c1,.slice p2 ((yg b).length) c2] [] [slF (rI .u32) p1 c1 (yg a),slF (rI .u32) p2 c2 (yg b)] (Y:=Unit) (fun y=>True) (fun y=> yd ye (Big.cmp (a:Int) (b:Int))) (fun y=>[]) (fun y=>[]):=by
 refine zl Tryz.func225 rfl rfl rfl (fun c=> ?_)
 show RunC _ _ _ _ _ [(0,.slice p1 ((yg a).length) c1),(1,.slice p2 ((yg b).length) c2)] [] [slF (rI .u32) p1 c1 (yg a),slF (rI .u32) p2 c2 (yg b)]
 refine zX 0 rfl (fun hL0=> ?_)
 refine zX 1 rfl (fun hL1=> ?_)
 refine ze<|za<|e_p (zb rfl)<|zf<|zc<|ze<|ze<|za<|e_mv rfl<|e_p (zG yi rfl)<|e_mv rfl<|e_p (zG yi rfl)<|e_p (zsa rfl rfl)<|zf<|zc<|zI rfl (fun hlen=> ?_) (fun hlen=> ?_)
 ·
  refine ze<|ze<|za<|e_mv rfl<|e_p (zG yi rfl)<|e_mv rfl<|e_p (zG yi rfl)<|e_p (zV rfl rfl)<|zf<|zc<|zI rfl (fun hll=> ?_) (fun hll=> ?_)
  ·
   refine ze<|za<|e_p (zb rfl)<|zf<|zc<|zE<|zB<|zB ?_
   exact zy yF () trivial (zp rfl) (by rw [← Big.cmp_len om,Big.cmp_lt om]) (ho:=oN) sN
  ·
   refine zx<|zc<|ze<|za<|e_p (zb rfl)<|zf<|zc<|zE<|zB ?_
   exact zy yF () trivial (zp rfl) (by rw [← Big.cmp_len om,Big.cmp_gt om]) (ho:=oN) sN
 ·
  replace hlen:(yg a).length=(yg b).length:=by omega
  refine zx<|zc<|ze<|ze<|za<|e_mv rfl<|e_p (zG yi rfl)<|e_p (zla (z:=((((yg a).length:Nat):Int) - 1)) rfl rfl (w64 om))<|e_p (zb rfl)<|zf<|zc<|zw<|zha (X:=Nat) (fun x:Nat=>x≤(yg a).length∧(yg a).drop x=(yg b).drop x) (fun x=>[(5,yd ye (((x:Nat):Int) - 1)),(0,.slice p1 ((yg a).length) c1),(1,.slice p2 ((yg b).length) c2)]) (fun x=>[]) (fun x=>[slF (rI .u32) p1 c1 (yg a),slF (rI .u32) p2 c2 (yg b)]) (fun x:Nat=>x) ((yg a).length) (show ((yg a).length)≤(yg a).length∧(yg a).drop ((yg a).length)=(yg b).drop ((yg a).length) from by exact ⟨Nat.le_refl _,by rw [List.drop_length,hlen,List.drop_length]⟩) ((.e rfl cgs (.c rfl (.c rfl .n))):SubM _ _) (ho:=oN) ((.of [0,1] rfl):SelR _ _ _) ?_
  rintro j hI
  replace hI:j≤(yg a).length∧(yg a).drop j=(yg b).drop j:=hI
  try dsimp only
  obtain ⟨hj,hd⟩:=hI
  refine ze<|ze<|za<|e_mv rfl<|e_p (zMa rfl rfl)<|zf<|zc<|zI rfl (fun h1=> ?_) (fun h1=> ?_)
  ·
   obtain ⟨k,rfl⟩:∃k,j=k+1:=⟨j - 1,by omega⟩
   have e2:(((((k+1):Nat):Int) - 1):Int)=((k:Nat):Int):=by omega
   rw [e2]
   refine zx<|zc<|ze<|zw<|ze<|ze<|zW (OW:=[]) (O:=[]) 100000 mixed (.then (.then (.block (.then (.then (.block (.then .ret))))))) kr<|e_dm 0 rfl rfl rfl<|e_dm 1 rfl rfl rfl<|zra (x0:=((yg a).getD k 0)) 2 rfl rfl kr kr 0 k rfl yi sz133 rfl rfl rfl cbs rfl rfl (gD (d:=0) om) (fun b3 o4 hok5=> ?_)
   replace hok5:=zA.1 hok5
   refine e_u 3 rfl rfl (zi (j:=0) 0 ty133 rfl rfl rfl rfl)<|e_dm 4 rfl rfl rfl<|e_dm 5 rfl rfl rfl<|zra (x0:=((yg b).getD k 0)) 6 rfl rfl kr kr 2 k rfl yi sz133 rfl rfl rfl cbs rfl rfl (gD (d:=0) om) (fun b6 o7 hok8=> ?_)
   replace hok8:=zA.1 hok8
   refine e_u 7 rfl rfl (zi (j:=0) 0 ty133 rfl rfl rfl rfl)<|e_pv 8 rfl rfl (zV rfl rfl)<|zN kr<|zc<|zI rfl (fun hlt=> ?_) (fun hlt=> ?_)
   ·
    refine ze<|za<|e_p (zb rfl)<|zf<|zc<|zE<|zB<|zia<|zB<|zB<|zia<|zB ?_
    exact zy yF () trivial (zp rfl) (by rw [← Big.cmp_at hlen om hd om,Big.cmp_lt om]) (ho:=oN) sN
   ·
    refine zx<|zc<|ze<|zW (OW:=[]) (O:=[]) 100000 mixed (.then (.block (.then (.then (.block (.then .ret)))))) kr<|e_dm 0 rfl rfl rfl<|e_dm 1 rfl rfl rfl<|zra (x0:=((yg a).getD k 0)) 2 rfl rfl kr kr 2 k rfl yi sz133 rfl rfl rfl cbs rfl rfl (gD (d:=0) om) (fun b9 o10 hok11=> ?_)
    replace hok11:=zA.1 hok11
    refine e_u 3 rfl rfl (zi (j:=0) 0 ty133 rfl rfl rfl rfl)<|e_dm 4 rfl rfl rfl<|e_dm 5 rfl rfl rfl<|zra (x0:=((yg b).getD k 0)) 6 rfl rfl kr kr 4 k rfl yi sz133 rfl rfl rfl cbs rfl rfl (gD (d:=0) om) (fun b12 o13 hok14=> ?_)
    replace hok14:=zA.1 hok14
    refine e_u 7 rfl rfl (zi (j:=0) 0 ty133 rfl rfl rfl rfl)<|e_pv 8 rfl rfl (zpa rfl rfl)<|zN kr<|zc<|zI rfl (fun hgt=> ?_) (fun hgt=> ?_)
    ·
     refine ze<|za<|e_p (zb rfl)<|zf<|zc<|zE<|zia<|zB<|zB<|zia<|zB ?_
     exact zy yF () trivial (zp rfl) (by rw [← Big.cmp_at hlen om hd om,Big.cmp_gt om]) (ho:=oN) sN
    ·
     refine zx<|zQ<|zc<|za<|e_mv rfl<|e_p (zla (z:=(((k:Nat):Int) - 1)) rfl rfl (w64 om))<|e_p (zb rfl)<|zf<|zca k (show k≤(yg a).length∧(yg a).drop k=(yg b).drop k from by exact ⟨by omega,Big.drop_more om om hd om⟩) (by show k<k+1;omega) (mR rfl) (ho:=oN) ((.of [4,5] rfl):SelR _ _ _)
  ·
   refine zda<|zj<|zj<|zu<|zc<|ze<|za<|e_p (zb rfl)<|zf<|zc<|zE ?_
   have hj0:j=0:=by omega
   subst hj0
   have heq:=Big.cmp_eq (show yg a=yg b by simpa using hd)
   exact zy yF () trivial (zp rfl) (by rw [heq] <;> simp [Big.cmp]) (ho:=oN) sN
theorem zMe {s:Bool} {p:Option Addr} {n:Nat} {cap:Nat} {l:List Int} (hn:l.length=n) (hln:n≤4398046511104):Con yl 83 [.agg #[.bool s,.slice p n cap]] [] [slF (rI .u32) p cap l] (Y:=(Option Addr)×Nat) (fun y=>True) (fun y=> .agg #[.bool (decide ((- yh s l)<0)),.slice (y.1) ((yg ((- yh s l).natAbs)).length) (y.2)]) (fun y=>[]) (fun y=>[slF (rI .u32) (y.1) (y.2) (yg ((- yh s l).natAbs))]):=by
 refine zl Tryz.func83 rfl rfl rfl (fun c=> ?_)
 show RunC _ _ _ _ _ [(0,.agg #[.bool s,.slice p n cap])] [] [slF (rI .u32) p cap l]
 refine zX 0 rfl (fun hL0=> ?_)
 refine zXa 0 rfl (fun hE0=> ?_)
 have hnn:yM l:=fun g hg=>(zA.1 (hE0 g hg)).1
 have hb:yq (yh s l)≤n:=by have:=yG (s:=s) hnn;omega
 unfold yq at hb
 refine ze<|za<|zD rfl rfl (zT rfl rfl) (fun b1=> ?_)
 refine zD rfl rfl (zo zr30 rfl) (fun b2=> ?_)
 refine zf<|zc<|ze<|za<|e_ru (zd 1 ty30 rfl rfl (.t2 .nil))<|zq rfl rfl (.c rfl .n) ce149 (zSa (s:=s) (p:=p) (n:=n) (cap:=cap) (l:=l) (hn:=ass) (hln:=ass)) (.c (j:=0) rfl .n) ?_
 rintro ⟨p23,c24⟩ -
 dsimp only [aq,nq,cq]
 refine zk 1 rfl rfl rfl rfl rfl sz30 rfl (.t2 .nil) (.s .z)<|zf<|zc<|ze<|za<|e_p (zh yj rfl sz4 rfl rfl)<|e_ru (zg 1 ty4 rfl rfl rfl)<|e_p (zcb rfl)<|e_p (zh yj rfl sz28 rfl rfl)<|e_ru (zg 1 ty28 rfl rfl rfl)<|zq rfl rfl (.c rfl (.c rfl .n)) ce168 (zkb (s:= !(decide ((yh s l)<0))) (a:=(yh s l).natAbs) (p:=p23) (cap:=c24) (hln:=cbb)) (.c (j:=0) rfl .n) ?_
 rintro ⟨p25,c26⟩ -
 dsimp only [aq,nq,cq]
 refine zk 0 rfl rfl rfl rfl rfl sz30 rfl (.t2 .nil) .z<|zf<|zc<|zE ?_
 have hz:yA (!decide (yh s l<0)) ((yh s l).natAbs:Int)= - yh s l:=by rw [Big.sg_not,Big.sg_big]
 exact zy Tryz.results83 (p25,c26) trivial (zn 0 ty30 rfl rfl (.t2 .nil)) (by rw [hz]) (ho:=oN) ((.e (j:=0) rfl (by rw [hz]) .n):SelR _ _ _)
theorem zNf {z:Int} {p:Option Addr} {cap:Nat} (hln:yq z≤4398046511104):Con yl 83 [.agg #[.bool (decide ((z)<0)),.slice (p) ((yg ((z).natAbs)).length) (cap)]] [] [slF (rI .u32) (p) (cap) (yg ((z).natAbs))] (Y:=(Option Addr)×(Nat)) (fun y=>True) (fun y=> .agg #[.bool (decide ((- z)<0)),.slice (y.1) ((yg ((- z).natAbs)).length) (y.2)]) (fun y=>[]) (fun y=>[slF (rI .u32) (y.1) (y.2) (yg ((- z).natAbs))]):=by
  have h:= @zMe (decide ((z)<0)) p (yg (z).natAbs).length cap (yg (z).natAbs) rfl hln
  rw [yw] at h
  exact h
theorem zVd {w1:Wd} {x1:Int} (hln:yq x1≤4398046511104):Con yl 83 [.agg #[w1.b,w1.l]] [] [zF w1 (x1)] (Y:=(Wd)) (fun y=>True) (fun y=> .agg #[y.b,y.l]) (fun y=>[]) (fun y=>[zF y (- x1)]):=by
  exact zSb (zgd (fun p c=>zNf hln))
theorem zWd {s:Bool} {p:Option Addr} {n:Nat} {cap:Nat} {l:List Int} (hn:l.length=n) (hln:n≤4398046511104):Con yl 62 [.agg #[.bool s,.slice p n cap]] [] [slF (rI .u32) p cap l] (Y:=Unit) (fun y=>True) (fun y=> yd ye ((yh s l).sign)) (fun y=>[]) (fun y=>[]):=by
 refine zl Tryz.func62 rfl rfl rfl (fun c=> ?_)
 show RunC _ _ _ _ _ [(0,.agg #[.bool s,.slice p n cap])] [] [slF (rI .u32) p cap l]
 refine zX 0 rfl (fun hL0=> ?_)
 refine zXa 0 rfl (fun hE0=> ?_)
 have hnn:yM l:=fun g hg=>(zA.1 (hE0 g hg)).1
 refine ze<|za<|zD rfl rfl (zT rfl rfl) (fun b1=> ?_)
 refine e_p (zb rfl)<|zf<|zc<|ze<|za<|e_ru (zd 0 ty30 rfl rfl (.t2 .nil))<|zq rfl rfl (.c rfl .n) ce149 (zSa (s:=s) (p:=p) (n:=n) (cap:=cap) (l:=l) (hn:=ass) (hln:=ass)) (.c (j:=0) rfl .n) ?_
 rintro ⟨p22,c23⟩ -
 dsimp only [aq,nq,cq]
 refine zk 0 rfl rfl rfl rfl rfl sz30 rfl (.t2 .nil) .z<|zf<|zc<|ze<|ze<|za<|e_p (zh yj rfl sz28 rfl rfl)<|e_ru (zg 0 ty28 rfl rfl rfl)<|e_p (zG yi rfl)<|e_p (zxa rfl rfl)<|zf<|zc<|zI rfl (fun h0=> ?_) (fun h0=> ?_)
 ·
  refine ze<|za<|e_p (zb rfl)<|zf<|zc<|zE<|zB ?_
  exact zy Tryz.results62 () trivial (zp rfl) (by rw [show yh s l=0 by have:=yK.1 (show (yg (yh s l).natAbs).length=0 by omega);omega];rfl) (ho:=oN) sN
 ·
  refine zx<|zc<|ze<|ze<|za<|e_p (zh yj rfl sz4 rfl rfl)<|e_ru (zg 0 ty4 rfl rfl rfl)<|zf<|zc<|zpc rfl (fun hs=> ?_) (fun hs=> ?_)
  ·
   refine ze<|za<|e_p (zb rfl)<|zf<|zc<|zE<|zB ?_
   exact zy Tryz.results62 () trivial (zp rfl) (by rw [Int.sign_eq_neg_one_of_neg (by simpa using hs)]) (ho:=oN) sN
  ·
   refine zx<|zc<|ze<|za<|e_p (zb rfl)<|zf<|zc<|zE ?_
   exact zy Tryz.results62 () trivial (zp rfl) (by rw [Int.sign_eq_one_of_pos (by have h2:¬yh s l<0:=(by simpa using hs);have:(yh s l).natAbs≠0:=(fun e=>h0 (by rw [e];rfl));omega)]) (ho:=oN) sN
theorem zjd {z:Int} {p:Option Addr} {cap:Nat} (hln:yq z≤4398046511104):Con yl 62 [.agg #[.bool (decide ((z)<0)),.slice (p) ((yg ((z).natAbs)).length) (cap)]] [] [slF (rI .u32) (p) (cap) (yg ((z).natAbs))] (Y:=Unit) (fun y=>True) (fun y=> yd ye ((z).sign)) (fun y=>[]) (fun y=>[]):=by
  have h:= @zWd (decide ((z)<0)) p (yg (z).natAbs).length cap (yg (z).natAbs) rfl hln
  rw [yw] at h
  exact h
theorem zvc {w1:Wd} {x1:Int} (hln:yq x1≤4398046511104):Con yl 62 [.agg #[w1.b,w1.l]] [] [zF w1 (x1)] (Y:=Unit) (fun y=>True) (fun y=> yd ye ((x1).sign)) (fun y=>[]) (fun y=>[]):=by
  exact zgd (fun p c=>zjd hln)
theorem zNe {s:Bool} {p1:Option Addr} {n1:Nat} {c1:Nat} {l1:List Int} {t:Bool} {p2:Option Addr} {n2:Nat} {c2:Nat} {l2:List Int} (hn1:l1.length=n1) (hn2:l2.length=n2) (hm1:n1≤4398046511104) (hm2:n2≤4398046511104):Con yl 158 [.agg #[.bool s,.slice p1 n1 c1],.agg #[.bool t,.slice p2 n2 c2]] [] [slF (rI .u32) p1 c1 l1,slF (rI .u32) p2 c2 l2] (Y:=(Option Addr)×Nat) (fun y=>True) (fun y=> .agg #[.bool (decide ((yh s l1+yh t l2)<0)),.slice (y.1) ((yg ((yh s l1+yh t l2).natAbs)).length) (y.2)]) (fun y=>[]) (fun y=>[slF (rI .u32) (y.1) (y.2) (yg ((yh s l1+yh t l2).natAbs))]):=by
 refine zl Tryz.func158 rfl rfl rfl (fun c=> ?_)
 show RunC _ _ _ _ _ [(0,.agg #[.bool s,.slice p1 n1 c1]),(1,.agg #[.bool t,.slice p2 n2 c2])] [] [slF (rI .u32) p1 c1 l1,slF (rI .u32) p2 c2 l2]
 refine zX 0 rfl (fun hL0=> ?_)
 refine zXa 0 rfl (fun hE0=> ?_)
 refine zX 1 rfl (fun hL1=> ?_)
 refine zXa 1 rfl (fun hE1=> ?_)
 have hnn1:yM l1:=fun g hg=>(zA.1 (hE0 g hg)).1
 have hnn2:yM l2:=fun g hg=>(zA.1 (hE1 g hg)).1
 have hb1:yq (yh s l1)≤n1:=by have:=yG (s:=s) hnn1;omega
 have hb2:yq (yh t l2)≤n2:=by have:=yG (s:=t) hnn2;omega
 unfold yq at hb1 hb2
 refine ze<|za<|zD rfl rfl (zT rfl rfl) (fun b1=> ?_)
 refine zD rfl rfl (zT rfl rfl) (fun b2=> ?_)
 refine zD rfl rfl (zo zr30 rfl) (fun b3=> ?_)
 refine zf<|zc<|ze<|zoa (.c (i:=2) rfl (.c (i:=1) rfl (.c (i:=0) rfl .n)))<|zW (OW:=[boxA b1 30 [.bool s,.slice p1 n1 c1],boxA b2 30 [.bool t,.slice p2 n2 c2]]) (O:=[boxA b3 30 [wz.b,wz.l]]) 4 mixed (.then .ret) kr<|e_uw 0 rfl rfl (zd 0 ty30 rfl rfl (.t2 .nil))<|e_uw 2 rfl rfl (zd 1 ty30 rfl rfl (.t2 .nil))<|e_one 1 (zv rfl rfl rfl rfl (.c rfl .n) ce149 (zSa (s:=s) (p:=p1) (n:=n1) (cap:=c1) (l:=l1) (hn:=ass) (hln:=ass)) (.c (j:=0) rfl .n) ?_)
 rintro ⟨p24,c25⟩ -
 dsimp only [aq,nq,cq]
 refine e_one 3 (zv rfl rfl rfl rfl (.c rfl .n) ce149 (zSa (s:=t) (p:=p2) (n:=n2) (cap:=c2) (l:=l2) (hn:=ass) (hln:=ass)) (.c (j:=2) rfl .n) ?_)
 rintro ⟨p26,c27⟩ -
 dsimp only [aq,nq,cq]
 refine e_one 4 (zr kr rfl rfl rfl rfl rfl sz30 rfl (.t2 .nil) ?_)
 refine zDa (zba (i:=1) rfl)<|e_one 5 (zr kr rfl rfl rfl rfl rfl sz30 rfl (.t2 .nil) ?_)
 refine zN kr<|zc<|ze<|ze<|za<|e_p (zh yj rfl sz4 rfl rfl)<|e_ru (zg 1 ty4 rfl rfl rfl)<|e_p (zh yj rfl sz4 rfl rfl)<|e_ru (zg 0 ty4 rfl rfl rfl)<|e_p (zKc yL rfl rfl)<|zf<|zc<|zI rfl (fun hst=> ?_) (fun hst=> ?_)
 ·
  refine ze<|zoa (.c (i:=2) rfl (.c (i:=0) rfl (.c (i:=0) rfl .n)))<|zW (OW:=[boxA b3 30 [wz.b,wz.l]]) (O:=[boxA b2 30 [.bool (decide ((yh t l2)<0)),.slice p26 ((yg ((yh t l2).natAbs)).length) c27],boxA b1 30 [.bool (decide ((yh s l1)<0)),.slice p24 ((yg ((yh s l1).natAbs)).length) c25]]) 8 mixed (.then (.then .ret)) kr<|e_pv 0 rfl rfl (zh yj rfl sz4 rfl rfl)<|e_uw 1 rfl rfl (zg 2 ty4 rfl rfl rfl)<|e_pv 2 rfl rfl (zh yj rfl sz28 rfl rfl)<|e_uw 3 rfl rfl (zg 2 ty28 rfl rfl rfl)<|e_pv 4 rfl rfl (zh yj rfl sz28 rfl rfl)<|e_uw 5 rfl rfl (zg 1 ty28 rfl rfl rfl)<|e_one 6 (zv rfl rfl rfl rfl (.c rfl (.c rfl .n)) ce224 (zMf (a:=(yh s l1).natAbs) (b:=(yh t l2).natAbs) (p1:=p24) (c1:=c25) (p2:=p26) (c2:=c27) (hb1:=by first|rfl|assumption|omega|(unfold yq;omega)|(simp;done)|(simp;omega)|(simp_all;done)) (hb2:=by first|rfl|assumption|omega|(unfold yq;omega)|(simp;done)|(simp;omega)|(simp_all;done))) (.c (j:=1) rfl (.c (j:=0) rfl .n)) ?_)
  rintro ⟨p38,c39⟩ -
  dsimp only [aq,nq,cq]
  refine e_one 7 (zv rfl rfl rfl rfl (.c rfl (.c rfl .n)) ce168 (zkb (s:=decide ((yh s l1)<0)) (a:=((yh s l1).natAbs)+((yh t l2).natAbs)) (p:=p38) (cap:=c39) (hln:=by have:=Big.len_add (yh s l1).natAbs (yh t l2).natAbs;omega)) (.c (j:=0) rfl .n) ?_)
  rintro ⟨p210,c211⟩ -
  dsimp only [aq,nq,cq]
  refine e_one 8 (zr kr rfl rfl rfl rfl rfl sz30 rfl (.t2 .nil) ?_)
  refine zN kr<|zc<|zE<|zB ?_
  have hz:=Big.add_same hst
  exact zy Tryz.results158 (p210,c211) trivial (zn 0 ty30 rfl rfl (.t2 .nil)) (by rw [hz]) (ho:=oN) ((.e (j:=0) rfl (by rw [hz]) .n):SelR _ _ _)
 ·
  refine zx<|zc<|ze<|ze<|za<|e_p (zh yj rfl sz28 rfl rfl)<|e_ru (zg 1 ty28 rfl rfl rfl)<|e_p (zh yj rfl sz28 rfl rfl)<|e_ru (zg 0 ty28 rfl rfl rfl)<|zJ rfl rfl (.c rfl (.c rfl .n)) ce225 (zUc (a:=(yh s l1).natAbs) (b:=(yh t l2).natAbs) (p1:=p24) (c1:=c25) (p2:=p26) (c2:=c27)) (.c (j:=1) rfl (.c (j:=0) rfl .n))<|e_p (zMa rfl rfl)<|zf<|zc<|zI rfl (fun hcmp=> ?_) (fun hcmp=> ?_)
  ·
   have hab:(yh t l2).natAbs≤(yh s l1).natAbs:=by have:=yO.1 hcmp;omega
   refine ze<|zoa (.c (i:=2) rfl (.c (i:=0) rfl (.c (i:=0) rfl .n)))<|zW (OW:=[boxA b3 30 [wz.b,wz.l]]) (O:=[boxA b2 30 [.bool (decide ((yh t l2)<0)),.slice p26 ((yg ((yh t l2).natAbs)).length) c27],boxA b1 30 [.bool (decide ((yh s l1)<0)),.slice p24 ((yg ((yh s l1).natAbs)).length) c25]]) 8 mixed (.then (.then .ret)) kr<|e_pv 0 rfl rfl (zh yj rfl sz4 rfl rfl)<|e_uw 1 rfl rfl (zg 2 ty4 rfl rfl rfl)<|e_pv 2 rfl rfl (zh yj rfl sz28 rfl rfl)<|e_uw 3 rfl rfl (zg 2 ty28 rfl rfl rfl)<|e_pv 4 rfl rfl (zh yj rfl sz28 rfl rfl)<|e_uw 5 rfl rfl (zg 1 ty28 rfl rfl rfl)<|e_one 6 (zv rfl rfl rfl rfl (.c rfl (.c rfl .n)) ce226 (zPb (a:=(yh s l1).natAbs) (b:=(yh t l2).natAbs) (p1:=p24) (c1:=c25) (p2:=p26) (c2:=c27) (hb1:=by first|rfl|assumption|omega|(unfold yq;omega)|(simp;done)|(simp;omega)|(simp_all;done)) (hb2:=by first|rfl|assumption|omega|(unfold yq;omega)|(simp;done)|(simp;omega)|(simp_all;done)) (hab:=by first|rfl|assumption|omega|(unfold yq;omega)|(simp;done)|(simp;omega)|(simp_all;done))) (.c (j:=1) rfl (.c (j:=0) rfl .n)) ?_)
   rintro ⟨p312,c313⟩ -
   dsimp only [aq,nq,cq]
   refine e_one 7 (zv rfl rfl rfl rfl (.c rfl (.c rfl .n)) ce168 (zkb (s:=decide ((yh s l1)<0)) (a:=((yh s l1).natAbs) - ((yh t l2).natAbs)) (p:=p312) (cap:=c313) (hln:=by have:=Big.len_sub (yh s l1).natAbs (yh t l2).natAbs;omega)) (.c (j:=0) rfl .n) ?_)
   rintro ⟨p214,c215⟩ -
   dsimp only [aq,nq,cq]
   refine e_one 8 (zr kr rfl rfl rfl rfl rfl sz30 rfl (.t2 .nil) ?_)
   refine zN kr<|zc<|zE<|zB ?_
   have hz:=Big.add_ge hst hab
   exact zy Tryz.results158 (p214,c215) trivial (zn 0 ty30 rfl rfl (.t2 .nil)) (by rw [hz]) (ho:=oN) ((.e (j:=0) rfl (by rw [hz]) .n):SelR _ _ _)
  ·
   have hab:(yh s l1).natAbs≤(yh t l2).natAbs:=by have:¬((yh t l2).natAbs:Int)≤(yh s l1).natAbs:=fun h=>hcmp (yO.2 h);omega
   refine zx<|zc<|ze<|zoa (.c (i:=2) rfl (.c (i:=0) rfl (.c (i:=0) rfl .n)))<|zW (OW:=[boxA b3 30 [wz.b,wz.l]]) (O:=[boxA b2 30 [.bool (decide ((yh t l2)<0)),.slice p26 ((yg ((yh t l2).natAbs)).length) c27],boxA b1 30 [.bool (decide ((yh s l1)<0)),.slice p24 ((yg ((yh s l1).natAbs)).length) c25]]) 8 mixed (.then .ret) kr<|e_pv 0 rfl rfl (zh yj rfl sz4 rfl rfl)<|e_uw 1 rfl rfl (zg 1 ty4 rfl rfl rfl)<|e_pv 2 rfl rfl (zh yj rfl sz28 rfl rfl)<|e_uw 3 rfl rfl (zg 1 ty28 rfl rfl rfl)<|e_pv 4 rfl rfl (zh yj rfl sz28 rfl rfl)<|e_uw 5 rfl rfl (zg 2 ty28 rfl rfl rfl)<|e_one 6 (zv rfl rfl rfl rfl (.c rfl (.c rfl .n)) ce226 (zPb (a:=(yh t l2).natAbs) (b:=(yh s l1).natAbs) (p1:=p26) (c1:=c27) (p2:=p24) (c2:=c25) (hb1:=by first|rfl|assumption|omega|(unfold yq;omega)|(simp;done)|(simp;omega)|(simp_all;done)) (hb2:=by first|rfl|assumption|omega|(unfold yq;omega)|(simp;done)|(simp;omega)|(simp_all;done)) (hab:=by first|rfl|assumption|omega|(unfold yq;omega)|(simp;done)|(simp;omega)|(simp_all;done))) (.c (j:=0) rfl (.c (j:=1) rfl .n)) ?_)
   rintro ⟨p316,c317⟩ -
   dsimp only [aq,nq,cq]
   refine e_one 7 (zv rfl rfl rfl rfl (.c rfl (.c rfl .n)) ce168 (zkb (s:=decide ((yh t l2)<0)) (a:=((yh t l2).natAbs) - ((yh s l1).natAbs)) (p:=p316) (cap:=c317) (hln:=by have:=Big.len_sub (yh t l2).natAbs (yh s l1).natAbs;omega)) (.c (j:=0) rfl .n) ?_)
   rintro ⟨p218,c219⟩ -
   dsimp only [aq,nq,cq]
   refine e_one 8 (zr kr rfl rfl rfl rfl rfl sz30 rfl (.t2 .nil) ?_)
   refine zN kr<|zc<|zE ?_
   have hz:=Big.add_lt hst hab
   exact zy Tryz.results158 (p218,c219) trivial (zn 0 ty30 rfl rfl (.t2 .nil)) (by rw [hz]) (ho:=oN) ((.e (j:=0) rfl (by rw [hz]) .n):SelR _ _ _)
theorem zOf {x1:Int} {x2:Int} {p1:Option Addr} {c1:Nat} {p2:Option Addr} {c2:Nat} (hb1:yq x1≤4398046511104) (hb2:yq x2≤4398046511104):Con yl 158 [.agg #[.bool (decide ((x1)<0)),.slice (p1) ((yg ((x1).natAbs)).length) (c1)],.agg #[.bool (decide ((x2)<0)),.slice (p2) ((yg ((x2).natAbs)).length) (c2)]] [] [slF (rI .u32) (p1) (c1) (yg ((x1).natAbs)),slF (rI .u32) (p2) (c2) (yg ((x2).natAbs))] (Y:=(Option Addr)×(Nat)) (fun y=>True) (fun y=> .agg #[.bool (decide ((x1+x2)<0)),.slice (y.1) ((yg ((x1+x2).natAbs)).length) (y.2)]) (fun y=>[]) (fun y=>[slF (rI .u32) (y.1) (y.2) (yg ((x1+x2).natAbs))]):=by
  have h:= @zNe (decide ((x1)<0)) p1 (yg (x1).natAbs).length c1 (yg (x1).natAbs) (decide ((x2)<0)) p2 (yg (x2).natAbs).length c2 (yg (x2).natAbs) rfl rfl hb1 hb2
  rw [yw,yw] at h
  exact h
theorem zPf {w1:Wd} {w2:Wd} {x1:Int} {x2:Int} (hb1:yq x1≤4398046511104) (hb2:yq x2≤4398046511104):Con yl 158 [.agg #[w1.b,w1.l],.agg #[w2.b,w2.l]] [] [zF w1 (x1),zF w2 (x2)] (Y:=(Wd)) (fun y=>True) (fun y=> .agg #[y.b,y.l]) (fun y=>[]) (fun y=>[zF y (x1+x2)]):=by
  exact zSb (zAc (fun p1 c1 p2 c2=>zOf hb1 hb2))
theorem zOe {s:Bool} {p1:Option Addr} {n1:Nat} {c1:Nat} {l1:List Int} {t:Bool} {p2:Option Addr} {n2:Nat} {c2:Nat} {l2:List Int} (hn1:l1.length=n1) (hn2:l2.length=n2) (hm1:n1≤4398046511104) (hm2:n2≤4398046511104):Con yl 217 [.agg #[.bool s,.slice p1 n1 c1],.agg #[.bool t,.slice p2 n2 c2]] [] [slF (rI .u32) p1 c1 l1,slF (rI .u32) p2 c2 l2] (Y:=(Option Addr)×Nat) (fun y=>True) (fun y=> .agg #[.bool (decide ((yh s l1 - yh t l2)<0)),.slice (y.1) ((yg ((yh s l1 - yh t l2).natAbs)).length) (y.2)]) (fun y=>[]) (fun y=>[slF (rI .u32) (y.1) (y.2) (yg ((yh s l1 - yh t l2).natAbs))]):=by
 refine zl Tryz.func217 rfl rfl rfl (fun c=> ?_)
 show RunC _ _ _ _ _ [(0,.agg #[.bool s,.slice p1 n1 c1]),(1,.agg #[.bool t,.slice p2 n2 c2])] [] [slF (rI .u32) p1 c1 l1,slF (rI .u32) p2 c2 l2]
 refine zX 0 rfl (fun hL0=> ?_)
 refine zXa 0 rfl (fun hE0=> ?_)
 refine zX 1 rfl (fun hL1=> ?_)
 refine zXa 1 rfl (fun hE1=> ?_)
 have hnn1:yM l1:=fun g hg=>(zA.1 (hE0 g hg)).1
 have hnn2:yM l2:=fun g hg=>(zA.1 (hE1 g hg)).1
 have hb1:yq (yh s l1)≤n1:=by have:=yG (s:=s) hnn1;omega
 have hb2:yq (yh t l2)≤n2:=by have:=yG (s:=t) hnn2;omega
 unfold yq at hb1 hb2
 refine ze<|za<|zD rfl rfl (zT rfl rfl) (fun b1=> ?_)
 refine zD rfl rfl (zT rfl rfl) (fun b2=> ?_)
 refine zD rfl rfl (zo zr30 rfl) (fun b3=> ?_)
 refine zf<|zc<|ze<|zW (OW:=[boxA b3 30 [wz.b,wz.l]]) (O:=[boxA b2 30 [.bool t,.slice p2 n2 c2],boxA b1 30 [.bool s,.slice p1 n1 c1]]) 4 mixed (.then .ret) kr<|e_uw 0 rfl rfl (zd 2 ty30 rfl rfl (.t2 .nil))<|e_uw 1 rfl rfl (zd 1 ty30 rfl rfl (.t2 .nil))<|e_one 2 (zv rfl rfl rfl rfl (.c rfl .n) ce83 (zMe (s:=t) (p:=p2) (n:=n2) (cap:=c2) (l:=l2) (hn:=ass) (hln:=ass)) (.c (j:=1) rfl .n) ?_)
 rintro ⟨p24,c25⟩ -
 dsimp only [aq,nq,cq]
 refine e_one 3 (zv rfl rfl rfl rfl (.c rfl (.c rfl .n)) ce158 (zNe (s:=s) (p1:=p1) (n1:=n1) (c1:=c1) (l1:=l1) (t:=decide ((- yh t l2)<0)) (p2:=p24) (n2:=(yg ((- yh t l2).natAbs)).length) (c2:=c25) (l2:=yg ((- yh t l2).natAbs)) (hn1:=ass) (hn2:=by first|rfl|assumption|omega|(rw [Int.natAbs_neg];omega)) (hm1:=ass) (hm2:=by first|rfl|assumption|omega|(rw [Int.natAbs_neg];omega))) (.c (j:=1) rfl (.c (j:=0) rfl .n)) ?_)
 rintro ⟨p36,c37⟩ -
 dsimp only [aq,nq,cq]
 refine e_one 4 (zr kr rfl rfl rfl rfl rfl sz30 rfl (.t2 .nil) ?_)
 refine zN kr<|zc<|zE ?_
 have hz:yh s l1+yh (decide ((- yh t l2)<0)) (yg (- yh t l2).natAbs)=yh s l1 - yh t l2:=by rw [yw];omega
 exact zy Tryz.results217 (p36,c37) trivial (zn 0 ty30 rfl rfl (.t2 .nil)) (by rw [hz]) (ho:=oN) ((.e (j:=0) rfl (by rw [hz]) .n):SelR _ _ _)
theorem znc {x1:Int} {x2:Int} {p1:Option Addr} {c1:Nat} {p2:Option Addr} {c2:Nat} (hb1:yq x1≤4398046511104) (hb2:yq x2≤4398046511104):Con yl 217 [.agg #[.bool (decide ((x1)<0)),.slice (p1) ((yg ((x1).natAbs)).length) (c1)],.agg #[.bool (decide ((x2)<0)),.slice (p2) ((yg ((x2).natAbs)).length) (c2)]] [] [slF (rI .u32) (p1) (c1) (yg ((x1).natAbs)),slF (rI .u32) (p2) (c2) (yg ((x2).natAbs))] (Y:=(Option Addr)×(Nat)) (fun y=>True) (fun y=> .agg #[.bool (decide ((x1 - x2)<0)),.slice (y.1) ((yg ((x1 - x2).natAbs)).length) (y.2)]) (fun y=>[]) (fun y=>[slF (rI .u32) (y.1) (y.2) (yg ((x1 - x2).natAbs))]):=by
  have h:= @zOe (decide ((x1)<0)) p1 (yg (x1).natAbs).length c1 (yg (x1).natAbs) (decide ((x2)<0)) p2 (yg (x2).natAbs).length c2 (yg (x2).natAbs) rfl rfl hb1 hb2
  rw [yw,yw] at h
  exact h
theorem ztg {s:Bool} {p1:Option Addr} {n1:Nat} {c1:Nat} {l1:List Int} {t:Bool} {p2:Option Addr} {n2:Nat} {c2:Nat} {l2:List Int} (hn1:l1.length=n1) (hn2:l2.length=n2) (hm1:n1≤4398046511104) (hm2:n2≤4398046511104):Con yl 127 [.agg #[.bool s,.slice p1 n1 c1],.agg #[.bool t,.slice p2 n2 c2]] [] [slF (rI .u32) p1 c1 l1,slF (rI .u32) p2 c2 l2] (Y:=(Option Addr)×Nat) (fun y=>True) (fun y=> .agg #[.bool (decide ((yh s l1*yh t l2)<0)),.slice (y.1) ((yg ((yh s l1*yh t l2).natAbs)).length) (y.2)]) (fun y=>[]) (fun y=>[slF (rI .u32) (y.1) (y.2) (yg ((yh s l1*yh t l2).natAbs))]):=by
 refine zl Tryz.func127 rfl rfl rfl (fun c=> ?_)
 show RunC _ _ _ _ _ [(0,.agg #[.bool s,.slice p1 n1 c1]),(1,.agg #[.bool t,.slice p2 n2 c2])] [] [slF (rI .u32) p1 c1 l1,slF (rI .u32) p2 c2 l2]
 refine zX 0 rfl (fun hL0=> ?_)
 refine zXa 0 rfl (fun hE0=> ?_)
 refine zX 1 rfl (fun hL1=> ?_)
 refine zXa 1 rfl (fun hE1=> ?_)
 have hnn1:yM l1:=fun g hg=>(zA.1 (hE0 g hg)).1
 have hnn2:yM l2:=fun g hg=>(zA.1 (hE1 g hg)).1
 have hb1:yq (yh s l1)≤n1:=by have:=yG (s:=s) hnn1;omega
 have hb2:yq (yh t l2)≤n2:=by have:=yG (s:=t) hnn2;omega
 unfold yq at hb1 hb2
 have hoa:=yt (yh s l1).natAbs
 have hob:=yt (yh t l2).natAbs
 refine ze<|za<|zD rfl rfl (zT rfl rfl) (fun b1=> ?_)
 refine zD rfl rfl (zT rfl rfl) (fun b2=> ?_)
 refine zD rfl rfl (zo zr30 rfl) (fun b3=> ?_)
 refine zf<|zc<|ze<|zoa (.c (i:=2) rfl (.c (i:=1) rfl (.c (i:=0) rfl .n)))<|zW (OW:=[boxA b1 30 [.bool s,.slice p1 n1 c1],boxA b2 30 [.bool t,.slice p2 n2 c2]]) (O:=[boxA b3 30 [wz.b,wz.l]]) 4 mixed (.then .ret) kr<|e_uw 0 rfl rfl (zd 0 ty30 rfl rfl (.t2 .nil))<|e_uw 2 rfl rfl (zd 1 ty30 rfl rfl (.t2 .nil))<|e_one 1 (zv rfl rfl rfl rfl (.c rfl .n) ce149 (zSa (s:=s) (p:=p1) (n:=n1) (cap:=c1) (l:=l1) (hn:=ass) (hln:=ass)) (.c (j:=0) rfl .n) ?_)
 rintro ⟨p24,c25⟩ -
 dsimp only [aq,nq,cq]
 refine e_one 3 (zv rfl rfl rfl rfl (.c rfl .n) ce149 (zSa (s:=t) (p:=p2) (n:=n2) (cap:=c2) (l:=l2) (hn:=ass) (hln:=ass)) (.c (j:=2) rfl .n) ?_)
 rintro ⟨p26,c27⟩ -
 dsimp only [aq,nq,cq]
 refine e_one 4 (zr kr rfl rfl rfl rfl rfl sz30 rfl (.t2 .nil) ?_)
 refine zDa (zba (i:=1) rfl)<|e_one 5 (zr kr rfl rfl rfl rfl rfl sz30 rfl (.t2 .nil) ?_)
 refine zN kr<|zc<|ze<|za<|e_p (zh yj rfl sz28 rfl rfl)<|e_ru (zg 1 ty28 rfl rfl rfl)<|e_p (zG yi rfl)<|e_p (zh yj rfl sz28 rfl rfl)<|e_ru (zg 0 ty28 rfl rfl rfl)<|e_p (zG yi rfl)<|e_p (zK (z:=(((((yg ((yh s l1).natAbs)).length)+((yg ((yh t l2).natAbs)).length)):Nat):Int)) rfl rfl (w64 om))<|zva rfl rfl (zKa (r:=rI .u32) (k:=(((yg ((yh s l1).natAbs)).length)+((yg ((yh t l2).natAbs)).length))) (x0:=0) (γ0:=()) yi inf133 rfl rfl rfl rfl om om rfl (fun g _=>by exact zA.2 dd) dd) (fun b8 _=> ?_)
 refine e_p (zb rfl)<|zf<|zc<|ze<|ze<|za<|e_p (zb rfl)<|zf<|zc<|zw<|zha (X:=Nat×(List Int)) (fun x:Nat×(List Int)=>x.1≤(yg (yh s l1).natAbs).length∧x.2.length=(yg (yh s l1).natAbs).length+(yg (yh t l2).natAbs).length∧yz x.2∧(∀k,x.1+(yg (yh t l2).natAbs).length≤k→x.2.getD k 0=0)∧yn x.2=yn ((yg (yh s l1).natAbs).take x.1)*yn (yg (yh t l2).natAbs)) (fun x=>[(6,yd ye ((x.1:Nat):Int)),(5,.slice (some ⟨b8,0,none⟩) (((yg ((yh s l1).natAbs)).length)+((yg ((yh t l2).natAbs)).length)) (((yg ((yh s l1).natAbs)).length)+((yg ((yh t l2).natAbs)).length))),(4,yf (some ⟨b3,0,none⟩)),(3,yf (some ⟨b2,0,none⟩)),(2,yf (some ⟨b1,0,none⟩))]) (fun x=>[rowA 133 (rI .u32) (some ⟨b8,0,none⟩) (((yg ((yh s l1).natAbs)).length)+((yg ((yh t l2).natAbs)).length)) (x.2),boxA b2 30 [.bool (decide ((yh t l2)<0)),.slice p26 ((yg ((yh t l2).natAbs)).length) c27],boxA b1 30 [.bool (decide ((yh s l1)<0)),.slice p24 ((yg ((yh s l1).natAbs)).length) c25],boxA b3 30 [wz.b,wz.l]]) (fun x=>[slF (rI .u32) p26 c27 (yg ((yh t l2).natAbs)),slF (rI .u32) p24 c25 (yg ((yh s l1).natAbs)),slF (rI .u32) p1 c1 l1,slF (rI .u32) p2 c2 l2]) (fun x:Nat×(List Int)=>(yg (yh s l1).natAbs).length - x.1) (0,List.replicate ((yg (yh s l1).natAbs).length+(yg (yh t l2).natAbs).length) 0) (show 0≤(yg (yh s l1).natAbs).length∧(List.replicate ((yg (yh s l1).natAbs).length+(yg (yh t l2).natAbs).length) 0).length=(yg (yh s l1).natAbs).length+(yg (yh t l2).natAbs).length∧yz (List.replicate ((yg (yh s l1).natAbs).length+(yg (yh t l2).natAbs).length) 0)∧(∀k,0+(yg (yh t l2).natAbs).length≤k→(List.replicate ((yg (yh s l1).natAbs).length+(yg (yh t l2).natAbs).length) 0).getD k 0=0)∧yn (List.replicate ((yg (yh s l1).natAbs).length+(yg (yh t l2).natAbs).length) 0)=yn ((yg (yh s l1).natAbs).take 0)*yn (yg (yh t l2).natAbs) from by exact ⟨by omega,by simp,Big.okL_zeros _,fun k _=>Big.getD_zeros _ k,by simp [Big.valL_zeros,yn]⟩) ((.e rfl cgs (.of rfl)):SubM _ _) (ho:=((.e (i:=0) rfl cgs (.of [0,0,0] rfl)):PickO _ _ _)) ((.of [0,1,2,3] rfl):SelR _ _ _) ?_
 rintro ⟨i,os⟩ hI
 replace hI:i≤(yg (yh s l1).natAbs).length∧os.length=(yg (yh s l1).natAbs).length+(yg (yh t l2).natAbs).length∧yz os∧(∀k,i+(yg (yh t l2).natAbs).length≤k→os.getD k 0=0)∧yn os=yn ((yg (yh s l1).natAbs).take i)*yn (yg (yh t l2).natAbs):=hI
 try dsimp only
 obtain ⟨hi,hol,hok,hz,hv⟩:=hI
 have hg1:=yu hoa i
 refine ze<|ze<|za<|e_mv rfl<|e_p (zh yj rfl sz28 rfl rfl)<|e_ru (zg 2 ty28 rfl rfl rfl)<|e_p (zG yi rfl)<|e_p (zV rfl rfl)<|zf<|zc<|zI rfl (fun h9=> ?_) (fun h9=> ?_)
 ·
  refine zx<|zc<|ze<|zw<|ze<|za<|e_p (zb rfl)<|zf<|zc<|ze<|ze<|za<|e_p (zb rfl)<|zf<|zc<|zw<|zha (X:=Nat×(List Int)×Int) (fun x:Nat×(List Int)×Int=>x.1≤(yg (yh t l2).natAbs).length∧x.2.1.length=(yg (yh s l1).natAbs).length+(yg (yh t l2).natAbs).length∧yz x.2.1∧0≤x.2.2∧x.2.2<1000000000∧(∀k,i+(yg (yh t l2).natAbs).length≤k→x.2.1.getD k 0=0)∧yn x.2.1+yN (i+x.1)*x.2.2=yn ((yg (yh s l1).natAbs).take i)*yn (yg (yh t l2).natAbs)+yN i*(yg (yh s l1).natAbs).getD i 0*yn ((yg (yh t l2).natAbs).take x.1)) (fun x=>[(7,.int .u64 (x.2.2)),(8,yd ye ((x.1:Nat):Int)),(6,yd ye ((i:Nat):Int)),(5,.slice (some ⟨b8,0,none⟩) (((yg ((yh s l1).natAbs)).length)+((yg ((yh t l2).natAbs)).length)) (((yg ((yh s l1).natAbs)).length)+((yg ((yh t l2).natAbs)).length))),(4,yf (some ⟨b3,0,none⟩)),(3,yf (some ⟨b2,0,none⟩)),(2,yf (some ⟨b1,0,none⟩))]) (fun x=>[rowA 133 (rI .u32) (some ⟨b8,0,none⟩) (((yg ((yh s l1).natAbs)).length)+((yg ((yh t l2).natAbs)).length)) (x.2.1),boxA b2 30 [.bool (decide ((yh t l2)<0)),.slice p26 ((yg ((yh t l2).natAbs)).length) c27],boxA b1 30 [.bool (decide ((yh s l1)<0)),.slice p24 ((yg ((yh s l1).natAbs)).length) c25],boxA b3 30 [wz.b,wz.l]]) (fun x=>[slF (rI .u32) p26 c27 (yg ((yh t l2).natAbs)),slF (rI .u32) p24 c25 (yg ((yh s l1).natAbs)),slF (rI .u32) p1 c1 l1,slF (rI .u32) p2 c2 l2]) (fun x:Nat×(List Int)×Int=>(yg (yh t l2).natAbs).length - x.1) (0,os,0) (show 0≤(yg (yh t l2).natAbs).length∧os.length=(yg (yh s l1).natAbs).length+(yg (yh t l2).natAbs).length∧yz os∧0≤0∧0<1000000000∧(∀k,i+(yg (yh t l2).natAbs).length≤k→os.getD k 0=0)∧yn os+yN (i+0)*0=yn ((yg (yh s l1).natAbs).take i)*yn (yg (yh t l2).natAbs)+yN i*(yg (yh s l1).natAbs).getD i 0*yn ((yg (yh t l2).natAbs).take 0) from by exact ⟨by omega,hol,hok,by decide,by decide,hz,by rw [hv];simp [yn]⟩) ((.c rfl (.e rfl cgs (.of rfl))):SubM _ _) (ho:=((.of [0,0,0,0] rfl):PickO _ _ _)) ((.of [0,1,2,3] rfl):SelR _ _ _) ?_
  rintro ⟨j,os2,cy⟩ hJ
  replace hJ:j≤(yg (yh t l2).natAbs).length∧os2.length=(yg (yh s l1).natAbs).length+(yg (yh t l2).natAbs).length∧yz os2∧0≤cy∧cy<1000000000∧(∀k,i+(yg (yh t l2).natAbs).length≤k→os2.getD k 0=0)∧yn os2+yN (i+j)*cy=yn ((yg (yh s l1).natAbs).take i)*yn (yg (yh t l2).natAbs)+yN i*(yg (yh s l1).natAbs).getD i 0*yn ((yg (yh t l2).natAbs).take j):=hJ
  try dsimp only
  obtain ⟨hj,hol2,hok2,hcy0,hcy1,hz2,hv2⟩:=hJ
  have hg2:=yu hob j
  have hg3:=yu hok2 (i+j)
  have hpq:=Big.mul_lim hg1 hg2
  refine ze<|ze<|za<|e_mv rfl<|e_p (zh yj rfl sz28 rfl rfl)<|e_ru (zg 1 ty28 rfl rfl rfl)<|e_p (zG yi rfl)<|e_p (zV rfl rfl)<|zf<|zc<|zI rfl (fun h10=> ?_) (fun h10=> ?_)
  ·
   refine zx<|zc<|ze<|zw<|ze<|zW (OW:=[]) (O:=[rowA 133 (rI .u32) (some ⟨b8,0,none⟩) (((yg ((yh s l1).natAbs)).length)+((yg ((yh t l2).natAbs)).length)) os2,boxA b2 30 [.bool (decide ((yh t l2)<0)),.slice p26 ((yg ((yh t l2).natAbs)).length) c27],boxA b1 30 [.bool (decide ((yh s l1)<0)),.slice p24 ((yg ((yh s l1).natAbs)).length) c25],boxA b3 30 [wz.b,wz.l]]) 100000 mixed (.then (.block (.then (.then (.block (.then (.block (.then (.then (.block (.then .ret))))))))))) kr<|e_dm 0 rfl rfl rfl<|e_dm 1 rfl rfl rfl<|e_dm 2 rfl rfl rfl<|e_pv 3 rfl rfl (zK (z:=(((i+j):Nat):Int)) rfl rfl (w64 om))<|e_pv 4 rfl rfl (zS (j:=(i+j)) yi sz133 rfl rfl rfl om)<|d_vl 5 rfl rfl kr kr rfl rfl (zL 0 (i+j) rfl ty133 rfl rfl (gD (d:=0) om) rfl) (fun _ hok11=> ?_)
   replace hok11:=zA.1 hok11
   refine e_pv 6 rfl rfl (zt (z:=(os2.getD (i+j) 0)) rfl (by rw [yp];rfl) yo (wu64 om))<|e_pv 7 rfl rfl (zh yj rfl sz28 rfl rfl)<|e_u 8 rfl rfl (zg 2 ty28 rfl rfl rfl)<|e_dm 9 rfl rfl rfl<|zra (x0:=((yg ((yh s l1).natAbs)).getD i 0)) 10 rfl rfl kr kr 1 i rfl yi sz133 rfl rfl rfl (by first|rfl|assumption|(simp;omega)|omega) rfl rfl (gD (d:=0) om) (fun b12 o13 hok14=> ?_)
   replace hok14:=zA.1 hok14
   refine e_u 11 rfl rfl (zi (j:=0) 0 ty133 rfl rfl rfl rfl)<|e_pv 12 rfl rfl (zt (z:=((yg ((yh s l1).natAbs)).getD i 0)) rfl (by rw [yp];rfl) yo (wu64 om))<|e_pv 13 rfl rfl (zh yj rfl sz28 rfl rfl)<|e_u 14 rfl rfl (zg 1 ty28 rfl rfl rfl)<|e_dm 15 rfl rfl rfl<|zra (x0:=((yg ((yh t l2).natAbs)).getD j 0)) 16 rfl rfl kr kr 1 j rfl yi sz133 rfl rfl rfl (by first|rfl|assumption|(simp;omega)|omega) rfl rfl (gD (d:=0) om) (fun b15 o16 hok17=> ?_)
   replace hok17:=zA.1 hok17
   refine e_u 17 rfl rfl (zi (j:=0) 0 ty133 rfl rfl rfl rfl)<|e_pv 18 rfl rfl (zt (z:=((yg ((yh t l2).natAbs)).getD j 0)) rfl (by rw [yp];rfl) yo (wu64 om))<|e_pv 19 rfl rfl (zua (z:=(((yg ((yh s l1).natAbs)).getD i 0)*((yg ((yh t l2).natAbs)).getD j 0))) rfl rfl (wu64 om))<|e_pv 20 rfl rfl (zK (z:=((os2.getD (i+j) 0)+(((yg ((yh s l1).natAbs)).getD i 0)*((yg ((yh t l2).natAbs)).getD j 0)))) rfl rfl (wu64 om))<|e_dm 21 rfl rfl rfl<|e_pv 22 rfl rfl (zK (z:=(((os2.getD (i+j) 0)+(((yg ((yh s l1).natAbs)).getD i 0)*((yg ((yh t l2).natAbs)).getD j 0)))+cy)) rfl rfl (wu64 om))<|e_pv 23 rfl rfl (zb rfl)<|zN kr<|zc<|ze<|za<|e_mv rfl<|e_mv rfl<|e_mv rfl<|e_p (zK (z:=(((i+j):Nat):Int)) rfl rfl (w64 om))<|e_mv rfl<|e_p (zbb (z:=((((os2.getD (i+j) 0)+(((yg ((yh s l1).natAbs)).getD i 0)*((yg ((yh t l2).natAbs)).getD j 0)))+cy)%1000000000)) rfl rfl om (remN om om))<|e_p (zt (z:=((((os2.getD (i+j) 0)+(((yg ((yh s l1).natAbs)).getD i 0)*((yg ((yh t l2).natAbs)).getD j 0)))+cy)%1000000000)) rfl (by rw [yo];rfl) yp (wu32 om))<|e_p (zS (j:=(i+j)) yi sz133 rfl rfl rfl om)<|zEa 0 rfl rfl rfl (zO (j:=(i+j)) (x0:=((((os2.getD (i+j) 0)+(((yg ((yh s l1).natAbs)).getD i 0)*((yg ((yh t l2).natAbs)).getD j 0)))+cy)%1000000000)) (γ0:=()) rfl rfl (by first|omega|(rw [List.length_map];omega)|(simp only [List.length_set];omega)|(simp;done)|(simp;omega)) rfl rfl sz133 (fun _ _=>by exact zA.2 om)) (fun _=> .z) (fun _ _=> ?_)
   refine zf<|zc<|za<|e_mv rfl<|e_p (zfb (z:=((((os2.getD (i+j) 0)+(((yg ((yh s l1).natAbs)).getD i 0)*((yg ((yh t l2).natAbs)).getD j 0)))+cy) / 1000000000)) rfl rfl om (by rw [quoN (z:=((((os2.getD (i+j) 0)+(((yg ((yh s l1).natAbs)).getD i 0)*((yg ((yh t l2).natAbs)).getD j 0)))+cy) / 1000000000)) om om];exact wu64 om))<|e_p (zb rfl)<|zf<|zQ<|zc<|za<|e_mv rfl<|e_p (zK (z:=(((j+1):Nat):Int)) rfl rfl (w64 om))<|e_p (zb rfl)<|zf<|zca ((j+1),os2.set (i+j) ((os2.getD (i+j) 0+(yg (yh s l1).natAbs).getD i 0*(yg (yh t l2).natAbs).getD j 0+cy)%1000000000),(os2.getD (i+j) 0+(yg (yh s l1).natAbs).getD i 0*(yg (yh t l2).natAbs).getD j 0+cy) / 1000000000) (show (j+1)≤(yg (yh t l2).natAbs).length∧(os2.set (i+j) ((os2.getD (i+j) 0+(yg (yh s l1).natAbs).getD i 0*(yg (yh t l2).natAbs).getD j 0+cy)%1000000000)).length=(yg (yh s l1).natAbs).length+(yg (yh t l2).natAbs).length∧yz (os2.set (i+j) ((os2.getD (i+j) 0+(yg (yh s l1).natAbs).getD i 0*(yg (yh t l2).natAbs).getD j 0+cy)%1000000000))∧0≤((os2.getD (i+j) 0+(yg (yh s l1).natAbs).getD i 0*(yg (yh t l2).natAbs).getD j 0+cy) / 1000000000)∧((os2.getD (i+j) 0+(yg (yh s l1).natAbs).getD i 0*(yg (yh t l2).natAbs).getD j 0+cy) / 1000000000)<1000000000∧(∀k,i+(yg (yh t l2).natAbs).length≤k→(os2.set (i+j) ((os2.getD (i+j) 0+(yg (yh s l1).natAbs).getD i 0*(yg (yh t l2).natAbs).getD j 0+cy)%1000000000)).getD k 0=0)∧yn (os2.set (i+j) ((os2.getD (i+j) 0+(yg (yh s l1).natAbs).getD i 0*(yg (yh t l2).natAbs).getD j 0+cy)%1000000000))+yN (i+(j+1))*((os2.getD (i+j) 0+(yg (yh s l1).natAbs).getD i 0*(yg (yh t l2).natAbs).getD j 0+cy) / 1000000000)=yn ((yg (yh s l1).natAbs).take i)*yn (yg (yh t l2).natAbs)+yN i*(yg (yh s l1).natAbs).getD i 0*yn ((yg (yh t l2).natAbs).take (j+1)) from by exact ⟨by omega,by simpa using hol2,Big.okL_set hok2 om om,by omega,by omega,fun k hk=>by rw [Big.getD_set_ne om];exact hz2 k om,Big.mul_step hv2 om om⟩) (by show (yg (yh t l2).natAbs).length - (j+1)<(yg (yh t l2).natAbs).length - j;omega) ((.e rfl cgs (.of rfl)):SubM _ _) (ho:=((.e (i:=0) rfl cgs (.of [0,0,0] rfl)):PickO _ _ _)) ((.of [2,3,4,5] rfl):SelR _ _ _)
  ·
   have hjb:j=(yg (yh t l2).natAbs).length:=by omega
   subst hjb
   have hv3:=hv2
   refine zda<|zj<|zj<|zu<|zc<|za<|e_mv rfl<|e_mv rfl<|e_p (zh yj rfl sz28 rfl rfl)<|e_ru (zg 1 ty28 rfl rfl rfl)<|e_p (zG yi rfl)<|e_p (zK (z:=(((i+((yg ((yh t l2).natAbs)).length)):Nat):Int)) rfl rfl (w64 om))<|e_mv rfl<|e_p (zt (z:=cy) rfl (by rw [yo];rfl) yp (wu32 om))<|e_p (zS (j:=(i+((yg ((yh t l2).natAbs)).length))) yi sz133 rfl rfl rfl om)<|zEa 0 rfl rfl rfl (zO (j:=(i+((yg ((yh t l2).natAbs)).length))) (x0:=cy) (γ0:=()) rfl rfl (by first|omega|(rw [List.length_map];omega)|(simp only [List.length_set];omega)|(simp;done)|(simp;omega)) rfl rfl sz133 (fun _ _=>by exact zA.2 om)) (fun _=> .z) (fun _ _=> ?_)
   refine zf<|zQ<|zc<|za<|e_mv rfl<|e_p (zK (z:=(((i+1):Nat):Int)) rfl rfl (w64 om))<|e_p (zb rfl)<|zf<|zca ((i+1),os2.set (i+(yg (yh t l2).natAbs).length) cy) (show (i+1)≤(yg (yh s l1).natAbs).length∧(os2.set (i+(yg (yh t l2).natAbs).length) cy).length=(yg (yh s l1).natAbs).length+(yg (yh t l2).natAbs).length∧yz (os2.set (i+(yg (yh t l2).natAbs).length) cy)∧(∀k,(i+1)+(yg (yh t l2).natAbs).length≤k→(os2.set (i+(yg (yh t l2).natAbs).length) cy).getD k 0=0)∧yn (os2.set (i+(yg (yh t l2).natAbs).length) cy)=yn ((yg (yh s l1).natAbs).take (i+1))*yn (yg (yh t l2).natAbs) from by exact ⟨by omega,by simpa using hol2,Big.okL_set hok2 om om,fun k hk=>by rw [Big.getD_set_ne om];exact hz2 k om,Big.mul_round hv3 om (hz2 _ (Nat.le_refl _))⟩) (by show (yg (yh s l1).natAbs).length - (i+1)<(yg (yh s l1).natAbs).length - i;omega) (mR rfl) (ho:=((.e (i:=0) rfl cgs (.of [0,0,0] rfl)):PickO _ _ _)) ((.of [0,1,2,3] rfl):SelR _ _ _)
 ·
  have hia:i=(yg (yh s l1).natAbs).length:=by omega
  have hfin:yA (decide (decide (yh s l1<0)≠decide (yh t l2<0))) (yn os)=yh s l1*yh t l2:=by rw [hv,hia,List.take_length,yD,yD,←Int.natCast_mul,Big.sg_mul,Big.sg_big,Big.sg_big]
  refine zda<|zj<|zj<|zu<|zc<|ze<|za<|e_p (zh yj rfl sz4 rfl rfl)<|e_ru (zg 2 ty4 rfl rfl rfl)<|e_p (zh yj rfl sz4 rfl rfl)<|e_ru (zg 1 ty4 rfl rfl rfl)<|e_p (zNa yL rfl rfl)<|e_mv rfl<|zea 0 rfl .z<|zq rfl rfl (.c rfl (.c rfl .n)) ce168 (zJa (s:=decide (decide ((yh s l1)<0)≠decide ((yh t l2)<0))) (p:=some ⟨b8,0,none⟩) (n:=(((yg ((yh s l1).natAbs)).length)+((yg ((yh t l2).natAbs)).length))) (cap:=(((yg ((yh s l1).natAbs)).length)+((yg ((yh t l2).natAbs)).length))) (l:=os) (hn:=by first|rfl|assumption|omega|(unfold yq;omega)|(simp;done)|(simp;omega)|(simp_all;done)) (ho:=by exact hok) (hln:=by first|rfl|assumption|omega|(unfold yq;omega)|(simp;done)|(simp;omega)|(simp_all;done))) (.c (j:=0) rfl .n) ?_
  rintro ⟨p218,c219⟩ -
  dsimp only [aq,nq,cq]
  refine zk 3 rfl rfl rfl rfl rfl sz30 rfl (.t2 .nil) (.s (.s (.s .z)))<|zf<|zc<|zE ?_
  exact zy Tryz.results127 (p218,c219) trivial (zn 3 ty30 rfl rfl (.t2 .nil)) (by rw [hfin]) (ho:=oN) ((.e (j:=0) rfl (by rw [hfin]) .n):SelR _ _ _)
theorem zoc {x1:Int} {x2:Int} {p1:Option Addr} {c1:Nat} {p2:Option Addr} {c2:Nat} (hb1:yq x1≤4398046511104) (hb2:yq x2≤4398046511104):Con yl 127 [.agg #[.bool (decide ((x1)<0)),.slice (p1) ((yg ((x1).natAbs)).length) (c1)],.agg #[.bool (decide ((x2)<0)),.slice (p2) ((yg ((x2).natAbs)).length) (c2)]] [] [slF (rI .u32) (p1) (c1) (yg ((x1).natAbs)),slF (rI .u32) (p2) (c2) (yg ((x2).natAbs))] (Y:=(Option Addr)×(Nat)) (fun y=>True) (fun y=> .agg #[.bool (decide ((x1*x2)<0)),.slice (y.1) ((yg ((x1*x2).natAbs)).length) (y.2)]) (fun y=>[]) (fun y=>[slF (rI .u32) (y.1) (y.2) (yg ((x1*x2).natAbs))]):=by
  have h:= @ztg (decide ((x1)<0)) p1 (yg (x1).natAbs).length c1 (yg (x1).natAbs) (decide ((x2)<0)) p2 (yg (x2).natAbs).length c2 (yg (x2).natAbs) rfl rfl hb1 hb2
  rw [yw,yw] at h
  exact h
theorem zVc {w1:Wd} {w2:Wd} {x1:Int} {x2:Int} (hb1:yq x1≤4398046511104) (hb2:yq x2≤4398046511104):Con yl 127 [.agg #[w1.b,w1.l],.agg #[w2.b,w2.l]] [] [zF w1 (x1),zF w2 (x2)] (Y:=(Wd)) (fun y=>True) (fun y=> .agg #[y.b,y.l]) (fun y=>[]) (fun y=>[zF y (x1*x2)]):=by
  exact zSb (zAc (fun p1 c1 p2 c2=>zoc hb1 hb2))
end Go.Proofs.YtpdbimfnhglhpaaGreat.Sp
namespace Go.Proofs.YtpdbimfnhglhpaaGreat.Sp
open Go
set_option linter.unusedVariables false
set_option maxRecDepth 100000
set_option maxHeartbeats 8000000
theorem zYb {a:Nat} {d:Nat} {p0:Option Addr} {cap:Nat} (hb:(yg a).length≤4398046511104) (hd:d<1000000000):Con yl 252 [.slice p0 ((yg a).length) cap,.int .u64 ((d:Nat):Int)] [] [slF (rI .u32) p0 cap (yg a)] (Y:=(Option Addr)×Nat) (fun y=>True) (fun y=> .slice (y.1) ((yg (a*d)).length) (y.2)) (fun y=>[]) (fun y=>[slF (rI .u32) (y.1) (y.2) (yg (a*d))]):=by
 refine zl Tryz.func252 rfl rfl rfl (fun c=> ?_)
 show RunC _ _ _ _ _ [(0,.slice p0 ((yg a).length) cap),(1,.int .u64 ((d:Nat):Int))] [] [slF (rI .u32) p0 cap (yg a)]
 refine zX 0 rfl (fun hL0=> ?_)
 refine ze<|za<|e_p (zb rfl)<|zf<|zc<|ze<|za<|zva rfl rfl (zta (rI .u32) yi inf133) (fun b1 _=> ?_)
 refine e_p (zb rfl)<|zf<|zc<|ze<|za<|e_p (zb rfl)<|zf<|zc<|ze<|ze<|za<|e_p (zb rfl)<|zf<|zc<|zw<|zha (X:=Nat×(Option Addr)×Nat×(List Int)×Int) (fun x:Nat×(Option Addr)×Nat×(List Int)×Int=>Big.ScI (yg a) (d:Int) x.1 x.2.2.2.1 x.2.2.2.2) (fun x=>[(6,.int .u64 (x.2.2.2.2)),(5,.slice (x.2.1) (x.2.2.2.1.length) (x.2.2.1)),(7,yd ye ((x.1:Nat):Int)),(4,.slice none 0 0),(0,.slice p0 ((yg a).length) cap),(1,.int .u64 ((d:Nat):Int))]) (fun x=>[rowA 133 (rI .u32) (x.2.1) (x.2.2.1) (x.2.2.2.1)]) (fun x=>[slF (rI .u32) p0 cap (yg a)]) (fun x:Nat×(Option Addr)×Nat×(List Int)×Int=>(yg a).length - x.1) (0,some ⟨b1,0,none⟩,0,[],0) (show Big.ScI (yg a) (d:Int) 0 ([]) 0 from by exact Big.ScI.start _ _) ((.c rfl (.e rfl cgs (.e rfl cgs (.of rfl)))):SubM _ _) (ho:=(o0 rfl)) (s0 rfl) ?_
 rintro ⟨i,p,c,os,cy⟩ hI
 replace hI:Big.ScI (yg a) (d:Int) i os cy:=hI
 try dsimp only
 have hi:=hI.le
 have hol:=hI.len
 have hc0:=hI.c0
 have hc1:=hI.c1
 have hg:=yu (yt a) i
 have hsl:=Big.sc_lim hg (show 0≤(d:Int)∧(d:Int)<1000000000 by omega) ⟨hc0,hc1⟩
 refine ze<|ze<|za<|e_mv rfl<|e_mv rfl<|e_p (zG yi rfl)<|e_p (zV rfl rfl)<|zf<|zc<|zI rfl (fun h2=> ?_) (fun h2=> ?_)
 ·
  refine zx<|zc<|ze<|zw<|ze<|za<|e_mv rfl<|e_mv rfl<|zZ (x0:=((yg a).getD i 0)) 0 i rfl yi sz133 rfl rfl rfl (by first|rfl|assumption|(simp;done)|(simp;omega)|omega) rfl rfl (gD (d:=0) om) (fun b3 o4 hok5=> ?_)
  replace hok5:=zA.1 hok5
  refine e_ru (zi (j:=0) 0 ty133 rfl rfl rfl rfl)<|e_p (zt (z:=((yg a).getD i 0)) rfl (by rw [yp];rfl) yo (wu64 om))<|e_mv rfl<|e_p (zua (z:=(((yg a).getD i 0)*((d:Nat):Int))) rfl rfl (wu64 om))<|e_mv rfl<|e_p (zK (z:=((((yg a).getD i 0)*((d:Nat):Int))+cy)) rfl rfl (wu64 om))<|e_p (zb rfl)<|zf<|zc<|ze<|za<|e_mv rfl<|e_mv rfl<|e_p (zbb (z:=(((((yg a).getD i 0)*((d:Nat):Int))+cy)%1000000000)) rfl rfl om (remN om om))<|e_p (zt (z:=(((((yg a).getD i 0)*((d:Nat):Int))+cy)%1000000000)) rfl (by rw [yo];rfl) yp (wu32 om))<|zva rfl rfl (zH (enc:=fun z:Int=>[.int .u32 z]) (ok:=InK .u32) (h1:=fun _=>rfl) (h2:=fun _=>rfl) (k:=1) yi inf133 rfl dd dd dd (.c (x:=(((((yg a).getD i 0)*((d:Nat):Int))+cy)%1000000000)) rfl rfl (fun _ _=>by exact zA.2 om) .n)) (fun b6 _=> ?_)
  refine zea 0 rfl .z<|zEa 1 rfl rfl rfl (zCa 0 rfl yi inf133 dd rfl rfl (by first|rfl|assumption|(simp;done)|(simp;omega)|omega) rfl (by first|rfl|assumption|(simp;done)|(simp;omega)|omega) om om) (fun _=>(.s .z)) ?_
  rintro ⟨p7,c8⟩ -
  dsimp only [aq,nq,cq]
  refine e_p (zb rfl)<|zf<|zc<|za<|e_mv rfl<|e_p (zfb (z:=(((((yg a).getD i 0)*((d:Nat):Int))+cy) / 1000000000)) rfl rfl om (by rw [quoN (z:=(((((yg a).getD i 0)*((d:Nat):Int))+cy) / 1000000000)) om om];exact wu64 om))<|e_p (zb rfl)<|zf<|zQ<|zc<|za<|e_mv rfl<|e_p (zK (z:=(((i+1):Nat):Int)) rfl rfl (w64 om))<|e_p (zb rfl)<|zf<|zca ((i+1),p7,c8,os++[((yg a).getD i 0*(d:Int)+cy)%1000000000],((yg a).getD i 0*(d:Int)+cy) / 1000000000) (show Big.ScI (yg a) (d:Int) (i+1) (os++[((yg a).getD i 0*(d:Int)+cy)%1000000000]) (((yg a).getD i 0*(d:Int)+cy) / 1000000000) from by exact hI.step (yt a) om om) (by show (yg a).length - (i+1)<(yg a).length - i;omega) ((.e rfl cgs (.e rfl (by simp) (.of rfl))):SubM _ _) (ho:=((.e (i:=1) rfl cgs .n):PickO _ _ _)) ((.c (j:=2) rfl .n):SelR _ _ _)
 ·
  obtain ⟨hok2,hfin⟩:=hI.fin om
  refine zda<|zj<|zj<|zu<|zc<|ze<|za<|e_mv rfl<|e_mv rfl<|e_p (zt (z:=cy) rfl (by rw [yo];rfl) yp (wu32 om))<|zva rfl rfl (zH (enc:=fun z:Int=>[.int .u32 z]) (ok:=InK .u32) (h1:=fun _=>rfl) (h2:=fun _=>rfl) (k:=1) yi inf133 rfl dd dd dd (.c (x:=cy) rfl rfl (fun _ _=>by exact zA.2 om) .n)) (fun b9 _=> ?_)
  refine zea 0 rfl .z<|zEa 1 rfl rfl rfl (zCa 0 rfl yi inf133 dd rfl rfl (by first|rfl|assumption|(simp;done)|(simp;omega)|omega) rfl (by first|rfl|assumption|(simp;done)|(simp;omega)|omega) om om) (fun _=>(.s .z)) ?_
  rintro ⟨p10,c11⟩ -
  dsimp only [aq,nq,cq]
  refine zea 1 rfl (.s .z)<|zq rfl rfl (.c rfl (.c rfl .n)) ce168 (zJa (s:=false) (p:=p10) (n:=os.length+1) (cap:=c11) (l:=(os++([cy]))) (hn:=by first|rfl|omega|(simp;done)|(simp;omega)) (ho:=by exact hok2) (hln:=by first|rfl|omega|(simp;done)|(simp;omega))) (.c (j:=0) rfl .n) ?_
  rintro ⟨p212,c213⟩ -
  dsimp only [aq,nq,cq]
  refine e_p (zza yj rfl ty28 rfl rfl)<|e_p (zb rfl)<|zf<|zc<|zE ?_
  have hz:(yA false (yn (os++[cy]))).natAbs=a*d:=by rw [hfin];exact Int.natAbs_natCast _
  exact zy Tryz.results252 (p212,c213) trivial (zp rfl) (by rw [hz]) (ho:=oN) ((.e (j:=0) rfl (by rw [hz]) .n):SelR _ _ _)
theorem zXd {a:Nat} {d:Nat} {p0:Option Addr} {cap:Nat} (hb:(yg a).length≤4398046511104) (hd:d<1000000000):Con yl 253 [.slice p0 ((yg a).length) cap,.int .u32 ((d:Nat):Int)] [] [slF (rI .u32) p0 cap (yg a)] (Y:=(Option Addr)×Nat) (fun y=>True) (fun y=> .slice (y.1) ((yg (a*1000000000+d)).length) (y.2)) (fun y=>[]) (fun y=>[slF (rI .u32) (y.1) (y.2) (yg (a*1000000000+d))]):=by
 refine zl Tryz.func253 rfl rfl rfl (fun c=> ?_)
 show RunC _ _ _ _ _ [(0,.slice p0 ((yg a).length) cap),(1,.int .u32 ((d:Nat):Int))] [] [slF (rI .u32) p0 cap (yg a)]
 refine zX 0 rfl (fun hL0=> ?_)
 have hok2:yz ([((d:Nat):Int)]++yg a):=Big.okL_cons.2 ⟨by omega,yt a⟩
 have hz:(yA false (yn (((d:Nat):Int) :: yg a))).natAbs=a*1000000000+d:=by rw [yT (yE (l:=((d:Nat):Int) :: yg a) hok2)];simp only [yn,yD];omega
 refine ze<|za<|e_p (zb rfl)<|zf<|zc<|ze<|za<|e_mv rfl<|zva rfl rfl (zH (enc:=fun z:Int=>[.int .u32 z]) (ok:=InK .u32) (h1:=fun _=>rfl) (h2:=fun _=>rfl) (k:=1) yi inf133 rfl dd dd dd (.c (x:=((d:Nat):Int)) rfl rfl (fun _ _=>by exact zA.2 om) .n)) (fun b1 _=> ?_)
 refine e_mv rfl<|zEa 0 rfl rfl rfl (zCa 0 rfl yi inf133 dd rfl rfl (by first|rfl|assumption|(simp;done)|(simp;omega)|omega) rfl (by first|rfl|assumption|(simp;done)|(simp;omega)|omega) om om) (fun _=> .z) ?_
 rintro ⟨p2,c3⟩ -
 dsimp only [aq,nq,cq]
 refine zea 0 rfl .z<|zq rfl rfl (.c rfl (.c rfl .n)) ce168 (zJa (s:=false) (p:=p2) (n:=1+((yg a).length)) (cap:=c3) (l:=(([((d:Nat):Int)])++(yg a))) (hn:=by first|rfl|omega|(simp;done)|(simp;omega)) (ho:=by exact hok2) (hln:=by first|rfl|omega|(simp;done)|(simp;omega))) (.c (j:=0) rfl .n) ?_
 rintro ⟨p24,c25⟩ -
 dsimp only [aq,nq,cq]
 refine e_p (zza yj rfl ty28 rfl rfl)<|e_p (zb rfl)<|zf<|zc<|zE ?_
 exact zy Tryz.results253 (p24,c25) trivial (zp rfl) (by rw [hz]) (ho:=oN) ((.e (j:=0) rfl (by rw [hz]) .n):SelR _ _ _)
theorem zkd {a:Nat} {mm:Nat} {p:Option Addr} {cap:Nat} (hb:(yg a).length≤4398046511104) (hm0:0<mm) (hm1:mm≤1000000000):Con yl 251 [.slice p ((yg a).length) cap,.int .u64 ((mm:Nat):Int)] [] [slF (rI .u32) p cap (yg a)] (Y:=(Option Addr)×Nat) (fun y=>True) (fun y=> .tuple #[.slice (y.1) ((yg (a / mm)).length) (y.2),.int .u64 (((a%mm):Nat):Int)]) (fun y=>[]) (fun y=>[slF (rI .u32) (y.1) (y.2) (yg (a / mm))]):=by
 refine zl Tryz.func251 rfl rfl rfl (fun c=> ?_)
 show RunC _ _ _ _ _ [(0,.slice p ((yg a).length) cap),(1,.int .u64 ((mm:Nat):Int))] [] [slF (rI .u32) p cap (yg a)]
 refine zX 0 rfl (fun hL0=> ?_)
 refine ze<|za<|e_p (zb rfl)<|e_p (zb rfl)<|zf<|zc<|ze<|za<|e_mv rfl<|e_p (zG yi rfl)<|zva rfl rfl (zKa (r:=rI .u32) (k:=(yg a).length) (x0:=0) (γ0:=()) yi inf133 rfl rfl rfl rfl om om rfl (fun g _=>by exact zA.2 dd) dd) (fun b1 _=> ?_)
 refine e_p (zb rfl)<|zf<|zc<|ze<|za<|e_p (zb rfl)<|zf<|zc<|ze<|ze<|za<|e_mv rfl<|e_p (zG yi rfl)<|e_p (zla (z:=((((yg a).length:Nat):Int) - 1)) rfl rfl (w64 om))<|e_p (zb rfl)<|zf<|zc<|zw<|zha (X:=Nat×(List Int)×(List Int)×Int) (fun x:Nat×(List Int)×(List Int)×Int=>x.2.1=List.replicate x.1 0++x.2.2.1∧Big.ShI (yg a) (mm:Int) x.1 x.2.2.1 x.2.2.2) (fun x=>[(7,.int .u64 (x.2.2.2)),(8,yd ye (((x.1:Nat):Int) - 1)),(6,.slice (some ⟨b1,0,none⟩) ((yg a).length) ((yg a).length)),(5,.int .u64 0),(4,.slice none 0 0),(0,.slice p ((yg a).length) cap),(1,.int .u64 ((mm:Nat):Int))]) (fun x=>[rowA 133 (rI .u32) (some ⟨b1,0,none⟩) ((yg a).length) (x.2.1)]) (fun x=>[slF (rI .u32) p cap (yg a)]) (fun x:Nat×(List Int)×(List Int)×Int=>x.1) ((yg a).length,(List.replicate (yg a).length 0),([]:List Int),(0:Int)) (show (List.replicate (yg a).length 0)=List.replicate ((yg a).length) 0++([]:List Int)∧Big.ShI (yg a) (mm:Int) ((yg a).length) ([]:List Int) (0:Int) from by exact ⟨by simp,Big.ShI.start om⟩) ((.e rfl cgs (.e rfl cgs (.of rfl))):SubM _ _) (ho:=((.e (i:=0) rfl cgs .n):PickO _ _ _)) (s0 rfl) ?_
 rintro ⟨jj,os,qs,z⟩ hI
 replace hI:os=List.replicate jj 0++qs∧Big.ShI (yg a) (mm:Int) jj qs z:=hI
 try dsimp only
 obtain ⟨hos,hS⟩:=hI
 have hz0:=hS.r0
 have hz1:=hS.r1
 have hkle:=hS.le
 refine ze<|ze<|za<|e_mv rfl<|e_p (zMa rfl rfl)<|zf<|zc<|zI rfl (fun h2=> ?_) (fun h2=> ?_)
 ·
  obtain ⟨k,rfl⟩:∃k,jj=k+1:=⟨jj - 1,by omega⟩
  have e3:(((((k+1):Nat):Int) - 1):Int)=((k:Nat):Int):=by omega
  rw [e3]
  have hosl:os.length=(yg a).length:=by rw [hos,List.length_append,List.length_replicate,hS.len];omega
  have hg:=yu (yt a) k
  have hdg:=Big.sh_digit hz0 hz1 hg
  have hrm:=Int.emod_lt_of_pos (z*1000000000+(yg a).getD k 0) (show 0<(mm:Int) by omega)
  have hrm0:=Int.emod_nonneg (z*1000000000+(yg a).getD k 0) (show (mm:Int)≠0 by omega)
  refine zx<|zc<|ze<|zw<|ze<|za<|e_mv rfl<|e_p (zua (z:=(z*1000000000)) rfl rfl (wu64 om))<|e_mv rfl<|e_mv rfl<|zZ (x0:=((yg a).getD k 0)) 0 k rfl yi sz133 rfl rfl rfl (by first|rfl|assumption|(simp;done)|(simp;omega)|omega) rfl rfl (gD (d:=0) om) (fun b4 o5 hok6=> ?_)
  replace hok6:=zA.1 hok6
  refine e_ru (zi (j:=0) 0 ty133 rfl rfl rfl rfl)<|e_p (zt (z:=((yg a).getD k 0)) rfl (by rw [yp];rfl) yo (wu64 om))<|e_p (zK (z:=((z*1000000000)+((yg a).getD k 0))) rfl rfl (wu64 om))<|e_p (zb rfl)<|zf<|zc<|ze<|za<|e_mv rfl<|e_mv rfl<|e_mv rfl<|e_mv rfl<|e_p (zfb (z:=(((z*1000000000)+((yg a).getD k 0)) / ((mm:Nat):Int))) rfl rfl om (by rw [quoN (z:=(((z*1000000000)+((yg a).getD k 0)) / ((mm:Nat):Int))) om om];exact wu64 om))<|e_p (zt (z:=(((z*1000000000)+((yg a).getD k 0)) / ((mm:Nat):Int))) rfl (by rw [yo];rfl) yp (wu32 om))<|e_p (zS (j:=k) yi sz133 rfl rfl rfl om)<|zEa 0 rfl rfl rfl (zO (j:=k) (x0:=(((z*1000000000)+((yg a).getD k 0)) / ((mm:Nat):Int))) (γ0:=()) rfl rfl (by first|omega|(rw [List.length_map];omega)|(simp only [List.length_set];omega)|(simp;done)|(simp;omega)) rfl rfl sz133 (fun _ _=>by exact zA.2 om)) (fun _=> .z) (fun _ _=> ?_)
  refine zf<|zc<|za<|e_mv rfl<|e_mv rfl<|e_p (zbb (z:=(((z*1000000000)+((yg a).getD k 0))%((mm:Nat):Int))) rfl rfl om (remN om om))<|e_p (zb rfl)<|zf<|zQ<|zc<|za<|e_mv rfl<|e_p (zla (z:=(((k:Nat):Int) - 1)) rfl rfl (w64 om))<|e_p (zb rfl)<|zf<|zca (k,(os.set k (((z*1000000000)+((yg a).getD k 0)) / ((mm:Nat):Int))),((z*1000000000+(yg a).getD k 0) / (mm:Int) :: qs),((z*1000000000+(yg a).getD k 0)%(mm:Int))) (show (os.set k (((z*1000000000)+((yg a).getD k 0)) / ((mm:Nat):Int)))=List.replicate k 0++((z*1000000000+(yg a).getD k 0) / (mm:Int) :: qs)∧Big.ShI (yg a) (mm:Int) k ((z*1000000000+(yg a).getD k 0) / (mm:Int) :: qs) ((z*1000000000+(yg a).getD k 0)%(mm:Int)) from by exact ⟨by rw [hos];exact Big.pad_set _,hS.step (yt a)⟩) (by show k<k+1;omega) ((.e rfl cgs (.of rfl)):SubM _ _) (ho:=(o0 rfl)) ((.c (j:=1) rfl .n):SelR _ _ _)
 ·
  have hj0:jj=0:=by omega
  have hS0:Big.ShI (yg a) (mm:Int) 0 qs z:=hj0 ▸ hS
  obtain ⟨hf1,hf2⟩:=hS0.fin
  have hoq:os=qs:=by rw [hos,hj0];rfl
  have hok2:yz os:=by rw [hoq];exact hS.ok
  have hosl:os.length=(yg a).length:=by rw [hoq,hS0.len];omega
  have hz9:(yA false (yn os)).natAbs=a / mm:=by rw [hoq,yT (yE hS.ok),←Big.valL_trim,hf1,yD];exact Int.toNat_natCast _
  refine zda<|zj<|zj<|zu<|zc<|ze<|za<|e_mv rfl<|zea 0 rfl .z<|zq rfl rfl (.c rfl (.c rfl .n)) ce168 (zJa (s:=false) (p:=some ⟨b1,0,none⟩) (n:=(yg a).length) (cap:=(yg a).length) (l:=os) (hn:=by first|rfl|omega|(simp;done)|(simp;omega)) (ho:=by exact hok2) (hln:=by first|rfl|omega|(simp;done)|(simp;omega))) (.c (j:=0) rfl .n) ?_
  rintro ⟨p27,c28⟩ -
  dsimp only [aq,nq,cq]
  refine e_p (zza yj rfl ty28 rfl rfl)<|e_mv rfl<|e_p (zb rfl)<|e_p (zb rfl)<|zf<|zc<|zE ?_
  exact zBa Tryz.results251 (p27,c28) trivial (zp rfl) (zp rfl) (by rw [hz9,hf2]) (ho:=oN) ((.e (j:=0) rfl (by rw [hz9]) .n):SelR _ _ _)
theorem zYd {a:Nat} {p:Option Addr} {cap:Nat} (hb:(yg a).length≤2):Con yl 219 [.slice p ((yg a).length) cap] [] [slF (rI .u32) p cap (yg a)] (Y:=Unit) (fun y=>True) (fun y=> .int .u64 ((a:Nat):Int)) (fun y=>[]) (fun y=>[]):=by
 refine zl Tryz.func219 rfl rfl rfl (fun c=> ?_)
 show RunC _ _ _ _ _ [(0,.slice p ((yg a).length) cap)] [] [slF (rI .u32) p cap (yg a)]
 refine zX 0 rfl (fun hL0=> ?_)
 have hpv:=Big.pair_val hb
 have hg0:=yu (yt a) 0
 have hg1:=yu (yt a) 1
 refine ze<|za<|e_p (zb rfl)<|zf<|zc<|ze<|za<|e_mv rfl<|zJ rfl rfl (.c rfl (.c rfl .n)) ce254 (zab (p:=p) (n:=(yg a).length) (cap:=cap) (l:=yg a) (i:=1) (hn:=cbb) (hi:=cbb)) (.c (j:=0) rfl .n)<|e_p (zua (z:=((yg a).getD 1 0*1000000000)) rfl rfl (wu64 om))<|e_mv rfl<|zJ rfl rfl (.c rfl (.c rfl .n)) ce254 (zab (p:=p) (n:=(yg a).length) (cap:=cap) (l:=yg a) (i:=0) (hn:=cbb) (hi:=cbb)) (.c (j:=0) rfl .n)<|e_p (zK (z:=(((yg a).getD 1 0*1000000000)+(yg a).getD 0 0)) rfl rfl (wu64 om))<|e_p (zb rfl)<|zf<|zc<|zE ?_
 exact zy Tryz.results219 () trivial (zp rfl) (by rw [hpv]) (ho:=oN) sN
end Go.Proofs.YtpdbimfnhglhpaaGreat.Sp
namespace Go.Proofs.YtpdbimfnhglhpaaGreat.Sp
open Go
set_option linter.unusedVariables false
set_option maxRecDepth 100000
set_option maxHeartbeats 8000000
theorem zld {a:Nat} {b:Nat} {p1:Option Addr} {c1:Nat} {p2:Option Addr} {c2:Nat} (hb1:(yg a).length≤2199023255552) (hb2:(yg b).length≤2199023255552) (hb0:0<b):Con yl 218 [.slice p1 ((yg a).length) c1,.slice p2 ((yg b).length) c2] [] [slF (rI .u32) p1 c1 (yg a),slF (rI .u32) p2 c2 (yg b)] (Y:=(Option Addr)×Nat×(Option Addr)×Nat) (fun y=>True) (fun y=> .tuple #[.slice (y.1) ((yg (a / b)).length) (y.2.1),.slice (y.2.2.1) ((yg (a%b)).length) (y.2.2.2)]) (fun y=>[]) (fun y=>[slF (rI .u32) (y.1) (y.2.1) (yg (a / b)),slF (rI .u32) (y.2.2.1) (y.2.2.2) (yg (a%b))]):=by
 refine zl Tryz.func218 rfl rfl rfl (fun c=> ?_)
 show RunC _ _ _ _ _ [(0,.slice p1 ((yg a).length) c1),(1,.slice p2 ((yg b).length) c2)] [] [slF (rI .u32) p1 c1 (yg a),slF (rI .u32) p2 c2 (yg b)]
 refine zX 0 rfl (fun hL0=> ?_)
 refine zX 1 rfl (fun hL1=> ?_)
 have hln0:=Big.zAf hb0
 have hob:=yu (yt b) 0
 have hob1:=yu (yt b) ((yg b).length - 1)
 have hdv:=yB (Nat.div_le_self a b)
 have hdm:=Nat.mod_lt a hb0
 refine ze<|za<|e_p (zb rfl)<|e_p (zb rfl)<|zf<|zc<|ze<|za<|e_mv rfl<|e_p (zG yi rfl)<|e_p (zb rfl)<|zf<|zc<|ze<|ze<|za<|e_mv rfl<|e_p (zxa rfl rfl)<|zf<|zc<|zI rfl (fun hl1=> ?_) (fun hl1=> ?_)
 ·
  have hbd:=Big.one_digit (by omega:(yg b).length=1)
  have hbl:b<1000000000:=by omega
  have hokt:yz [((a%b:Nat):Int)]:=Big.okL_cons.2 ⟨by omega,Big.okL_nil⟩
  have hz3:=Big.made_nat hokt (show yn [((a%b:Nat):Int)]=((a%b:Nat):Int) by simp only [yn];omega)
  refine ze<|za<|e_mv rfl<|e_mv rfl<|zZ (x0:=((yg b).getD 0 0)) 1 0 rfl yi sz133 rfl rfl rfl (by first|rfl|assumption|(simp;done)|(simp;omega)|omega) rfl rfl (gD (d:=0) om) (fun b1 o2 hok3=> ?_)
  replace hok3:=zA.1 hok3
  refine e_ru (zi (j:=0) 0 ty133 rfl rfl rfl rfl)<|e_p (zt (z:=((yg b).getD 0 0)) rfl (by rw [yp];rfl) yo (wu64 om)) ?_
  have e4:(((yg b).getD 0 0):Int)=((b:Nat):Int):=by exact hbd
  rw [e4]
  refine zq rfl rfl (.c rfl (.c rfl .n)) ce251 (zkd (a:=a) (mm:=b) (p:=p1) (cap:=c1) (hb:=by first|rfl|assumption|omega|(simp;done)) (hm0:=ass) (hm1:=by first|rfl|assumption|omega|(simp;done))) (.c (j:=1) rfl .n) ?_
  rintro ⟨p25,c26⟩ -
  dsimp only [aq,nq,cq]
  refine e_mv rfl<|e_p (zm rfl rfl)<|e_p (zm rfl rfl)<|e_p (zb rfl)<|e_p (zb rfl)<|zf<|zc<|ze<|za<|e_mv rfl<|e_mv rfl<|e_p (zt (z:=(((a%b):Nat):Int)) rfl (by rw [yo];rfl) yp (wu32 om))<|zva rfl rfl (zH (enc:=fun z:Int=>[.int .u32 z]) (ok:=InK .u32) (h1:=fun _=>rfl) (h2:=fun _=>rfl) (k:=1) yi inf133 rfl dd dd dd (.c (x:=(((a%b):Nat):Int)) rfl rfl (fun _ _=>by exact zA.2 om) .n)) (fun b7 _=> ?_)
  refine zea 0 rfl .z<|zq rfl rfl (.c rfl (.c rfl .n)) ce168 (zJa (s:=false) (p:=some ⟨b7,0,none⟩) (n:=1) (cap:=1) (l:=[(((a%b):Nat):Int)]) (hn:=by first|rfl|omega|(simp;done)|(simp;omega)) (ho:=by exact hokt) (hln:=by first|rfl|omega|(simp;done)|(simp;omega))) (.c (j:=0) rfl .n) ?_
  rintro ⟨p28,c29⟩ -
  dsimp only [aq,nq,cq]
  refine e_p (zza yj rfl ty28 rfl rfl)<|e_p (zb rfl)<|e_p (zb rfl)<|zf<|zc<|zE<|zB ?_
  exact zBa Tryz.results218 (p25,c26,p28,c29) trivial (zp rfl) (zp rfl) (by rw [hz3]) (ho:=oN) ((.c (j:=2) rfl (.e (j:=0) rfl (by rw [hz3]) .n)):SelR _ _ _)
 ·
  refine zx<|zc<|ze<|ze<|za<|e_mv rfl<|e_mv rfl<|zJ rfl rfl (.c rfl (.c rfl .n)) ce225 (zUc (a:=a) (b:=b) (p1:=p1) (c1:=c1) (p2:=p2) (c2:=c2)) (.c (j:=0) rfl (.c (j:=1) rfl .n))<|e_p (zV rfl rfl)<|zf<|zc<|zI rfl (fun hlt=> ?_) (fun hlt=> ?_)
  ·
   have hab9:¬(b:Int)≤a:=fun h=>by have:=yO.2 h;omega
   have hab:a<b:=by omega
   refine ze<|za<|zva rfl rfl (zta (rI .u32) yi inf133) (fun b10 _=> ?_)
   refine e_mv rfl<|e_p (zb rfl)<|e_p (zb rfl)<|zf<|zc<|zE<|zB ?_
   have hz1:a / b=0:=Nat.div_eq_of_lt hab
   have hz2:a%b=a:=Nat.mod_eq_of_lt hab
   refine zzb 0 rfl .z ?_
   exact zBa Tryz.results218 (some ⟨b10,0,none⟩,0,p1,c1) trivial (zp rfl) (zp rfl) (by rw [hz1,hz2];rfl) (ho:=oN) ((.e (j:=0) rfl (by rw [hz1];rfl) (.e (j:=1) rfl (by rw [hz2]) .n)):SelR _ _ _)
  ·
   have hab:b≤a:=by have h9:=yO.1 (by omega:0≤Big.cmp (a:Int) (b:Int));omega
   have hab2:=yB hab
   have hq1:0≤1000000000 / ((yg b).getD ((yg b).length - 1) 0+1):=Int.ediv_nonneg om om
   have hdt:=Big.digs_top (b:=b) (n:=(yg b).length - 1) om
   have hq2:1000000000 / ((yg b).getD ((yg b).length - 1) 0+1)≤500000000:=Int.ediv_le_of_le_mul om om
   refine zx<|zc<|ze<|za<|e_mv rfl<|e_mv rfl<|e_p (zla (z:=((((yg b).length - 1):Nat):Int)) rfl rfl (w64 om))<|zZ (x0:=((yg b).getD ((yg b).length - 1) 0)) 1 ((yg b).length - 1) rfl yi sz133 rfl rfl rfl (by first|rfl|assumption|(simp;done)|(simp;omega)|omega) rfl rfl (gD (d:=0) om) (fun b11 o12 hok13=> ?_)
   replace hok13:=zA.1 hok13
   refine e_ru (zi (j:=0) 0 ty133 rfl rfl rfl rfl)<|e_p (zt (z:=((yg b).getD ((yg b).length - 1) 0)) rfl (by rw [yp];rfl) yo (wu64 om))<|e_p (zK (z:=(((yg b).getD ((yg b).length - 1) 0)+1)) rfl rfl (wu64 om))<|e_p (zfb (z:=(1000000000 / (((yg b).getD ((yg b).length - 1) 0)+1))) rfl rfl om (by rw [quoN (z:=(1000000000 / (((yg b).getD ((yg b).length - 1) 0)+1))) om om];exact wu64 om))<|e_p (zb rfl)<|zf<|zc<|ze ?_
   obtain ⟨s,hs⟩:∃s:Nat,s=(1000000000 / ((yg b).getD ((yg b).length - 1) 0+1)).toNat:=⟨_,rfl⟩
   obtain ⟨hs1,hs2,hs3⟩:=Big.scale_len (n:=(yg b).length - 1) om hs
   have hsd:=Big.digs_one hs1 (by omega:s<1000000000)
   have hsl:(yg s).length=1:=by rw [hsd];rfl
   have e14:((1000000000 / (((yg b).getD ((yg b).length - 1) 0)+1)):Int)=((s:Nat):Int):=by omega
   rw [e14]
   refine za<|e_mv rfl<|e_mv rfl<|zq rfl rfl (.c rfl (.c rfl .n)) ce252 (zYb (a:=a) (d:=s) (p0:=p1) (cap:=c1) (hb:=by first|rfl|assumption|omega|(simp;done)) (hd:=by first|rfl|assumption|omega|(simp;done))) (.c (j:=1) rfl .n) ?_
   rintro ⟨p315,c316⟩ -
   dsimp only [aq,nq,cq]
   refine e_mv rfl<|e_mv rfl<|zq rfl rfl (.c rfl (.c rfl .n)) ce252 (zYb (a:=b) (d:=s) (p0:=p2) (cap:=c2) (hb:=by first|rfl|assumption|omega|(simp;done)) (hd:=by first|rfl|assumption|omega|(simp;done))) (.c (j:=3) rfl .n) ?_
   rintro ⟨p317,c318⟩ -
   dsimp only [aq,nq,cq]
   refine e_p (zb rfl)<|e_p (zb rfl)<|zf<|zc<|ze ?_
   obtain ⟨A,hA⟩:∃z,z=a*s:=⟨_,rfl⟩
   rw [← hA]
   obtain ⟨V,hV⟩:∃z,z=b*s:=⟨_,rfl⟩
   rw [← hV]
   refine zX 1 rfl (fun hcA=> ?_)
   have hAl:(yg a).length≤(yg A).length:=by rw [hA];exact Big.len_mul_ge hs1
   have hAl2:(yg A).length≤(yg a).length+1:=by have h8:=Big.len_mul_le a s;rw [hsl] at h8;rw [hA];exact h8
   obtain ⟨m,hm⟩:∃z,(yg V).length=z+1:=⟨(yg b).length - 1,by rw [hV,hs3]⟩
   have hmb:(yg b).length=m+1:=by rw [hV,hs3] at hm;omega
   have e19:((((yg b).length:Nat):Int):Int)=(((m+1):Nat):Int):=by omega
   rw [e19]
   refine za<|e_mv rfl<|e_mv rfl<|e_p (zG yi rfl)<|e_mv rfl<|e_p (zla (z:=((((yg A).length - (m+1)):Nat):Int)) rfl rfl (w64 om))<|e_p (zK (z:=((((yg A).length - m):Nat):Int)) rfl rfl (w64 om))<|e_p (zFe (lo:=((yg A).length - m)) (hi:=(yg A).length) yi sz133 rfl (.s rfl) .n (.inr ⟨_,rfl⟩) (.inl ⟨rfl,rfl⟩) om om)<|zZb (zfg 1 rfl ((yg A).length - m) ((yg A).length) om om) (fun _ _=> ?_)
   refine zq rfl rfl (.c rfl (.c rfl .n)) ce168 (zJa (s:=false) (p:=(newP p315 c316 ((yg A).length - m) 1)) (n:=((yg A).length) - ((yg A).length - m)) (cap:=(c316 - ((yg A).length - m))) (l:=(((yg A).take ((yg A).length)).drop ((yg A).length - m))) (hn:=by first|rfl|omega|(simp;done)|(simp;omega)) (ho:=by exact Big.okL_drop (Big.okL_take (yt _) _) _) (hln:=by first|rfl|omega|(simp;done)|(simp;omega))) (.c (j:=0) rfl .n) ?_
   rintro ⟨p220,c221⟩ -
   dsimp only [aq,nq,cq]
   refine e_p (zza yj rfl ty28 rfl rfl)<|e_p (zb rfl)<|zf<|zc<|ze ?_
   obtain ⟨R0,hR0⟩:∃z,z=(yA false (yn (((yg A).take ((yg A).length)).drop ((yg A).length - m)))).natAbs:=⟨_,rfl⟩
   rw [← hR0]
   have hpt:Big.PtI A V ((yg A).length - m) [] R0:=Big.PtI.start hm om (by rw [hR0,List.take_length];have:=yE (Big.okL_drop (yt A) ((yg A).length - m));simp only [yA];omega)
   refine za<|e_mv rfl<|e_p (zG yi rfl)<|e_mv rfl<|e_p (zla (z:=((((yg A).length - (m+1)):Nat):Int)) rfl rfl (w64 om))<|e_p (zK (z:=((((yg A).length - m):Nat):Int)) rfl rfl (w64 om))<|zva rfl rfl (zKa (r:=rI .u32) (k:=((yg A).length - m)) (x0:=0) (γ0:=()) yi inf133 rfl rfl rfl rfl om om rfl (fun g _=>by exact zA.2 dd) dd) (fun b22 _=> ?_)
   refine e_p (zb rfl)<|zf<|zc<|ze<|ze<|za<|e_mv rfl<|e_p (zG yi rfl)<|e_mv rfl<|e_p (zla (z:=((((yg A).length:Nat):Int) - (((m+1):Nat):Int))) rfl rfl (w64 om))<|e_p (zb rfl)<|zf<|zc<|zw<|zha (X:=Nat×(List Int)×Nat×(Option Addr)×Nat) (fun x:Nat×(List Int)×Nat×(Option Addr)×Nat=>Big.PtI A V x.1 x.2.1 x.2.2.1∧x.1+x.2.1.length=(yg A).length - m) (fun x=>[(10,.slice (x.2.2.2.1) ((yg (x.2.2.1)).length) (x.2.2.2.2)),(12,yd ye (((x.1:Nat):Int) - 1)),(11,.slice (some ⟨b22,0,none⟩) ((yg A).length - m) ((yg A).length - m)),(1,.slice p317 ((yg V).length) c318),(0,.slice p315 ((yg A).length) c316),(9,.int .u64 ((s:Nat):Int)),(6,yd ye (((m+1):Nat):Int)),(5,.slice none 0 0),(4,.slice none 0 0)]) (fun x=>[rowA 133 (rI .u32) (some ⟨b22,0,none⟩) ((yg A).length - m) (List.replicate x.1 0++x.2.1)]) (fun x=>[slF (rI .u32) (x.2.2.2.1) (x.2.2.2.2) (yg (x.2.2.1)),slF (rI .u32) p220 c221 (yg R0),slF (rI .u32) (newP p315 c316 ((yg A).length - m) 1) (c316 - ((yg A).length - m)) (((yg A).take ((yg A).length)).drop ((yg A).length - m)),slF (rI .u32) p317 c318 (yg V),slF (rI .u32) p315 c316 (yg A),atF b11 o12 [.int .u32 ((yg b).getD ((yg b).length - 1) 0)],slF (rI .u32) p1 c1 (yg a),slF (rI .u32) p2 c2 (yg b)]) (fun x:Nat×(List Int)×Nat×(Option Addr)×Nat=>x.1) (((yg A).length - m),([]:List Int),R0,p220,c221) (show Big.PtI A V ((yg A).length - m) ([]:List Int) R0∧((yg A).length - m)+([]:List Int).length=(yg A).length - m from by exact ⟨hpt,rfl⟩) ((.e rfl cgs (.e rfl (congrArg (Value.int .i64) om) (.of rfl))):SubM _ _) (ho:=((.e (i:=0) rfl (by simp) .n):PickO _ _ _)) ((.e (j:=0) rfl (by first|rfl|simp_all) (.of [0,1,2,3,4,5,6] rfl)):SelR _ _ _) ?_
   rintro ⟨jj,qs,R,pr,cr⟩ hI
   replace hI:Big.PtI A V jj qs R∧jj+qs.length=(yg A).length - m:=hI
   try dsimp only
   obtain ⟨hP,hql⟩:=hI
   refine ze<|ze<|za<|e_mv rfl<|e_p (zMa rfl rfl)<|zf<|zc<|zI rfl (fun hj=> ?_) (fun hj=> ?_)
   ·
    obtain ⟨j,rfl⟩:∃j,jj=j+1:=⟨jj - 1,by omega⟩
    have e23:(((((j+1):Nat):Int) - 1):Int)=((j:Nat):Int):=by omega
    rw [e23]
    have hjle:=hP.le
    have hRV:=hP.lt
    have hdn:=yu (yt A) j
    obtain ⟨d,hd⟩:∃d:Nat,(yg A).getD j 0=(d:Int):=⟨_,(Int.toNat_of_nonneg hdn.1).symm⟩
    have hd9:d<1000000000:=by omega
    have hWlt9:=Big.pt_lim hRV hd9
    have hRl:=yB (Nat.le_of_lt hRV)
    refine zx<|zc<|ze<|zw<|ze<|za<|e_mv rfl<|e_mv rfl<|e_mv rfl<|zZ (x0:=((yg A).getD j 0)) 4 j rfl yi sz133 rfl rfl rfl (by first|rfl|assumption|(simp;done)|(simp;omega)|omega) rfl rfl (gD (d:=0) om) (fun b24 o25 hok26=> ?_)
    replace hok26:=zA.1 hok26
    refine e_ru (zi (j:=0) 0 ty133 rfl rfl rfl rfl) ?_
    have e27:(((yg A).getD j 0):Int)=((d:Nat):Int):=by exact hd
    rw [e27]
    refine zq rfl rfl (.c rfl (.c rfl .n)) ce253 (zXd (a:=R) (d:=d) (p0:=pr) (cap:=cr) (hb:=by first|rfl|assumption|omega|(simp;done)) (hd:=by first|rfl|assumption|omega|(simp;done))) (.c (j:=1) rfl .n) ?_
    rintro ⟨p328,c329⟩ -
    dsimp only [aq,nq,cq]
    refine e_p (zb rfl)<|zf<|zc<|ze ?_
    obtain ⟨W,hW⟩:∃z,z=(R*1000000000+d):=⟨_,rfl⟩
    rw [← hW]
    have hWlt:W<V*1000000000:=by rw [hW];exact hWlt9
    have hWl:=Big.pt_wlen hWlt hm
    have hw1:=yu (yt W) (m+1)
    have hw0:=yu (yt W) m
    have hv0:=yu (yt V) m
    have hg0:0≤(((yg W).getD (m+1) 0*1000000000+(yg W).getD m 0) / ((yg V).getD m 0+1)):=Int.ediv_nonneg om om
    have hg1:(((yg W).getD (m+1) 0*1000000000+(yg W).getD m 0) / ((yg V).getD m 0+1))≤1000000000000000000:=Int.le_trans (Int.ediv_le_self _ om) om
    refine zW (OW:=[]) (O:=[rowA 133 (rI .u32) (some ⟨b22,0,none⟩) ((yg A).length - m) (List.replicate (j+1) 0++qs)]) 100000 mixed (.then (.block (.then (.then (.block (.then .ret)))))) kr<|e_dm 0 rfl rfl rfl<|e_dm 1 rfl rfl rfl<|e_dm 4 rfl rfl rfl<|e_dm 5 rfl rfl rfl<|e_pv 6 rfl rfl (zla (z:=((m:Nat):Int)) rfl rfl (w64 om))<|e_dm 9 rfl rfl rfl<|e_dm 10 rfl rfl rfl<|e_pv 11 rfl rfl (zla (z:=((m:Nat):Int)) rfl rfl (w64 om))<|zra (x0:=((yg V).getD m 0)) 12 rfl rfl kr kr 5 m rfl yi sz133 rfl rfl rfl (by first|rfl|assumption|(simp;done)|(simp;omega)|omega) rfl rfl (gD (d:=0) om) (fun b30 o31 hok32=> ?_)
    replace hok32:=zA.1 hok32
    refine e_u 13 rfl rfl (zi (j:=0) 0 ty133 rfl rfl rfl rfl)<|e_pv 14 rfl rfl (zt (z:=((yg V).getD m 0)) rfl (by rw [yp];rfl) yo (wu64 om))<|e_pv 15 rfl rfl (zK (z:=(((yg V).getD m 0)+1)) rfl rfl (wu64 om))<|e_one 2 (zAb rfl rfl rfl rfl (.c rfl (.c rfl .n)) ce254 (zab (p:=p328) (n:=(yg W).length) (cap:=c329) (l:=yg W) (i:=(m+1)) (hn:=by first|rfl|assumption|omega|(simp;done)) (hi:=by first|rfl|assumption|omega|(simp;done))) (.c (j:=1) rfl .n) ?_)
    refine e_pv 3 rfl rfl (zua (z:=((yg W).getD (m+1) 0*1000000000)) rfl rfl (wu64 om))<|e_one 7 (zAb rfl rfl rfl rfl (.c rfl (.c rfl .n)) ce254 (zab (p:=p328) (n:=(yg W).length) (cap:=c329) (l:=yg W) (i:=m) (hn:=by first|rfl|assumption|omega|(simp;done)) (hi:=by first|rfl|assumption|omega|(simp;done))) (.c (j:=1) rfl .n) ?_)
    refine e_pv 8 rfl rfl (zK (z:=(((yg W).getD (m+1) 0*1000000000)+(yg W).getD m 0)) rfl rfl (wu64 om))<|e_pv 16 rfl rfl (zfb (z:=((((yg W).getD (m+1) 0*1000000000)+(yg W).getD m 0) / (((yg V).getD m 0)+1))) rfl rfl om (by rw [quoN (z:=((((yg W).getD (m+1) 0*1000000000)+(yg W).getD m 0) / (((yg V).getD m 0)+1))) om om];exact wu64 om))<|e_pv 17 rfl rfl (zb rfl)<|zN kr<|zc<|ze ?_
    obtain ⟨g0,hg9⟩:∃g:Nat,(g:Int)=(((yg W).getD (m+1) 0*1000000000+(yg W).getD m 0) / ((yg V).getD m 0+1)):=⟨_,Int.toNat_of_nonneg hg0⟩
    obtain ⟨hgm,hgl⟩:=Big.pt_guess hWlt hm hg9
    have hVg:=yB hgm
    have e33:(((((yg W).getD (m+1) 0*1000000000)+(yg W).getD m 0) / (((yg V).getD m 0)+1)):Int)=((g0:Nat):Int):=by exact hg9.symm
    rw [e33]
    refine za<|e_mv rfl<|e_mv rfl<|e_mv rfl<|zq rfl rfl (.c rfl (.c rfl .n)) ce252 (zYb (a:=V) (d:=g0) (p0:=p317) (cap:=c318) (hb:=by first|rfl|assumption|omega|(simp;done)) (hd:=by first|rfl|assumption|omega|(simp;done))) (.c (j:=6) rfl .n) ?_
    rintro ⟨p334,c335⟩ -
    dsimp only [aq,nq,cq]
    refine zq rfl rfl (.c rfl (.c rfl .n)) ce226 (zPb (a:=W) (b:=V*g0) (p1:=p328) (c1:=c329) (p2:=p334) (c2:=c335) (hb1:=by first|rfl|assumption|omega|(simp;done)) (hb2:=by first|rfl|assumption|omega|(simp;done)) (hab:=by first|rfl|assumption|omega|(simp;done))) (.c (j:=2) rfl (.c (j:=0) rfl .n)) ?_
    rintro ⟨p336,c337⟩ -
    dsimp only [aq,nq,cq]
    refine e_p (zb rfl)<|zf<|zc<|ze<|zw<|zha (X:=Nat×Nat×(Option Addr)×Nat) (fun x:Nat×Nat×(Option Addr)×Nat=>x.2.1+V*x.1=W) (fun x=>[(10,.slice (x.2.2.1) ((yg (x.2.1)).length) (x.2.2.2)),(13,.int .u64 ((x.1:Nat):Int)),(12,yd ye ((j:Nat):Int)),(11,.slice (some ⟨b22,0,none⟩) ((yg A).length - m) ((yg A).length - m)),(1,.slice p317 ((yg V).length) c318),(0,.slice p315 ((yg A).length) c316),(9,.int .u64 ((s:Nat):Int)),(6,yd ye (((m+1):Nat):Int)),(5,.slice none 0 0),(4,.slice none 0 0)]) (fun x=>[rowA 133 (rI .u32) (some ⟨b22,0,none⟩) ((yg A).length - m) (List.replicate (j+1) 0++qs)]) (fun x=>[slF (rI .u32) (x.2.2.1) (x.2.2.2) (yg (x.2.1)),slF (rI .u32) p336 c337 (yg (W - (V*g0))),slF (rI .u32) p334 c335 (yg (V*g0)),atF b30 o31 [.int .u32 ((yg V).getD m 0)],slF (rI .u32) p328 c329 (yg W),atF b24 o25 [.int .u32 ((d:Nat):Int)],slF (rI .u32) pr cr (yg R),slF (rI .u32) p220 c221 (yg R0),slF (rI .u32) (newP p315 c316 ((yg A).length - m) 1) (c316 - ((yg A).length - m)) (((yg A).take ((yg A).length)).drop ((yg A).length - m)),slF (rI .u32) p317 c318 (yg V),slF (rI .u32) p315 c316 (yg A),atF b11 o12 [.int .u32 ((yg b).getD ((yg b).length - 1) 0)],slF (rI .u32) p1 c1 (yg a),slF (rI .u32) p2 c2 (yg b)]) (fun x:Nat×Nat×(Option Addr)×Nat=>x.2.1) (g0,(W - V*g0),p336,c337) (show (W - V*g0)+V*g0=W from by exact Nat.sub_add_cancel hgm) ((.e rfl cgs (.of rfl)):SubM _ _) (ho:=(o0 rfl)) ((.e (j:=0) rfl (by first|rfl|simp_all) (.of [0,1,2,3,4,5,6,7,8,9,10,11,12] rfl)):SelR _ _ _) ?_
    rintro ⟨g,r,p9,c9⟩ hJ
    replace hJ:r+V*g=W:=hJ
    try dsimp only
    have hgb:g<1000000000:=Nat.lt_of_mul_lt_mul_left (a:=V) om
    have hrl:=yB (show r≤W by omega)
    refine ze<|ze<|za<|e_mv rfl<|e_mv rfl<|zJ rfl rfl (.c rfl (.c rfl .n)) ce225 (zUc (a:=r) (b:=V) (p1:=p9) (c1:=c9) (p2:=p317) (c2:=c318)) (.c (j:=0) rfl (.c (j:=9) rfl .n))<|e_p (zMa rfl rfl)<|zf<|zc<|zI rfl (fun hge=> ?_) (fun hge=> ?_)
    ·
     have hrV:V≤r:=by have h9:=yO.1 hge;omega
     refine zx<|zc<|zw<|ze<|za<|e_mv rfl<|e_mv rfl<|zq rfl rfl (.c rfl (.c rfl .n)) ce226 (zPb (a:=r) (b:=V) (p1:=p9) (c1:=c9) (p2:=p317) (c2:=c318) (hb1:=by first|rfl|assumption|omega|(simp;done)) (hb2:=by first|rfl|assumption|omega|(simp;done)) (hab:=by first|rfl|assumption|omega|(simp;done))) (.c (j:=0) rfl (.c (j:=9) rfl .n)) ?_
     rintro ⟨p338,c339⟩ -
     dsimp only [aq,nq,cq]
     refine e_p (zb rfl)<|zf<|zc<|za<|e_mv rfl<|e_p (zK (z:=(((g+1):Nat):Int)) rfl rfl (wu64 om))<|e_p (zb rfl)<|zf<|zQ<|zca ((g+1),(r - V),p338,c339) (show (r - V)+V*(g+1)=W from by rw [Nat.mul_succ];omega) (by show r - V<r;omega) ((.e rfl cgs (.of rfl)):SubM _ _) (ho:=(o0 rfl)) ((.e (j:=0) rfl (by first|rfl|simp_all) (.of [2,3,4,5,6,7,8,9,10,11,12,13,14] rfl)):SelR _ _ _)
    ·
     have hrV:r<V:=by have h9:¬(V:Int)≤r:=fun h=>hge (yO.2 h);omega
     have hst:=hP.step hd (by rw [← hW];exact hJ) hrV
     refine zda<|zj<|zj<|zu<|zc<|za<|e_mv rfl<|e_mv rfl<|e_mv rfl<|e_p (zt (z:=((g:Nat):Int)) rfl (by rw [yo];rfl) yp (wu32 om))<|e_p (zS (j:=j) yi sz133 rfl rfl rfl om)<|zEa 0 rfl rfl rfl (zO (j:=j) (x0:=((g:Nat):Int)) (γ0:=()) rfl rfl (by first|omega|(rw [List.length_map];omega)|(simp only [List.length_set];omega)|(simp;done)|(simp;omega)) rfl rfl sz133 (fun _ _=>by exact zA.2 om)) (fun _=> .z) (fun _ _=> ?_)
     refine zf<|zQ<|zc<|za<|e_mv rfl<|e_p (zla (z:=(((j:Nat):Int) - 1)) rfl rfl (w64 om))<|e_p (zb rfl)<|zf<|zca (j,(((g:Nat):Int) :: qs),r,p9,c9) (show Big.PtI A V j (((g:Nat):Int) :: qs) r∧j+(((g:Nat):Int) :: qs).length=(yg A).length - m from by exact ⟨hst,by rw [List.length_cons];omega⟩) (by show j<j+1;omega) (mR rfl) (ho:=((.e (i:=0) rfl (by rw [Big.pad_set]) .n):PickO _ _ _)) ((.of [0,7,8,9,10,11,12,13] rfl):SelR _ _ _)
   ·
    have hj0:jj=0:=by omega
    have hI0:Big.PtI A V 0 qs R:=hj0 ▸ hP
    obtain ⟨hf1,hf2⟩:=hI0.fin
    have hsc:=Big.scale_div (a:=a) (b:=b) hs1
    have hRV:=hI0.lt
    have hRl:=yB (Nat.le_of_lt hRV)
    have hz4:=Big.made_nat hI0.ok hf1
    have hok5:=hI0.ok
    refine zda<|zj<|zj<|zu<|zc<|ze<|za<|e_mv rfl<|e_mv rfl<|zq rfl rfl (.c rfl (.c rfl .n)) ce251 (zkd (a:=R) (mm:=s) (p:=pr) (cap:=cr) (hb:=by first|rfl|assumption|omega|(simp;done)) (hm0:=by first|rfl|assumption|omega|(simp;done)) (hm1:=by first|rfl|assumption|omega|(simp;done))) (.c (j:=0) rfl .n) ?_
    rintro ⟨p240,c241⟩ -
    dsimp only [aq,nq,cq]
    refine e_mv rfl<|e_p (zm rfl rfl)<|e_p (zm rfl rfl)<|e_p (zb rfl)<|e_p (zb rfl)<|zf<|zc<|ze ?_
    have e42:List.replicate jj 0++qs=qs:=by rw [hj0];rfl
    rw [e42]
    refine za<|e_mv rfl<|zea 0 rfl .z<|zq rfl rfl (.c rfl (.c rfl .n)) ce168 (zJa (s:=false) (p:=some ⟨b22,0,none⟩) (n:=((yg A).length - m)) (cap:=((yg A).length - m)) (l:=qs) (hn:=by first|rfl|omega|(simp;done)|(simp;omega)) (ho:=by exact hok5) (hln:=by first|rfl|omega|(simp;done)|(simp;omega))) (.c (j:=0) rfl .n) ?_
    rintro ⟨p243,c244⟩ -
    dsimp only [aq,nq,cq]
    refine e_p (zza yj rfl ty28 rfl rfl)<|e_mv rfl<|e_p (zb rfl)<|e_p (zb rfl)<|zf<|zc<|zE ?_
    have hr9:R / s=a%b:=by rw [hf2,hA,hV,hsc.2]
    have hz5:(yA false (yn qs)).natAbs=a / b:=by rw [hz4,hA,hV,hsc.1]
    exact zBa Tryz.results218 (p243,c244,p240,c241) trivial (zp rfl) (zp rfl) (by rw [hz5,hr9]) (ho:=oN) ((.e (j:=0) rfl (by rw [hz5]) (.e (j:=2) rfl (by rw [hr9]) .n)):SelR _ _ _)
end Go.Proofs.YtpdbimfnhglhpaaGreat.Sp
namespace Go.Proofs.YtpdbimfnhglhpaaGreat.Sp
open Go
set_option linter.unusedVariables false
set_option maxRecDepth 100000
set_option maxHeartbeats 8000000
theorem zPe {s:Bool} {p1:Option Addr} {n1:Nat} {c1:Nat} {l1:List Int} {t:Bool} {p2:Option Addr} {n2:Nat} {c2:Nat} {l2:List Int} (hn1:l1.length=n1) (hn2:l2.length=n2) (hm1:n1≤2199023255552) (hm2:n2≤2199023255552):Con yl 152 [.agg #[.bool s,.slice p1 n1 c1],.agg #[.bool t,.slice p2 n2 c2]] [] [slF (rI .u32) p1 c1 l1,slF (rI .u32) p2 c2 l2] (Y:=(Option Addr)×Nat) (fun y=>True) (fun y=> .agg #[.bool (decide (((Nat.gcd (yh s l1).natAbs (yh t l2).natAbs:Nat):Int)<0)),.slice (y.1) ((yg (((Nat.gcd (yh s l1).natAbs (yh t l2).natAbs:Nat):Int).natAbs)).length) (y.2)]) (fun y=>[]) (fun y=>[slF (rI .u32) (y.1) (y.2) (yg (((Nat.gcd (yh s l1).natAbs (yh t l2).natAbs:Nat):Int).natAbs))]):=by
 refine zl Tryz.func152 rfl rfl rfl (fun c=> ?_)
 show RunC _ _ _ _ _ [(0,.agg #[.bool s,.slice p1 n1 c1]),(1,.agg #[.bool t,.slice p2 n2 c2])] [] [slF (rI .u32) p1 c1 l1,slF (rI .u32) p2 c2 l2]
 refine zX 0 rfl (fun hL0=> ?_)
 refine zXa 0 rfl (fun hE0=> ?_)
 refine zX 1 rfl (fun hL1=> ?_)
 refine zXa 1 rfl (fun hE1=> ?_)
 have hnn1:yM l1:=fun g hg=>(zA.1 (hE0 g hg)).1
 have hnn2:yM l2:=fun g hg=>(zA.1 (hE1 g hg)).1
 have hb1:yq (yh s l1)≤n1:=by have:=yG (s:=s) hnn1;omega
 have hb2:yq (yh t l2)≤n2:=by have:=yG (s:=t) hnn2;omega
 unfold yq at hb1 hb2
 refine ze<|za<|zD rfl rfl (zT rfl rfl) (fun b1=> ?_)
 refine zD rfl rfl (zT rfl rfl) (fun b2=> ?_)
 refine zD rfl rfl (zo zr30 rfl) (fun b3=> ?_)
 refine zf<|zc<|ze<|zW (OW:=[]) (O:=[boxA b3 30 [wz.b,wz.l],boxA b2 30 [.bool t,.slice p2 n2 c2],boxA b1 30 [.bool s,.slice p1 n1 c1]]) 100000 mixed (.then .ret) kr<|e_u 0 rfl rfl (zd 2 ty30 rfl rfl (.t2 .nil))<|e_u 3 rfl rfl (zd 1 ty30 rfl rfl (.t2 .nil))<|e_one 1 (zv rfl rfl rfl rfl (.c rfl .n) ce149 (zSa (s:=s) (p:=p1) (n:=n1) (cap:=c1) (l:=l1) (hn:=ass) (hln:=cbo)) (.c (j:=0) rfl .n) ?_)
 rintro ⟨p24,c25⟩ -
 dsimp only [aq,nq,cq]
 refine e_pv 2 rfl rfl (zza yj rfl ty28 rfl rfl)<|e_one 4 (zv rfl rfl rfl rfl (.c rfl .n) ce149 (zSa (s:=t) (p:=p2) (n:=n2) (cap:=c2) (l:=l2) (hn:=ass) (hln:=cbo)) (.c (j:=2) rfl .n) ?_)
 rintro ⟨p26,c27⟩ -
 dsimp only [aq,nq,cq]
 refine e_pv 5 rfl rfl (zza yj rfl ty28 rfl rfl)<|e_pv 6 rfl rfl (zb rfl)<|e_pv 7 rfl rfl (zb rfl)<|zN kr<|zc<|ze<|zw<|zha (X:=Nat×Nat×(Option Addr)×Nat×(Option Addr)×Nat) (fun x:Nat×Nat×(Option Addr)×Nat×(Option Addr)×Nat=>Nat.gcd x.1 x.2.1=Nat.gcd (yh s l1).natAbs (yh t l2).natAbs∧(yg x.1).length≤2199023255552∧(yg x.2.1).length≤2199023255552) (fun x=>[(6,.slice (x.2.2.2.2.1) ((yg (x.2.1)).length) (x.2.2.2.2.2)),(5,.slice (x.2.2.1) ((yg (x.1)).length) (x.2.2.2.1)),(4,yf (some ⟨b3,0,none⟩))]) (fun x=>[boxA b3 30 [wz.b,wz.l],boxA b2 30 [.bool t,.slice p2 n2 c2],boxA b1 30 [.bool s,.slice p1 n1 c1]]) (fun x=>[slF (rI .u32) (x.2.2.1) (x.2.2.2.1) (yg (x.1)),slF (rI .u32) (x.2.2.2.2.1) (x.2.2.2.2.2) (yg (x.2.1)),slF (rI .u32) p26 c27 (yg ((yh t l2).natAbs)),slF (rI .u32) p24 c25 (yg ((yh s l1).natAbs)),slF (rI .u32) p1 c1 l1,slF (rI .u32) p2 c2 l2]) (fun x:Nat×Nat×(Option Addr)×Nat×(Option Addr)×Nat=>x.2.1) ((yh s l1).natAbs,(yh t l2).natAbs,p24,c25,p26,c27) (show Nat.gcd ((yh s l1).natAbs) ((yh t l2).natAbs)=Nat.gcd (yh s l1).natAbs (yh t l2).natAbs∧(yg ((yh s l1).natAbs)).length≤2199023255552∧(yg ((yh t l2).natAbs)).length≤2199023255552 from by exact ⟨rfl,by omega,by omega⟩) (mR rfl) (ho:=((.of [0,0,0] rfl):PickO _ _ _)) ((.of [1,0,0,1,2,3] rfl):SelR _ _ _) ?_
 rintro ⟨a,b,pa,ca,pb,cb⟩ hI
 replace hI:Nat.gcd a b=Nat.gcd (yh s l1).natAbs (yh t l2).natAbs∧(yg a).length≤2199023255552∧(yg b).length≤2199023255552:=hI
 try dsimp only
 obtain ⟨hgc,hba,hbb⟩:=hI
 refine ze<|zib (X:=Unit) (fun x=>True) (fun x=>[(29,.bool (decide (0<(yg b).length∧(2<(yg a).length∨2<(yg b).length)))),(6,.slice pb ((yg b).length) cb),(5,.slice pa ((yg a).length) ca),(4,yf (some ⟨b3,0,none⟩))]) (fun x=>[boxA b3 30 [wz.b,wz.l],boxA b2 30 [.bool t,.slice p2 n2 c2],boxA b1 30 [.bool s,.slice p1 n1 c1]]) (fun x=>[slF (rI .u32) pa ca (yg a),slF (rI .u32) pb cb (yg b),slF (rI .u32) p26 c27 (yg ((yh t l2).natAbs)),slF (rI .u32) p24 c25 (yg ((yh s l1).natAbs)),slF (rI .u32) p1 c1 l1,slF (rI .u32) p2 c2 l2]) ?_ ?_
 ·
  refine za<|e_mv rfl<|e_p (zG yi rfl)<|e_p (zpa rfl rfl)<|zja rfl rfl (zna rfl) (fun h8=> ?_) (fun h8=> ?_)
  ·
   refine e_mv rfl<|e_p (zG yi rfl)<|e_p (zpa rfl rfl)<|zja rfl rfl (zna rfl) (fun h9=> ?_) (fun h9=> ?_)
   ·
    refine e_no<|e_no<|e_no<|e_p (zC rfl rfl)<|e_p (zC rfl rfl)<|zf ?_
    exact zka () tt9 ((.e rfl (congrArg Value.bool (by first|(simp;omega)|exact decide_eq_decide.2 ⟨fun h=>⟨by omega,.inr om⟩,fun h=>by omega⟩)) (.of rfl)):SubM _ _) (ho:=((.of [0,0,0] rfl):PickO _ _ _)) ((.of [0,1,2,3,4,5] rfl):SelR _ _ _)
   ·
    refine e_mv rfl<|e_p (zG yi rfl)<|e_p (zpa rfl rfl)<|e_p (zC rfl rfl)<|e_p (zC rfl rfl)<|zf ?_
    exact zka () tt9 ((.e rfl (congrArg Value.bool (by first|(simp;omega)|exact decide_eq_decide.2 ⟨fun h=>⟨by omega,.inr om⟩,fun h=>by omega⟩)) (.of rfl)):SubM _ _) (ho:=((.of [0,0,0] rfl):PickO _ _ _)) ((.of [0,1,2,3,4,5] rfl):SelR _ _ _)
  ·
   refine e_no<|e_no<|e_no<|e_no<|e_no<|e_no<|e_no<|e_no<|e_p (zC rfl rfl)<|zf ?_
   exact zka () tt9 ((.e rfl (congrArg Value.bool (by first|(simp;omega)|exact decide_eq_decide.2 ⟨fun h=>⟨by omega,.inr om⟩,fun h=>by omega⟩)) (.of rfl)):SubM _ _) (ho:=((.of [0,0,0] rfl):PickO _ _ _)) ((.of [0,1,2,3,4,5] rfl):SelR _ _ _)
 ·
  rintro ⟨⟩ -
  try dsimp only
  refine zI rfl (fun hw=> ?_) (fun hw=> ?_)
  ·
   have hb0:0<b:=Nat.pos_of_ne_zero (fun e=>by rw [e] at hw;simp [Big.digs_zero] at hw)
   refine zx<|zc<|zw<|ze<|za<|e_mv rfl<|e_mv rfl<|zq rfl rfl (.c rfl (.c rfl .n)) ce218 (zld (a:=a) (b:=b) (p1:=pa) (c1:=ca) (p2:=pb) (c2:=cb) (hb1:=cbo) (hb2:=cbo) (hb0:=cbo)) (.c (j:=0) rfl (.c (j:=1) rfl .n)) ?_
   rintro ⟨p310,c311,p412,c413⟩ -
   dsimp only [aq,nq,cq]
   refine e_mv rfl<|e_p (zm rfl rfl)<|e_p (zm rfl rfl)<|e_p (zb rfl)<|e_p (zb rfl)<|zf<|zc<|za<|e_mv rfl<|e_mv rfl<|e_p (zb rfl)<|e_p (zb rfl)<|zf<|zQ<|zca (b,(a%b),pb,cb,p412,c413) (show Nat.gcd b (a%b)=Nat.gcd (yh s l1).natAbs (yh t l2).natAbs∧(yg b).length≤2199023255552∧(yg (a%b)).length≤2199023255552 from by exact ⟨by rw [Big.gcd_rest,hgc],hbb,Nat.le_trans (yB (Nat.le_of_lt (Nat.mod_lt a hb0))) hbb⟩) (by exact Nat.mod_lt a hb0) ((.e rfl cgs (.c rfl (.c rfl .n))):SubM _ _) (ho:=((.of [0,0,0] rfl):PickO _ _ _)) ((.c (j:=3) rfl (.e (j:=1) rfl (by first|rfl|simp_all) (.of [4,5,6,7] rfl))):SelR _ _ _)
  ·
   refine zda<|zj<|zj<|zu<|zc<|ze<|ze<|za<|e_mv rfl<|e_p (zG yi rfl)<|e_p (zxa rfl rfl)<|zf<|zc<|zI rfl (fun hbz=> ?_) (fun hbz=> ?_)
   ·
    have hbz0:b=0:=yK.1 om
    have hfin:a=Nat.gcd (yh s l1).natAbs (yh t l2).natAbs:=by rw [← hgc,hbz0,Nat.gcd_zero_right]
    refine ze<|za<|e_mv rfl<|zq rfl rfl (.c rfl (.c rfl .n)) ce168 (zkb (s:=false) (a:=a) (p:=pa) (cap:=ca) (hln:=cbo)) (.c (j:=0) rfl .n) ?_
    rintro ⟨p214,c215⟩ -
    dsimp only [aq,nq,cq]
    refine zk 0 rfl rfl rfl rfl rfl sz30 rfl (.t2 .nil) .z<|zf<|zc<|zE<|zB ?_
    exact zy Tryz.results152 (p214,c215) trivial (zn 0 ty30 rfl rfl (.t2 .nil)) (by rw [← hfin];rfl) (ho:=oN) ((.e (j:=0) rfl (by rw [← hfin];rfl) .n):SelR _ _ _)
   ·
    have ha2:(yg a).length≤2:=by omega
    have hb2:(yg b).length≤2:=by omega
    have ha18:=Big.two_lt ha2
    have hb18:=Big.two_lt hb2
    refine zx<|zc<|ze<|za<|e_mv rfl<|zJ rfl rfl (.c rfl .n) ce219 (zYd (a:=a) (p:=pa) (cap:=ca) (hb:=cbo)) (.c (j:=0) rfl .n)<|e_mv rfl<|zJ rfl rfl (.c rfl .n) ce219 (zYd (a:=b) (p:=pb) (cap:=cb) (hb:=cbo)) (.c (j:=1) rfl .n)<|e_p (zb rfl)<|e_p (zb rfl)<|zf<|zc<|ze<|zw<|zha (X:=Nat×Nat) (fun x:Nat×Nat=>Nat.gcd x.1 x.2=Nat.gcd a b∧x.1<1000000000000000000∧x.2<1000000000000000000) (fun x=>[(10,.int .u64 ((x.2:Nat):Int)),(9,.int .u64 ((x.1:Nat):Int)),(4,yf (some ⟨b3,0,none⟩))]) (fun x=>[boxA b3 30 [wz.b,wz.l],boxA b2 30 [.bool t,.slice p2 n2 c2],boxA b1 30 [.bool s,.slice p1 n1 c1]]) (fun x=>[slF (rI .u32) pa ca (yg a),slF (rI .u32) pb cb (yg b),slF (rI .u32) p26 c27 (yg ((yh t l2).natAbs)),slF (rI .u32) p24 c25 (yg ((yh s l1).natAbs)),slF (rI .u32) p1 c1 l1,slF (rI .u32) p2 c2 l2]) (fun x:Nat×Nat=>x.2) (a,b) (show Nat.gcd a b=Nat.gcd a b∧a<1000000000000000000∧b<1000000000000000000 from by exact ⟨rfl,ha18,hb18⟩) (mR rfl) (ho:=((.of [0,0,0] rfl):PickO _ _ _)) ((.of [0,1,2,3,4,5] rfl):SelR _ _ _) ?_
    rintro ⟨q,r⟩ hJ
    replace hJ:Nat.gcd q r=Nat.gcd a b∧q<1000000000000000000∧r<1000000000000000000:=hJ
    try dsimp only
    obtain ⟨hgq,hq18,hr18⟩:=hJ
    have hmr:=Nat.mod_le q r
    refine ze<|ze<|za<|e_mv rfl<|e_p (zpa rfl rfl)<|zf<|zc<|zI rfl (fun hy=> ?_) (fun hy=> ?_)
    ·
     refine zx<|zc<|zw<|zW (OW:=[]) (O:=[boxA b3 30 [wz.b,wz.l],boxA b2 30 [.bool t,.slice p2 n2 c2],boxA b1 30 [.bool s,.slice p1 n1 c1]]) 100000 mixed (.block (.then (.block (.then .ret)))) kr<|e_dm 0 rfl rfl rfl<|e_dm 1 rfl rfl rfl<|e_dm 2 rfl rfl rfl<|e_pv 3 rfl rfl (zbb (z:=(((q%r):Nat):Int)) rfl rfl om (remN om om))<|e_pv 4 rfl rfl (zb rfl)<|e_pv 5 rfl rfl (zb rfl)<|zN kr<|zQ<|zca (r,(q%r)) (show Nat.gcd r (q%r)=Nat.gcd a b∧r<1000000000000000000∧(q%r)<1000000000000000000 from by exact ⟨by rw [Big.gcd_rest,hgq],hr18,by omega⟩) (by exact Nat.mod_lt q om) (mR rfl) (ho:=((.of [0,0,0] rfl):PickO _ _ _)) ((.of [0,1,2,3,4,5] rfl):SelR _ _ _)
    ·
     have hrz:r=0:=by omega
     have hfin:q=Nat.gcd (yh s l1).natAbs (yh t l2).natAbs:=by rw [← hgc,←hgq,hrz,Nat.gcd_zero_right]
     obtain ⟨ht1,ht2⟩:=Big.two_val hq18
     refine zda<|zj<|zj<|zu<|zc<|ze<|za<|e_mv rfl<|e_p (zbb (z:=(((q%1000000000):Nat):Int)) rfl rfl om (remN om om))<|e_p (zt (z:=(((q%1000000000):Nat):Int)) rfl (by rw [yo];rfl) yp (wu32 om))<|e_mv rfl<|e_p (zfb (z:=(((q / 1000000000):Nat):Int)) rfl rfl om (by rw [quoN (z:=(((q / 1000000000):Nat):Int)) om om];exact wu64 om))<|e_p (zt (z:=(((q / 1000000000):Nat):Int)) rfl (by rw [yo];rfl) yp (wu32 om))<|zva rfl rfl (zH (enc:=fun z:Int=>[.int .u32 z]) (ok:=InK .u32) (h1:=fun _=>rfl) (h2:=fun _=>rfl) (k:=2) yi inf133 rfl dd dd dd (.c (x:=(((q%1000000000):Nat):Int)) rfl rfl (fun _ _=>by exact zA.2 om) (.c (x:=(((q / 1000000000):Nat):Int)) rfl rfl (fun _ _=>by exact zA.2 om) .n))) (fun b16 _=> ?_)
     refine zea 0 rfl .z<|zq rfl rfl (.c rfl (.c rfl .n)) ce168 (zJa (s:=false) (p:=some ⟨b16,0,none⟩) (n:=2) (cap:=2) (l:=[(((q%1000000000):Nat):Int),(((q / 1000000000):Nat):Int)]) (hn:=by first|rfl|omega|(simp;done)|(simp;omega)) (ho:=by exact ht1) (hln:=by first|rfl|omega|(simp;done)|(simp;omega))) (.c (j:=0) rfl .n) ?_
     rintro ⟨p217,c218⟩ -
     dsimp only [aq,nq,cq]
     refine zk 1 rfl rfl rfl rfl rfl sz30 rfl (.t2 .nil) (.s .z)<|zf<|zc<|zE ?_
     exact zy Tryz.results152 (p217,c218) trivial (zn 1 ty30 rfl rfl (.t2 .nil)) (by rw [ht2,←hfin];rfl) (ho:=oN) ((.e (j:=0) rfl (by rw [ht2,←hfin];rfl) .n):SelR _ _ _)
theorem zQf {x1:Int} {x2:Int} {p1:Option Addr} {c1:Nat} {p2:Option Addr} {c2:Nat} (hb1:yq x1≤2199023255552) (hb2:yq x2≤2199023255552):Con yl 152 [.agg #[.bool (decide ((x1)<0)),.slice (p1) ((yg ((x1).natAbs)).length) (c1)],.agg #[.bool (decide ((x2)<0)),.slice (p2) ((yg ((x2).natAbs)).length) (c2)]] [] [slF (rI .u32) (p1) (c1) (yg ((x1).natAbs)),slF (rI .u32) (p2) (c2) (yg ((x2).natAbs))] (Y:=(Option Addr)×(Nat)) (fun y=>True) (fun y=> .agg #[.bool (decide ((((Nat.gcd x1.natAbs x2.natAbs:Nat):Int))<0)),.slice (y.1) ((yg ((((Nat.gcd x1.natAbs x2.natAbs:Nat):Int)).natAbs)).length) (y.2)]) (fun y=>[]) (fun y=>[slF (rI .u32) (y.1) (y.2) (yg ((((Nat.gcd x1.natAbs x2.natAbs:Nat):Int)).natAbs))]):=by
  have h:= @zPe (decide ((x1)<0)) p1 (yg (x1).natAbs).length c1 (yg (x1).natAbs) (decide ((x2)<0)) p2 (yg (x2).natAbs).length c2 (yg (x2).natAbs) rfl rfl hb1 hb2
  rw [yw,yw] at h
  exact h
theorem zRf {w1:Wd} {w2:Wd} {x1:Int} {x2:Int} (hb1:yq x1≤2199023255552) (hb2:yq x2≤2199023255552):Con yl 152 [.agg #[w1.b,w1.l],.agg #[w2.b,w2.l]] [] [zF w1 (x1),zF w2 (x2)] (Y:=(Wd)) (fun y=>True) (fun y=> .agg #[y.b,y.l]) (fun y=>[]) (fun y=>[zF y (((Nat.gcd x1.natAbs x2.natAbs:Nat):Int))]):=by
  exact zSb (zAc (fun p1 c1 p2 c2=>zQf hb1 hb2))
theorem zZd {s:Bool} {p1:Option Addr} {n1:Nat} {c1:Nat} {l1:List Int} {t:Bool} {p2:Option Addr} {n2:Nat} {c2:Nat} {l2:List Int} (hn1:l1.length=n1) (hn2:l2.length=n2) (hm1:n1≤2199023255552) (hm2:n2≤2199023255552):Con yl 151 [.agg #[.bool s,.slice p1 n1 c1],.agg #[.bool t,.slice p2 n2 c2]] [] [slF (rI .u32) p1 c1 l1,slF (rI .u32) p2 c2 l2] (Y:=Unit) (fun y=>True) (fun y=> yd ye ((yh s l1 - yh t l2).sign)) (fun y=>[]) (fun y=>[]):=by
 refine zl Tryz.func151 rfl rfl rfl (fun c=> ?_)
 show RunC _ _ _ _ _ [(0,.agg #[.bool s,.slice p1 n1 c1]),(1,.agg #[.bool t,.slice p2 n2 c2])] [] [slF (rI .u32) p1 c1 l1,slF (rI .u32) p2 c2 l2]
 refine zX 0 rfl (fun hL0=> ?_)
 refine zXa 0 rfl (fun hE0=> ?_)
 refine zX 1 rfl (fun hL1=> ?_)
 refine zXa 1 rfl (fun hE1=> ?_)
 have hnn1:yM l1:=fun g hg=>(zA.1 (hE0 g hg)).1
 have hnn2:yM l2:=fun g hg=>(zA.1 (hE1 g hg)).1
 have hb1:yq (yh s l1)≤n1:=by have:=yG (s:=s) hnn1;omega
 have hb2:yq (yh t l2)≤n2:=by have:=yG (s:=t) hnn2;omega
 unfold yq at hb1 hb2
 have hls:=Big.ln_sub (yh s l1) (yh t l2)
 unfold yq at hls
 refine ze<|za<|zD rfl rfl (zT rfl rfl) (fun b1=> ?_)
 refine zD rfl rfl (zT rfl rfl) (fun b2=> ?_)
 refine e_p (zb rfl)<|zf<|zc<|ze<|za<|e_ru (zd 1 ty30 rfl rfl (.t2 .nil))<|e_ru (zd 0 ty30 rfl rfl (.t2 .nil))<|zq rfl rfl (.c rfl (.c rfl .n)) ce217 (zOe (s:=s) (p1:=p1) (n1:=n1) (c1:=c1) (l1:=l1) (t:=t) (p2:=p2) (n2:=n2) (c2:=c2) (l2:=l2) (hn1:=ass) (hn2:=ass) (hm1:=by first|rfl|assumption|omega|(unfold yq;omega)) (hm2:=by first|rfl|assumption|omega|(unfold yq;omega))) (.c (j:=0) rfl (.c (j:=1) rfl .n)) ?_
 rintro ⟨p33,c34⟩ -
 dsimp only [aq,nq,cq]
 refine zJ rfl rfl (.c rfl .n) ce62 (zjd (z:=yh s l1 - yh t l2) (p:=p33) (cap:=c34) (hln:=by first|rfl|assumption|omega|(unfold yq;omega))) (.c (j:=0) rfl .n)<|e_p (zb rfl)<|zf<|zc<|zE ?_
 exact zy Tryz.results151 () trivial (zp rfl) rfl (ho:=oN) sN
theorem zCd {x1:Int} {x2:Int} {p1:Option Addr} {c1:Nat} {p2:Option Addr} {c2:Nat} (hb1:yq x1≤2199023255552) (hb2:yq x2≤2199023255552):Con yl 151 [.agg #[.bool (decide ((x1)<0)),.slice (p1) ((yg ((x1).natAbs)).length) (c1)],.agg #[.bool (decide ((x2)<0)),.slice (p2) ((yg ((x2).natAbs)).length) (c2)]] [] [slF (rI .u32) (p1) (c1) (yg ((x1).natAbs)),slF (rI .u32) (p2) (c2) (yg ((x2).natAbs))] (Y:=Unit) (fun y=>True) (fun y=> yd ye ((x1 - x2).sign)) (fun y=>[]) (fun y=>[]):=by
  have h:= @zZd (decide ((x1)<0)) p1 (yg (x1).natAbs).length c1 (yg (x1).natAbs) (decide ((x2)<0)) p2 (yg (x2).natAbs).length c2 (yg (x2).natAbs) rfl rfl hb1 hb2
  rw [yw,yw] at h
  exact h
theorem zae {x1:Int} {x2:Int} {p1:Option Addr} {c1:Nat} {p2:Option Addr} {c2:Nat} (hb1:yq x1≤1099511627776) (hb2:yq x2≤1099511627776) (hy:x2≠0):Con yl 206 [.agg #[.bool (decide (x1<0)),.slice p1 ((yg ((x1).natAbs)).length) c1],.agg #[.bool (decide (x2<0)),.slice p2 ((yg ((x2).natAbs)).length) c2]] [] [slF (rI .u32) p1 c1 (yg ((x1).natAbs)),slF (rI .u32) p2 c2 (yg ((x2).natAbs))] (Y:=(Option Addr)×Nat×(Option Addr)×Nat) (fun y=>True) (fun y=> .tuple #[.agg #[.bool (decide ((yC x1 x2)<0)),.slice (y.1) ((yg ((yC x1 x2).natAbs)).length) (y.2.1)],.agg #[.bool (decide ((yU x1 x2)<0)),.slice (y.2.2.1) ((yg ((yU x1 x2).natAbs)).length) (y.2.2.2)],yd ye 0]) (fun y=>[]) (fun y=>[slF (rI .u32) (y.1) (y.2.1) (yg ((yC x1 x2).natAbs)),slF (rI .u32) (y.2.2.1) (y.2.2.2) (yg ((yU x1 x2).natAbs))]):=by
 refine zl Tryz.func206 rfl rfl rfl (fun c=> ?_)
 show RunC _ _ _ _ _ [(0,.agg #[.bool (decide (x1<0)),.slice p1 ((yg ((x1).natAbs)).length) c1]),(1,.agg #[.bool (decide (x2<0)),.slice p2 ((yg ((x2).natAbs)).length) c2])] [] [slF (rI .u32) p1 c1 (yg ((x1).natAbs)),slF (rI .u32) p2 c2 (yg ((x2).natAbs))]
 refine zX 0 rfl (fun hL0=> ?_)
 refine zX 1 rfl (fun hL1=> ?_)
 have hfl:=Big.ln_fq (x:=x1) hy
 have hml:=Big.zPa (yC x1 x2) x2
 unfold yq at hb1 hb2 hfl hml
 have hd1:=Nat.div_le_self x1.natAbs x2.natAbs
 have hd2:=Nat.mod_lt x1.natAbs (show 0<x2.natAbs by omega)
 have hl1:=yB hd1
 have hl2:=yB (Nat.le_of_lt hd2)
 refine ze<|za<|zD rfl rfl (zT rfl rfl) (fun b1=> ?_)
 refine zD rfl rfl (zT rfl rfl) (fun b2=> ?_)
 refine zD rfl rfl (zo zr30 rfl) (fun b3=> ?_)
 refine zD rfl rfl (zo zr30 rfl) (fun b4=> ?_)
 refine e_p (zb rfl)<|zf<|zc<|ze<|zoa (.c (i:=3) rfl (.c (i:=2) rfl (.c (i:=0) rfl (.c (i:=0) rfl .n))))<|zW (OW:=[boxA b1 30 [.bool (decide (x1<0)),.slice p1 ((yg ((x1).natAbs)).length) c1],boxA b2 30 [.bool (decide (x2<0)),.slice p2 ((yg ((x2).natAbs)).length) c2]]) (O:=[boxA b4 30 [wz.b,wz.l],boxA b3 30 [wz.b,wz.l]]) 4 mixed (.then .ret) kr<|e_uw 0 rfl rfl (zd 0 ty30 rfl rfl (.t2 .nil))<|e_uw 2 rfl rfl (zd 1 ty30 rfl rfl (.t2 .nil))<|e_one 1 (zv rfl rfl rfl rfl (.c rfl .n) ce149 (zTc (z:=x1) (p:=p1) (cap:=c1) (hln:=by first|rfl|assumption|omega|(unfold yq;omega)|(unfold yq;rw [hsq];omega)|(decide +kernel))) (.c (j:=0) rfl .n) ?_)
 rintro ⟨p25,c26⟩ -
 dsimp only [aq,nq,cq]
 refine e_one 3 (zv rfl rfl rfl rfl (.c rfl .n) ce149 (zTc (z:=x2) (p:=p2) (cap:=c2) (hln:=by first|rfl|assumption|omega|(unfold yq;omega)|(unfold yq;rw [hsq];omega)|(decide +kernel))) (.c (j:=2) rfl .n) ?_)
 rintro ⟨p27,c28⟩ -
 dsimp only [aq,nq,cq]
 refine e_one 4 (zr kr rfl rfl rfl rfl rfl sz30 rfl (.t2 .nil) ?_)
 refine zDa (zba (i:=1) rfl)<|e_one 5 (zr kr rfl rfl rfl rfl rfl sz30 rfl (.t2 .nil) ?_)
 refine zN kr<|zc<|ze<|ze<|za<|e_p (zh yj rfl sz28 rfl rfl)<|e_ru (zg 0 ty28 rfl rfl rfl)<|e_p (zG yi rfl)<|e_p (zxa rfl rfl)<|zf<|zc<|zI rfl (fun h9=> ?_) (fun h9=> ?_)
 ·
  exact absurd (yK.1 (show (yg x2.natAbs).length=0 by omega)) om
 ·
  refine zx<|zc<|ze<|za<|e_p (zh yj rfl sz28 rfl rfl)<|e_ru (zg 1 ty28 rfl rfl rfl)<|e_p (zh yj rfl sz28 rfl rfl)<|e_ru (zg 0 ty28 rfl rfl rfl)<|zq rfl rfl (.c rfl (.c rfl .n)) ce218 (zld (a:=(x1).natAbs) (b:=(x2).natAbs) (p1:=p25) (c1:=c26) (p2:=p27) (c2:=c28) (hb1:=by first|rfl|assumption|omega|(unfold yq;omega)|(unfold yq;rw [hsq];omega)|(decide +kernel)) (hb2:=by first|rfl|assumption|omega|(unfold yq;omega)|(unfold yq;rw [hsq];omega)|(decide +kernel)) (hb0:=by first|rfl|assumption|omega|(unfold yq;omega)|(unfold yq;rw [hsq];omega)|(decide +kernel))) (.c (j:=1) rfl (.c (j:=0) rfl .n)) ?_
  rintro ⟨p310,c311,p412,c413⟩ -
  dsimp only [aq,nq,cq]
  refine e_mv rfl<|e_p (zm rfl rfl)<|e_p (zm rfl rfl)<|e_p (zb rfl)<|e_p (zb rfl)<|zf<|zc<|ze ?_
  obtain ⟨Q,hQ⟩:∃z,z=((x1).natAbs) / ((x2).natAbs):=⟨_,rfl⟩
  rw [← hQ]
  obtain ⟨R0,hR0⟩:∃z,z=((x1).natAbs)%((x2).natAbs):=⟨_,rfl⟩
  rw [← hR0]
  rw [← hQ] at hl1
  rw [← hR0] at hl2
  have hsq:(yA (decide (decide (x1<0)≠decide (x2<0))) (Q:Int)).natAbs=Q:=by rw [yT om];exact Int.toNat_natCast _
  refine za<|e_p (zh yj rfl sz4 rfl rfl)<|e_ru (zg 1 ty4 rfl rfl rfl)<|e_p (zh yj rfl sz4 rfl rfl)<|e_ru (zg 0 ty4 rfl rfl rfl)<|e_p (zNa yL rfl rfl)<|e_mv rfl<|zq rfl rfl (.c rfl (.c rfl .n)) ce168 (zkb (s:=decide (decide (x1<0)≠decide (x2<0))) (a:=Q) (p:=p310) (cap:=c311) (hln:=by first|rfl|assumption|omega|(unfold yq;omega)|(unfold yq;rw [hsq];omega)|(decide +kernel))) (.c (j:=0) rfl .n) ?_
  rintro ⟨p214,c215⟩ -
  dsimp only [aq,nq,cq]
  refine zD rfl rfl (zo zr30 rfl) (fun b16=> ?_)
  refine zk 0 rfl rfl rfl rfl rfl sz30 rfl (.t2 .nil) .z<|zf<|zc<|ze<|ze<|za<|e_p (zh yj rfl sz4 rfl rfl)<|e_ru (zg 2 ty4 rfl rfl rfl)<|e_p (zh yj rfl sz4 rfl rfl)<|e_ru (zg 1 ty4 rfl rfl rfl)<|e_p (zNa yL rfl rfl)<|zja rfl rfl (zna rfl) (fun hsd=> ?_) (fun hsd=> ?_)
  ·
   refine e_mv rfl<|e_p (zG yi rfl)<|e_p (zpa rfl rfl)<|e_p (zC rfl rfl)<|zf<|zc<|zI rfl (fun hadj=> ?_) (fun hadj=> ?_)
   ·
    have hr0:x1.natAbs%x2.natAbs≠0:=fun e=>by rw [hR0,e,Big.digs_zero] at hadj;exact absurd hadj dd
    have hqz:yA (decide (decide (x1<0)≠decide (x2<0))) (Q:Int) - 1=yC x1 x2:=by have h9:=(Big.fq_odd hy hsd hr0).1;rw [← h9,decide_eq_true hsd,hQ,Big.sg_t,Big.sg_t];omega
    refine zW (OW:=[boxA b16 30 [.bool (decide ((yA (decide (decide (x1<0)≠decide (x2<0))) (Q:Int))<0)),.slice p214 ((yg ((yA (decide (decide (x1<0)≠decide (x2<0))) (Q:Int)).natAbs)).length) c215]]) (O:=[boxA b2 30 [.bool (decide (x2<0)),.slice p27 ((yg ((x2).natAbs)).length) c28],boxA b1 30 [.bool (decide (x1<0)),.slice p25 ((yg ((x1).natAbs)).length) c26],boxA b4 30 [wz.b,wz.l],boxA b3 30 [wz.b,wz.l]]) 3 mixed (.then .ret) kr<|e_uw 0 rfl rfl (zd 0 ty30 rfl rfl (.t2 .nil))<|e_one 1 (zv rfl rfl rfl rfl (.c rfl .n) ce148 (zLf (z:=1) (hz:=by first|rfl|assumption|omega|(unfold yq;omega)|(unfold yq;rw [hsq];omega)|(decide +kernel))) (.n) ?_)
    rintro ⟨p217,c218⟩ -
    dsimp only [aq,nq,cq]
    refine e_one 2 (zv rfl rfl rfl rfl (.c rfl (.c rfl .n)) ce217 (znc (x1:=yA (decide (decide (x1<0)≠decide (x2<0))) (Q:Int)) (x2:=1) (p1:=p214) (c1:=c215) (p2:=p217) (c2:=c218) (hb1:=by first|rfl|assumption|omega|(unfold yq;omega)|(unfold yq;rw [hsq];omega)|(decide +kernel)) (hb2:=by first|rfl|assumption|omega|(unfold yq;omega)|(unfold yq;rw [hsq];omega)|(decide +kernel))) (.c (j:=1) rfl (.c (j:=0) rfl .n)) ?_)
    rintro ⟨p319,c320⟩ -
    dsimp only [aq,nq,cq]
    refine e_one 3 (zr kr rfl rfl rfl rfl rfl sz30 rfl (.t2 .nil) ?_)
    refine zN kr<|zc<|ze ?_
    have e21:(yA (decide (decide (x1<0)≠decide (x2<0))) (Q:Int)) - 1=yC x1 x2:=by exact hqz
    rw [e21]
    refine zoa (.c (i:=4) rfl (.c (i:=3) rfl (.c (i:=0) rfl (.c (i:=0) rfl (.c (i:=0) rfl .n)))))<|zW (OW:=[boxA b3 30 [wz.b,wz.l],boxA b4 30 [wz.b,wz.l]]) (O:=[boxA b16 30 [.bool (decide ((yC x1 x2)<0)),.slice p319 ((yg ((yC x1 x2).natAbs)).length) c320],boxA b2 30 [.bool (decide (x2<0)),.slice p27 ((yg ((x2).natAbs)).length) c28],boxA b1 30 [.bool (decide (x1<0)),.slice p25 ((yg ((x1).natAbs)).length) c26]]) 6 mixed (.then .ret) kr<|e_uw 0 rfl rfl (zd 2 ty30 rfl rfl (.t2 .nil))<|e_uw 1 rfl rfl (zd 4 ty30 rfl rfl (.t2 .nil))<|e_uw 2 rfl rfl (zd 2 ty30 rfl rfl (.t2 .nil))<|e_uw 3 rfl rfl (zd 3 ty30 rfl rfl (.t2 .nil))<|e_one 4 (zv rfl rfl rfl rfl (.c rfl (.c rfl .n)) ce127 (zoc (x1:=yC x1 x2) (x2:=x2) (p1:=p319) (c1:=c320) (p2:=p27) (c2:=c28) (hb1:=by first|rfl|assumption|omega|(unfold yq;omega)|(unfold yq;rw [hsq];omega)|(decide +kernel)) (hb2:=by first|rfl|assumption|omega|(unfold yq;omega)|(unfold yq;rw [hsq];omega)|(decide +kernel))) (.c (j:=0) rfl (.c (j:=5) rfl .n)) ?_)
    rintro ⟨p322,c323⟩ -
    dsimp only [aq,nq,cq]
    refine e_one 5 (zv rfl rfl rfl rfl (.c rfl (.c rfl .n)) ce217 (znc (x1:=x1) (x2:=(yC x1 x2)*x2) (p1:=p25) (c1:=c26) (p2:=p322) (c2:=c323) (hb1:=by first|rfl|assumption|omega|(unfold yq;omega)|(unfold yq;rw [hsq];omega)|(decide +kernel)) (hb2:=by first|rfl|assumption|omega|(unfold yq;omega)|(unfold yq;rw [hsq];omega)|(decide +kernel))) (.c (j:=7) rfl (.c (j:=0) rfl .n)) ?_)
    rintro ⟨p324,c325⟩ -
    dsimp only [aq,nq,cq]
    refine e_one 6 (zr kr rfl rfl rfl rfl rfl sz30 rfl (.t2 .nil) ?_)
    refine zDa (zba (i:=1) rfl)<|e_one 7 (zr kr rfl rfl rfl rfl rfl sz30 rfl (.t2 .nil) ?_)
    refine e_pv 8 rfl rfl (zb rfl)<|zN kr<|zc<|zE ?_
    have hz2:x1 - yC x1 x2*x2=yU x1 x2:=by unfold yU;rw [Int.mul_comm]
    exact zJc Tryz.results206 (p319,c320,p324,c325) trivial (zn 1 ty30 rfl rfl (.t2 .nil)) (zn 0 ty30 rfl rfl (.t2 .nil)) (zp rfl) (by rw [hz2]) (ho:=oN) ((.c (j:=2) rfl (.e (j:=0) rfl (by rw [hz2]) .n)):SelR _ _ _)
   ·
    have hr0:x1.natAbs%x2.natAbs=0:=yK.1 (by rw [← hR0];omega)
    have hqz:yA (decide (decide (x1<0)≠decide (x2<0))) (Q:Int)=yC x1 x2:=by rw [decide_eq_true hsd,hQ];exact (Big.fq_even hy hsd hr0).1
    refine zx<|zc<|ze ?_
    have e26:yA (decide (decide (x1<0)≠decide (x2<0))) (Q:Int)=yC x1 x2:=by exact hqz
    rw [e26]
    refine zoa (.c (i:=4) rfl (.c (i:=3) rfl (.c (i:=0) rfl (.c (i:=0) rfl (.c (i:=0) rfl .n)))))<|zW (OW:=[boxA b3 30 [wz.b,wz.l],boxA b4 30 [wz.b,wz.l]]) (O:=[boxA b16 30 [.bool (decide ((yC x1 x2)<0)),.slice p214 ((yg ((yC x1 x2).natAbs)).length) c215],boxA b2 30 [.bool (decide (x2<0)),.slice p27 ((yg ((x2).natAbs)).length) c28],boxA b1 30 [.bool (decide (x1<0)),.slice p25 ((yg ((x1).natAbs)).length) c26]]) 6 mixed (.then .ret) kr<|e_uw 0 rfl rfl (zd 2 ty30 rfl rfl (.t2 .nil))<|e_uw 1 rfl rfl (zd 4 ty30 rfl rfl (.t2 .nil))<|e_uw 2 rfl rfl (zd 2 ty30 rfl rfl (.t2 .nil))<|e_uw 3 rfl rfl (zd 3 ty30 rfl rfl (.t2 .nil))<|e_one 4 (zv rfl rfl rfl rfl (.c rfl (.c rfl .n)) ce127 (zoc (x1:=yC x1 x2) (x2:=x2) (p1:=p214) (c1:=c215) (p2:=p27) (c2:=c28) (hb1:=by first|rfl|assumption|omega|(unfold yq;omega)|(unfold yq;rw [hsq];omega)|(decide +kernel)) (hb2:=by first|rfl|assumption|omega|(unfold yq;omega)|(unfold yq;rw [hsq];omega)|(decide +kernel))) (.c (j:=0) rfl (.c (j:=3) rfl .n)) ?_)
    rintro ⟨p327,c328⟩ -
    dsimp only [aq,nq,cq]
    refine e_one 5 (zv rfl rfl rfl rfl (.c rfl (.c rfl .n)) ce217 (znc (x1:=x1) (x2:=(yC x1 x2)*x2) (p1:=p25) (c1:=c26) (p2:=p327) (c2:=c328) (hb1:=by first|rfl|assumption|omega|(unfold yq;omega)|(unfold yq;rw [hsq];omega)|(decide +kernel)) (hb2:=by first|rfl|assumption|omega|(unfold yq;omega)|(unfold yq;rw [hsq];omega)|(decide +kernel))) (.c (j:=5) rfl (.c (j:=0) rfl .n)) ?_)
    rintro ⟨p329,c330⟩ -
    dsimp only [aq,nq,cq]
    refine e_one 6 (zr kr rfl rfl rfl rfl rfl sz30 rfl (.t2 .nil) ?_)
    refine zDa (zba (i:=1) rfl)<|e_one 7 (zr kr rfl rfl rfl rfl rfl sz30 rfl (.t2 .nil) ?_)
    refine e_pv 8 rfl rfl (zb rfl)<|zN kr<|zc<|zE ?_
    have hz2:x1 - yC x1 x2*x2=yU x1 x2:=by unfold yU;rw [Int.mul_comm]
    exact zJc Tryz.results206 (p214,c215,p329,c330) trivial (zn 1 ty30 rfl rfl (.t2 .nil)) (zn 0 ty30 rfl rfl (.t2 .nil)) (zp rfl) (by rw [hz2]) (ho:=oN) ((.c (j:=2) rfl (.e (j:=0) rfl (by rw [hz2]) .n)):SelR _ _ _)
  ·
   have hs9:=Decidable.not_not.1 hsd
   have hqz:yA (decide (decide (x1<0)≠decide (x2<0))) (Q:Int)=yC x1 x2:=by rw [decide_eq_false hsd,hQ];exact (Big.fq_same hy hs9).1
   refine e_no<|e_no<|e_no<|e_p (zC rfl rfl)<|zf<|zc<|zaa rfl rfl<|zx<|zc<|ze ?_
   have e31:yA (decide (decide (x1<0)≠decide (x2<0))) (Q:Int)=yC x1 x2:=by exact hqz
   rw [e31]
   refine zoa (.c (i:=4) rfl (.c (i:=3) rfl (.c (i:=0) rfl (.c (i:=0) rfl (.c (i:=0) rfl .n)))))<|zW (OW:=[boxA b3 30 [wz.b,wz.l],boxA b4 30 [wz.b,wz.l]]) (O:=[boxA b16 30 [.bool (decide ((yC x1 x2)<0)),.slice p214 ((yg ((yC x1 x2).natAbs)).length) c215],boxA b2 30 [.bool (decide (x2<0)),.slice p27 ((yg ((x2).natAbs)).length) c28],boxA b1 30 [.bool (decide (x1<0)),.slice p25 ((yg ((x1).natAbs)).length) c26]]) 6 mixed (.then .ret) kr<|e_uw 0 rfl rfl (zd 2 ty30 rfl rfl (.t2 .nil))<|e_uw 1 rfl rfl (zd 4 ty30 rfl rfl (.t2 .nil))<|e_uw 2 rfl rfl (zd 2 ty30 rfl rfl (.t2 .nil))<|e_uw 3 rfl rfl (zd 3 ty30 rfl rfl (.t2 .nil))<|e_one 4 (zv rfl rfl rfl rfl (.c rfl (.c rfl .n)) ce127 (zoc (x1:=yC x1 x2) (x2:=x2) (p1:=p214) (c1:=c215) (p2:=p27) (c2:=c28) (hb1:=by first|rfl|assumption|omega|(unfold yq;omega)|(unfold yq;rw [hsq];omega)|(decide +kernel)) (hb2:=by first|rfl|assumption|omega|(unfold yq;omega)|(unfold yq;rw [hsq];omega)|(decide +kernel))) (.c (j:=0) rfl (.c (j:=3) rfl .n)) ?_)
   rintro ⟨p332,c333⟩ -
   dsimp only [aq,nq,cq]
   refine e_one 5 (zv rfl rfl rfl rfl (.c rfl (.c rfl .n)) ce217 (znc (x1:=x1) (x2:=(yC x1 x2)*x2) (p1:=p25) (c1:=c26) (p2:=p332) (c2:=c333) (hb1:=by first|rfl|assumption|omega|(unfold yq;omega)|(unfold yq;rw [hsq];omega)|(decide +kernel)) (hb2:=by first|rfl|assumption|omega|(unfold yq;omega)|(unfold yq;rw [hsq];omega)|(decide +kernel))) (.c (j:=5) rfl (.c (j:=0) rfl .n)) ?_)
   rintro ⟨p334,c335⟩ -
   dsimp only [aq,nq,cq]
   refine e_one 6 (zr kr rfl rfl rfl rfl rfl sz30 rfl (.t2 .nil) ?_)
   refine zDa (zba (i:=1) rfl)<|e_one 7 (zr kr rfl rfl rfl rfl rfl sz30 rfl (.t2 .nil) ?_)
   refine e_pv 8 rfl rfl (zb rfl)<|zN kr<|zc<|zE ?_
   have hz2:x1 - yC x1 x2*x2=yU x1 x2:=by unfold yU;rw [Int.mul_comm]
   exact zJc Tryz.results206 (p214,c215,p334,c335) trivial (zn 1 ty30 rfl rfl (.t2 .nil)) (zn 0 ty30 rfl rfl (.t2 .nil)) (zp rfl) (by rw [hz2]) (ho:=oN) ((.c (j:=2) rfl (.e (j:=0) rfl (by rw [hz2]) .n)):SelR _ _ _)
theorem zsb {w1:Wd} {w2:Wd} {x1:Int} {x2:Int} (hb1:yq x1≤1099511627776) (hb2:yq x2≤1099511627776) (hy:x2≠0):Con yl 206 [.agg #[w1.b,w1.l],.agg #[w2.b,w2.l]] [] [zF w1 (x1),zF w2 (x2)] (Y:=(Wd)×(Wd)) (fun y=>True) (fun y=> .tuple #[.agg #[y.1.b,y.1.l],.agg #[y.2.b,y.2.l],yd ye (0)]) (fun y=>[]) (fun y=>[zF y.1 (yC x1 x2),zF y.2 (yU x1 x2)]):=by
  exact zDf (zAc (fun p1 c1 p2 c2=>zae hb1 hb2 hy))
end Go.Proofs.YtpdbimfnhglhpaaGreat.Sp
namespace Go.Proofs.YtpdbimfnhglhpaaGreat.Sp
open Go
set_option linter.unusedVariables false
set_option maxRecDepth 100000
set_option maxHeartbeats 8000000
theorem zmd {z:Int} (hz: -9223372036854775808≤z∧z≤9223372036854775807):Con yl 61 [yd ye z] [] [] (Y:=(Option Addr)×Nat) (fun y=>True) (fun y=> .agg #[.bool (decide (z<0)),.slice (y.1) ((yg ((z).natAbs)).length) (y.2)]) (fun y=>[]) (fun y=>[slF (rI .u32) (y.1) (y.2) (yg ((z).natAbs))]):=by
 refine zl Tryz.func61 rfl rfl rfl (fun c=> ?_)
 show RunC _ _ _ _ _ [(0,yd ye z)] [] []
 refine ze<|za<|zD rfl rfl (zo zr30 rfl) (fun b1=> ?_)
 refine zf<|zc<|ze<|za<|e_mv rfl<|zq rfl rfl (.c rfl .n) ce148 (zLf (z:=z) (hz:=ass)) (.n) ?_
 rintro ⟨p22,c23⟩ -
 dsimp only [aq,nq,cq]
 refine zk 0 rfl rfl rfl rfl rfl sz30 rfl (.t2 .nil) .z<|zf<|zc<|zE ?_
 exact zy Tryz.results61 (p22,c23) trivial (zn 0 ty30 rfl rfl (.t2 .nil)) rfl (ho:=oN) (s0 rfl)
theorem zFb {z:Int} (hz: -9223372036854775808≤z∧z≤9223372036854775807):Con yl 61 [yd ye (z)] [] [] (Y:=(Wd)) (fun y=>True) (fun y=> .agg #[y.b,y.l]) (fun y=>[]) (fun y=>[zF y (z)]):=by
  exact zSb (zmd hz)
theorem znd {z:Int} (hz: -9223372036854775808≤z∧z≤9223372036854775807):Con yl 48 [yd ye z] [] [] (Y:=Wd×Wd) (fun y=>True) (fun y=> .agg #[y.1.b,y.1.l,y.2.b,y.2.l]) (fun y=>[]) (fun y=>[qF true y.1 y.2 ((z:Int):Rat)]):=by
 refine zl Tryz.func48 rfl rfl rfl (fun c=> ?_)
 show RunC _ _ _ _ _ [(0,yd ye z)] [] []
 refine ze<|za<|zD rfl rfl (zo zr32 rfl) (fun b1=> ?_)
 refine zf<|zc<|ze<|za<|e_mv rfl<|zq rfl rfl (.c rfl .n) ce61 (zFb (z:=z) (hz:=ass)) (.n) ?_
 rintro w32 -
 dsimp only [aq,nq,cq]
 refine zq rfl rfl (.c rfl .n) ce61 (zFb (z:=1) (hz:=by first|rfl|assumption|omega|(rw [yv];omega)|(decide +kernel))) (.n) ?_
 rintro w33 -
 dsimp only [aq,nq,cq]
 refine e_p (zR zr32 rfl yr (.c sz30 (.c sz30 .n)) (.c rfl (.c rfl .n)) (.c rfl rfl rfl (.t2 .nil) (.c rfl rfl rfl (.s2 (.t2 .nil)) .n)))<|zk 0 rfl rfl rfl rfl rfl sz32 rfl (.t4 .nil) .z<|zf<|zc<|zE<|zHb (qF true w32 w33 ((z:Int):Rat)) (qF_close 1 0 rfl rfl (by exact ⟨(Rat.num_intCast z).symm,by rw [Rat.den_intCast];rfl,Nat.le_trans (Big.hq_64 hz.1 hz.2) dd⟩)) ?_
 exact zy Tryz.results48 (w32,w33) trivial (zn 0 ty32 rfl rfl (.t4 .nil)) rfl (ho:=oN) (s0 rfl)
theorem zWc {s:Bool} {p1:Option Addr} {n1:Nat} {c1:Nat} {l1:List Int} {t:Bool} {p2:Option Addr} {n2:Nat} {c2:Nat} {l2:List Int} (hn1:l1.length=n1) (hn2:l2.length=n2) (hm1:n1≤1099511627776) (hm2:n2≤1099511627776):Con yl 64 [.agg #[.bool s,.slice p1 n1 c1,.bool t,.slice p2 n2 c2]] [] [slF (rI .u32) p1 c1 l1,slF (rI .u32) p2 c2 l2] (Y:=Unit) (fun y=>True) (fun y=> .bool (decide (Big.qok ((s,l1),(t,l2))))) (fun y=>[]) (fun y=>[]):=by
 refine zl Tryz.func64 rfl rfl rfl (fun c=> ?_)
 show RunC _ _ _ _ _ [(0,.agg #[.bool s,.slice p1 n1 c1,.bool t,.slice p2 n2 c2])] [] [slF (rI .u32) p1 c1 l1,slF (rI .u32) p2 c2 l2]
 refine zX 0 rfl (fun hL0=> ?_)
 refine zXa 0 rfl (fun hE0=> ?_)
 refine zX 1 rfl (fun hL1=> ?_)
 refine zXa 1 rfl (fun hE1=> ?_)
 have hnn1:yM l1:=fun g hg=>(zA.1 (hE0 g hg)).1
 have hnn2:yM l2:=fun g hg=>(zA.1 (hE1 g hg)).1
 have hb1:yq (yh s l1)≤n1:=by have:=yG (s:=s) hnn1;omega
 have hb2:yq (yh t l2)≤n2:=by have:=yG (s:=t) hnn2;omega
 refine ze<|za<|zD rfl rfl (zT rfl rfl) (fun b1=> ?_)
 refine e_p (zb rfl)<|zf<|zc<|ze<|zib (X:=Unit) (fun x=>True) (fun x=>[(18,.bool (decide (¬(Big.canon s l1∧Big.canon t l2∧0<yh t l2)))),(2,.bool false),(1,yf (some ⟨b1,0,none⟩))]) (fun x=>[boxA b1 32 [.bool s,.slice p1 n1 c1,.bool t,.slice p2 n2 c2]]) (fun x=>[slF (rI .u32) p1 c1 l1,slF (rI .u32) p2 c2 l2]) ?_ ?_
 ·
  refine za<|e_p (zh yr rfl sz30 rfl rfl)<|e_ru (zd 0 ty30 rfl rfl (.t2 .nil))<|zJ rfl rfl (.c rfl .n) ce150 (zuc (s:=s) (p:=p1) (n:=n1) (cap:=c1) (l:=l1) (hn:=ass)) (.c (j:=0) rfl .n)<|e_p (zUb rfl)<|zja rfl rfl (zna rfl) (fun h2=> ?_) (fun h2=> ?_)
  ·
   refine e_no<|e_no<|e_no<|e_no<|e_p (zC rfl rfl)<|e_mv rfl<|e_no<|e_no<|e_no<|e_no<|e_p (zC rfl rfl)<|zf ?_
   exact zka () tt9 ((.e rfl (congrArg Value.bool (by simp_all)) (.c rfl (.c rfl .n))):SubM _ _) (ho:=(o0 rfl)) ((.of [0,1] rfl):SelR _ _ _)
  ·
   refine e_p (zh yr rfl sz30 rfl rfl)<|e_ru (zd 0 ty30 rfl rfl (.s2 (.t2 .nil)))<|zJ rfl rfl (.c rfl .n) ce150 (zuc (s:=t) (p:=p2) (n:=n2) (cap:=c2) (l:=l2) (hn:=ass)) (.c (j:=1) rfl .n)<|e_p (zUb rfl)<|e_p (zC rfl rfl)<|zja rfl rfl (zna rfl) (fun h3=> ?_) (fun h3=> ?_)
   ·
    refine e_no<|e_no<|e_no<|e_no<|e_p (zC rfl rfl)<|zf ?_
    exact zka () tt9 ((.e rfl (congrArg Value.bool (by simp_all)) (.c rfl (.c rfl .n))):SubM _ _) (ho:=(o0 rfl)) ((.of [0,1] rfl):SelR _ _ _)
   ·
    refine e_p (zh yr rfl sz30 rfl rfl)<|e_ru (zd 0 ty30 rfl rfl (.s2 (.t2 .nil)))<|zJ rfl rfl (.c rfl .n) ce62 (zWd (s:=t) (p:=p2) (n:=n2) (cap:=c2) (l:=l2) (hn:=ass) (hln:=by first|rfl|assumption|omega|(rw [yv];omega)|(decide +kernel))) (.c (j:=1) rfl .n)<|e_p (zId rfl rfl)<|e_p (zC rfl rfl)<|zf ?_
    exact zka () tt9 ((.e rfl (congrArg Value.bool (by exact decide_eq_decide.2 (Big.sgn_le (Decidable.not_not.1 ‹_›) (Decidable.not_not.1 ‹_›)))) (.c rfl (.c rfl .n))):SubM _ _) (ho:=(o0 rfl)) ((.of [0,1] rfl):SelR _ _ _)
 ·
  rintro ⟨⟩ -
  try dsimp only
  refine zI rfl (fun hc=> ?_) (fun hc=> ?_)
  ·
   refine ze<|za<|e_p (zb rfl)<|zf<|zc<|zE<|zB ?_
   exact zy Tryz.results64 () trivial (zp rfl) (congrArg Value.bool (decide_eq_false (fun h=>hc ⟨h.1,h.2.1,h.2.2.1⟩))) (ho:=oN) sN
  ·
   have hcc:=Decidable.not_not.1 hc
   have hgl:=Big.zQd (n:=yh s l1) (d:=yh t l2) om
   refine zx<|zc<|ze<|za<|e_p (zh yr rfl sz30 rfl rfl)<|e_ru (zd 0 ty30 rfl rfl (.t2 .nil))<|e_p (zh yr rfl sz30 rfl rfl)<|e_ru (zd 0 ty30 rfl rfl (.s2 (.t2 .nil)))<|zq rfl rfl (.c rfl (.c rfl .n)) ce152 (zPe (s:=s) (p1:=p1) (n1:=n1) (c1:=c1) (l1:=l1) (t:=t) (p2:=p2) (n2:=n2) (c2:=c2) (l2:=l2) (hn1:=ass) (hn2:=ass) (hm1:=by first|rfl|assumption|omega|(rw [yv];omega)|(decide +kernel)) (hm2:=by first|rfl|assumption|omega|(rw [yv];omega)|(decide +kernel))) (.c (j:=0) rfl (.c (j:=1) rfl .n)) ?_
   rintro ⟨p34,c35⟩ -
   dsimp only [aq,nq,cq]
   refine zq rfl rfl (.c rfl .n) ce61 (zmd (z:=1) (hz:=by first|rfl|assumption|omega|(rw [yv];omega)|(decide +kernel))) (.n) ?_
   rintro ⟨p26,c27⟩ -
   dsimp only [aq,nq,cq]
   refine zJ rfl rfl (.c rfl (.c rfl .n)) ce151 (zCd (x1:=((Nat.gcd (yh s l1).natAbs (yh t l2).natAbs:Nat):Int)) (x2:=1) (p1:=p34) (c1:=c35) (p2:=p26) (c2:=c27) (hb1:=by first|rfl|assumption|omega|(rw [yv];omega)|(decide +kernel)) (hb2:=by first|rfl|assumption|omega|(rw [yv];omega)|(decide +kernel))) (.c (j:=1) rfl (.c (j:=0) rfl .n))<|e_p (zxa rfl rfl)<|e_p (zb rfl)<|zf<|zc<|zE ?_
   exact zy Tryz.results64 () trivial (zp rfl) (congrArg Value.bool (decide_eq_decide.2 (Big.qok_sub (x:=((s,l1),(t,l2))) (Decidable.not_not.1 hc)).symm)) (ho:=oN) sN
theorem zCc {u1:Wd} {v1:Wd} {q1:Rat}:Con yl 64 [.agg #[u1.b,u1.l,v1.b,v1.l]] [] [qF true u1 v1 (q1)] (Y:=Unit) (fun y=>True) (fun y=> .bool true) (fun y=>[]) (fun y=>[]):=by
  exact zBf (fun x hx hk h1 h2=>by have h:= @zWc x.1.1 u1.p _ u1.c x.1.2 x.2.1 v1.p _ v1.c x.2.2 rfl rfl h1 h2;rw [decide_eq_true (hk rfl)] at h;exact h)
theorem zze {s:Bool} {p1:Option Addr} {n1:Nat} {c1:Nat} {l1:List Int} {t:Bool} {p2:Option Addr} {n2:Nat} {c2:Nat} {l2:List Int} (hn1:l1.length=n1) (hn2:l2.length=n2) (hm1:n1≤1099511627776) (hm2:n2≤1099511627776):Con yl 63 [.agg #[.bool s,.slice p1 n1 c1,.bool t,.slice p2 n2 c2]] [] [slF (rI .u32) p1 c1 l1,slF (rI .u32) p2 c2 l2] (Y:=Wd×Wd) (fun y=>True) (fun y=> .agg #[y.1.b,y.1.l,y.2.b,y.2.l]) (fun y=>[]) (fun y=>[qF true y.1 y.2 (Big.qv ((s,l1),(t,l2)))]):=by
 refine zl Tryz.func63 rfl rfl rfl (fun c=> ?_)
 show RunC _ _ _ _ _ [(0,.agg #[.bool s,.slice p1 n1 c1,.bool t,.slice p2 n2 c2])] [] [slF (rI .u32) p1 c1 l1,slF (rI .u32) p2 c2 l2]
 refine zX 0 rfl (fun hL0=> ?_)
 refine zXa 0 rfl (fun hE0=> ?_)
 refine zX 1 rfl (fun hL1=> ?_)
 refine zXa 1 rfl (fun hE1=> ?_)
 have hnn1:yM l1:=fun g hg=>(zA.1 (hE0 g hg)).1
 have hnn2:yM l2:=fun g hg=>(zA.1 (hE1 g hg)).1
 have hb1:yq (yh s l1)≤n1:=by have:=yG (s:=s) hnn1;omega
 have hb2:yq (yh t l2)≤n2:=by have:=yG (s:=t) hnn2;omega
 refine ze<|za<|zD rfl rfl (zT rfl rfl) (fun b1=> ?_)
 refine zD rfl rfl (zo zr32 rfl) (fun b2=> ?_)
 refine zf<|zc<|ze<|ze<|za<|e_ru (zd 1 ty32 rfl rfl (.t4 .nil))<|zJ rfl rfl (.c rfl .n) ce64 (zWc (s:=s) (p1:=p1) (n1:=n1) (c1:=c1) (l1:=l1) (t:=t) (p2:=p2) (n2:=n2) (c2:=c2) (l2:=l2) (hn1:=ass) (hn2:=ass) (hm1:=ass) (hm2:=ass)) (.c (j:=0) rfl (.c (j:=1) rfl .n))<|zf<|zc<|zI rfl (fun hq=> ?_) (fun hq=> ?_)
 ·
  have hrp:=Big.raw_parts (x:=((s,l1),(t,l2))) hnn1 hnn2 hq
  have hqp:=Big.qv_parts (x:=((s,l1),(t,l2))) hq
  have hl:yJ (Big.qv ((s,l1),(t,l2)))≤1099511627776:=by unfold yJ;rw [hqp.1,hqp.2];dsimp only;omega
  refine ze<|za<|e_ru (zd 1 ty32 rfl rfl (.t4 .nil))<|zk 0 rfl rfl rfl rfl rfl sz32 rfl (.t4 .nil) .z<|zf<|zc<|zE<|zB<|zHb (qF true ⟨s,p1,n1,c1⟩ ⟨t,p2,n2,c2⟩ (Big.qv ((s,l1),(t,l2)))) (fun g r=>qF_rawI 0 1 rfl rfl hn1 hn2 hm1 hm2 hq g r) ?_
  exact zy Tryz.results63 (⟨s,p1,n1,c1⟩,⟨t,p2,n2,c2⟩) trivial (zn 0 ty32 rfl rfl (.t4 .nil)) rfl (ho:=oN) (s0 rfl)
 ·
  have hz:=Big.qv_not (x:=((s,l1),(t,l2))) hq
  refine zx<|zc<|ze<|za<|zq rfl rfl (.c rfl .n) ce48 (znd (z:=0) (hz:=by first|rfl|assumption|omega|(rw [yv];omega)|(decide +kernel))) (.n) ?_
  rintro ⟨w33,w44⟩ -
  dsimp only [aq,nq,cq]
  refine zk 0 rfl rfl rfl rfl rfl sz32 rfl (.t4 .nil) .z<|zf<|zc<|zE ?_
  exact zy Tryz.results63 (w33,w44) trivial (zn 0 ty32 rfl rfl (.t4 .nil)) rfl (ho:=oN) ((.e (j:=0) rfl (by rw [hz];rfl) .n):SelR _ _ _)
theorem zhb {k1:Bool} {u1:Wd} {v1:Wd} {q1:Rat}:Con yl 63 [.agg #[u1.b,u1.l,v1.b,v1.l]] [] [qF k1 u1 v1 (q1)] (Y:=(Wd)×(Wd)) (fun y=>True) (fun y=> .agg #[y.1.b,y.1.l,y.2.b,y.2.l]) (fun y=>[]) (fun y=>[qF true y.1 y.2 (q1)]):=by
  exact zCf (fun x hx hk h1 h2 hl=>by subst hx;exact zze rfl rfl h1 h2)
theorem zDc {w1:Wd} {w2:Wd} {x1:Int} {x2:Int} (hl1:yq x1≤1099511627776) (hl2:yq x2≤1099511627776) (hd:x2≠0):Con yl 126 [.agg #[w1.b,w1.l],.agg #[w2.b,w2.l]] [] [zF w1 x1,zF w2 x2] (Y:=Wd×Wd) (fun y=>True) (fun y=> .agg #[y.1.b,y.1.l,y.2.b,y.2.l]) (fun y=>[]) (fun y=>[qF true y.1 y.2 (Rat.divInt x1 x2)]):=by
 refine zl Tryz.func126 rfl rfl rfl (fun c=> ?_)
 show RunC _ _ _ _ _ [(0,.agg #[w1.b,w1.l]),(1,.agg #[w2.b,w2.l])] [] [zF w1 x1,zF w2 x2]
 refine ze<|za<|zD rfl rfl (zT rfl rfl) (fun b1=> ?_)
 refine zD rfl rfl (zT rfl rfl) (fun b2=> ?_)
 refine zD rfl rfl (zo zr32 rfl) (fun b3=> ?_)
 refine zf<|zc<|ze<|za<|e_ru (zd 2 ty30 rfl rfl (.t2 .nil))<|e_ru (zd 1 ty30 rfl rfl (.t2 .nil))<|zq rfl rfl (.c rfl (.c rfl .n)) ce152 (zRf (w1:=w1) (w2:=w2) (x1:=x1) (x2:=x2) (hb1:=by first|rfl|assumption|omega|(rw [yv];omega)|(decide +kernel)) (hb2:=by first|rfl|assumption|omega|(rw [yv];omega)|(decide +kernel))) (.c (j:=0) rfl (.c (j:=1) rfl .n)) ?_
 rintro w34 -
 dsimp only [aq,nq,cq]
 refine zD rfl rfl (zo zr30 rfl) (fun b5=> ?_)
 refine zk 0 rfl rfl rfl rfl rfl sz30 rfl (.t2 .nil) .z<|zf<|zc<|ze<|ze<|za<|e_ru (zd 2 ty30 rfl rfl (.t2 .nil))<|zJ rfl rfl (.c rfl .n) ce62 (zvc (w1:=w2) (x1:=x2) (hln:=by first|rfl|assumption|omega|(rw [yv];omega)|(decide +kernel))) (.c (j:=2) rfl .n)<|e_p (zV rfl rfl)<|zf<|zc<|zI rfl (fun hneg=> ?_) (fun hneg=> ?_)
 ·
  have hs:x2<0:=by rcases Big.sign_le (x:=x2) with h|h|h <;> omega
  have hgp:=Big.gcd_pos_right (n:=x1) (d:=x2) om
  have hgl:=Big.zQd (n:=x1) (d:=x2) om
  obtain ⟨hr1,hr2⟩:=Big.red_neg (n:=x1) hs
  refine za<|e_ru (zd 0 ty30 rfl rfl (.t2 .nil))<|zq rfl rfl (.c rfl .n) ce83 (zVd (w1:=w34) (x1:=((Nat.gcd x1.natAbs x2.natAbs:Nat):Int)) (hln:=by first|rfl|assumption|omega|(rw [yv];omega)|(decide +kernel))) (.c (j:=0) rfl .n) ?_
  rintro w36 -
  dsimp only [aq,nq,cq]
  refine zk 0 rfl rfl rfl rfl rfl sz30 rfl (.t2 .nil) .z<|zf<|zc<|ze<|za<|e_ru (zd 3 ty30 rfl rfl (.t2 .nil))<|e_ru (zd 0 ty30 rfl rfl (.t2 .nil))<|zq rfl rfl (.c rfl (.c rfl .n)) ce206 (zsb (w1:=w1) (w2:=w36) (x1:=x1) (x2:= - ((Nat.gcd x1.natAbs x2.natAbs:Nat):Int)) (hb1:=by first|rfl|assumption|omega|(rw [yv];omega)|(decide +kernel)) (hb2:=by first|rfl|assumption|omega|(rw [yv];omega)|(decide +kernel)) (hy:=by first|rfl|assumption|omega|(rw [yv];omega)|(decide +kernel))) (.c (j:=2) rfl (.c (j:=0) rfl .n)) ?_
  rintro ⟨w37,w48⟩ -
  dsimp only [aq,nq,cq]
  refine e_mv rfl<|e_p (zm rfl rfl)<|e_p (zm rfl rfl)<|e_p (zm rfl rfl)<|zD rfl rfl (zo zr30 rfl) (fun b9=> ?_)
  refine zD rfl rfl (zo zr30 rfl) (fun b10=> ?_)
  refine zk 1 rfl rfl rfl rfl rfl sz30 rfl (.t2 .nil) (.s .z)<|zk 0 rfl rfl rfl rfl rfl sz30 rfl (.t2 .nil) .z<|e_p (zb rfl)<|zf<|zc<|ze<|za<|e_ru (zd 4 ty30 rfl rfl (.t2 .nil))<|e_ru (zd 2 ty30 rfl rfl (.t2 .nil))<|zq rfl rfl (.c rfl (.c rfl .n)) ce206 (zsb (w1:=w2) (w2:=w36) (x1:=x2) (x2:= - ((Nat.gcd x1.natAbs x2.natAbs:Nat):Int)) (hb1:=by first|rfl|assumption|omega|(rw [yv];omega)|(decide +kernel)) (hb2:=by first|rfl|assumption|omega|(rw [yv];omega)|(decide +kernel)) (hy:=by first|rfl|assumption|omega|(rw [yv];omega)|(decide +kernel))) (.c (j:=5) rfl (.c (j:=2) rfl .n)) ?_
  rintro ⟨w311,w412⟩ -
  dsimp only [aq,nq,cq]
  refine e_mv rfl<|e_p (zm rfl rfl)<|e_p (zm rfl rfl)<|e_p (zm rfl rfl)<|zD rfl rfl (zo zr30 rfl) (fun b13=> ?_)
  refine zD rfl rfl (zo zr30 rfl) (fun b14=> ?_)
  refine zk 1 rfl rfl rfl rfl rfl sz30 rfl (.t2 .nil) (.s .z)<|zk 0 rfl rfl rfl rfl rfl sz30 rfl (.t2 .nil) .z<|e_p (zb rfl)<|zf<|zc<|ze<|za<|e_ru (zd 3 ty30 rfl rfl (.t2 .nil))<|e_ru (zd 1 ty30 rfl rfl (.t2 .nil))<|e_p (zR zr32 rfl yr (.c sz30 (.c sz30 .n)) (.c rfl (.c rfl .n)) (.c rfl rfl rfl (.t2 .nil) (.c rfl rfl rfl (.s2 (.t2 .nil)) .n)))<|zk 5 rfl rfl rfl rfl rfl sz32 rfl (.t4 .nil) (.s (.s (.s (.s (.s .z)))))<|zf<|zc<|zE<|zHb (qF true w37 w311 (Rat.divInt x1 x2)) (qF_close 2 0 rfl rfl (by exact ⟨hr1,hr2,Nat.le_trans (Big.hq_divInt hd) om⟩)) ?_
  exact zy Tryz.results126 (w37,w311) trivial (zn 5 ty32 rfl rfl (.t4 .nil)) rfl (ho:=oN) (s0 rfl)
 ·
  have hs:0<x2:=by rcases Big.sign_le (x:=x2) with h|h|h <;> omega
  have hgp:=Big.gcd_pos_right (n:=x1) (d:=x2) om
  have hgl:=Big.zQd (n:=x1) (d:=x2) om
  obtain ⟨hr1,hr2⟩:=Big.red_pos (n:=x1) hs
  refine zx<|zc<|ze<|za<|e_ru (zd 3 ty30 rfl rfl (.t2 .nil))<|e_ru (zd 0 ty30 rfl rfl (.t2 .nil))<|zq rfl rfl (.c rfl (.c rfl .n)) ce206 (zsb (w1:=w1) (w2:=w34) (x1:=x1) (x2:=((Nat.gcd x1.natAbs x2.natAbs:Nat):Int)) (hb1:=by first|rfl|assumption|omega|(rw [yv];omega)|(decide +kernel)) (hb2:=by first|rfl|assumption|omega|(rw [yv];omega)|(decide +kernel)) (hy:=by first|rfl|assumption|omega|(rw [yv];omega)|(decide +kernel))) (.c (j:=1) rfl (.c (j:=0) rfl .n)) ?_
  rintro ⟨w315,w416⟩ -
  dsimp only [aq,nq,cq]
  refine e_mv rfl<|e_p (zm rfl rfl)<|e_p (zm rfl rfl)<|e_p (zm rfl rfl)<|zD rfl rfl (zo zr30 rfl) (fun b17=> ?_)
  refine zD rfl rfl (zo zr30 rfl) (fun b18=> ?_)
  refine zk 1 rfl rfl rfl rfl rfl sz30 rfl (.t2 .nil) (.s .z)<|zk 0 rfl rfl rfl rfl rfl sz30 rfl (.t2 .nil) .z<|e_p (zb rfl)<|zf<|zc<|ze<|za<|e_ru (zd 4 ty30 rfl rfl (.t2 .nil))<|e_ru (zd 2 ty30 rfl rfl (.t2 .nil))<|zq rfl rfl (.c rfl (.c rfl .n)) ce206 (zsb (w1:=w2) (w2:=w34) (x1:=x2) (x2:=((Nat.gcd x1.natAbs x2.natAbs:Nat):Int)) (hb1:=by first|rfl|assumption|omega|(rw [yv];omega)|(decide +kernel)) (hb2:=by first|rfl|assumption|omega|(rw [yv];omega)|(decide +kernel)) (hy:=by first|rfl|assumption|omega|(rw [yv];omega)|(decide +kernel))) (.c (j:=4) rfl (.c (j:=2) rfl .n)) ?_
  rintro ⟨w319,w420⟩ -
  dsimp only [aq,nq,cq]
  refine e_mv rfl<|e_p (zm rfl rfl)<|e_p (zm rfl rfl)<|e_p (zm rfl rfl)<|zD rfl rfl (zo zr30 rfl) (fun b21=> ?_)
  refine zD rfl rfl (zo zr30 rfl) (fun b22=> ?_)
  refine zk 1 rfl rfl rfl rfl rfl sz30 rfl (.t2 .nil) (.s .z)<|zk 0 rfl rfl rfl rfl rfl sz30 rfl (.t2 .nil) .z<|e_p (zb rfl)<|zf<|zc<|ze<|za<|e_ru (zd 3 ty30 rfl rfl (.t2 .nil))<|e_ru (zd 1 ty30 rfl rfl (.t2 .nil))<|e_p (zR zr32 rfl yr (.c sz30 (.c sz30 .n)) (.c rfl (.c rfl .n)) (.c rfl rfl rfl (.t2 .nil) (.c rfl rfl rfl (.s2 (.t2 .nil)) .n)))<|zk 5 rfl rfl rfl rfl rfl sz32 rfl (.t4 .nil) (.s (.s (.s (.s (.s .z)))))<|zf<|zc<|zE<|zHb (qF true w315 w319 (Rat.divInt x1 x2)) (qF_close 2 0 rfl rfl (by exact ⟨hr1,hr2,Nat.le_trans (Big.hq_divInt hd) om⟩)) ?_
  exact zy Tryz.results126 (w315,w319) trivial (zn 5 ty32 rfl rfl (.t4 .nil)) rfl (ho:=oN) (s0 rfl)
theorem zug {w1:Wd} {w2:Wd} {x1:Int} {x2:Int} (hl1:yq x1≤1099511627776) (hl2:yq x2≤1099511627776):Con yl 60 [.agg #[w1.b,w1.l],.agg #[w2.b,w2.l]] [] [zF w1 x1,zF w2 x2] (Y:=Wd×Wd) (fun y=>True) (fun y=> .tuple #[.agg #[y.1.b,y.1.l,y.2.b,y.2.l],yd ye (if x2=0 then 14 else 0)]) (fun y=>[]) (fun y=>[qF (decide (x2≠0)) y.1 y.2 (Rat.divInt x1 x2)]):=by
 refine zl Tryz.func60 rfl rfl rfl (fun c=> ?_)
 show RunC _ _ _ _ _ [(0,.agg #[w1.b,w1.l]),(1,.agg #[w2.b,w2.l])] [] [zF w1 x1,zF w2 x2]
 refine ze<|za<|zD rfl rfl (zT rfl rfl) (fun b1=> ?_)
 refine zD rfl rfl (zT rfl rfl) (fun b2=> ?_)
 refine zD rfl rfl (zo zr32 rfl) (fun b3=> ?_)
 refine e_p (zb rfl)<|zf<|zc<|ze<|ze<|za<|e_ru (zd 1 ty30 rfl rfl (.t2 .nil))<|zJ rfl rfl (.c rfl .n) ce62 (zvc (w1:=w2) (x1:=x2) (hln:=by first|rfl|assumption|omega|(rw [yv];omega)|(decide +kernel))) (.c (j:=1) rfl .n)<|e_p (zxa rfl rfl)<|zf<|zc<|zI rfl (fun hz0=> ?_) (fun hz0=> ?_)
 ·
  have hx0:x2=0:=yH.1 hz0
  refine ze<|za<|e_p (zR zr32 rfl yr (.c sz30 (.c sz30 .n)) .n .n)<|zk 0 rfl rfl rfl rfl rfl sz32 rfl (.t4 .nil) .z<|e_p (zb rfl)<|zf<|zc<|zE<|zB<|zHb (qF false wz wz 0) (fun g _=>qF_none g) ?_
  exact zBa Tryz.results60 (wz,wz) trivial (zn 0 ty32 rfl rfl (.t4 .nil)) (zp rfl) (by rw [if_pos hx0];rfl) (ho:=oN) ((.e (j:=0) rfl (by rw [Big.divInt_nil hx0,decide_eq_false (not_not_intro hx0)]) .n):SelR _ _ _)
 ·
  have hx0:x2≠0:=fun e=>hz0 (yH.2 e)
  refine zx<|zc<|ze<|za<|e_ru (zd 2 ty30 rfl rfl (.t2 .nil))<|e_ru (zd 1 ty30 rfl rfl (.t2 .nil))<|zq rfl rfl (.c rfl (.c rfl .n)) ce126 (zDc (w1:=w1) (w2:=w2) (x1:=x1) (x2:=x2) (hl1:=ass) (hl2:=ass) (hd:=by first|rfl|assumption|omega|(rw [yv];omega)|(decide +kernel))) (.c (j:=0) rfl (.c (j:=1) rfl .n)) ?_
  rintro ⟨w34,w45⟩ -
  dsimp only [aq,nq,cq]
  refine zk 0 rfl rfl rfl rfl rfl sz32 rfl (.t4 .nil) .z<|e_p (zb rfl)<|zf<|zc<|zE ?_
  exact zBa Tryz.results60 (w34,w45) trivial (zn 0 ty32 rfl rfl (.t4 .nil)) (zp rfl) (by rw [if_neg hx0]) (ho:=oN) ((.e (j:=0) rfl (by rw [decide_eq_true hx0]) .n):SelR _ _ _)
theorem zvg {z1:Int} {z2:Int} (hz1: -9223372036854775808≤z1∧z1≤9223372036854775807) (hz2: -9223372036854775808≤z2∧z2≤9223372036854775807):Con yl 11 [yd ye z1,yd ye z2] [] [] (Y:=Wd×Wd) (fun y=>True) (fun y=> .tuple #[.agg #[y.1.b,y.1.l,y.2.b,y.2.l],yd ye (if z2=0 then 14 else 0)]) (fun y=>[]) (fun y=>[qF (decide (z2≠0)) y.1 y.2 (Rat.divInt z1 z2)]):=by
 refine zl Tryz.func11 rfl rfl rfl (fun c=> ?_)
 show RunC _ _ _ _ _ [(0,yd ye z1),(1,yd ye z2)] [] []
 have g1:=Big.zyf hz1.1 hz1.2
 have g2:=Big.zyf hz2.1 hz2.2
 refine ze<|za<|zD rfl rfl (zo zr32 rfl) (fun b1=> ?_)
 refine e_p (zb rfl)<|zf<|zc<|ze<|za<|e_mv rfl<|zq rfl rfl (.c rfl .n) ce61 (zFb (z:=z1) (hz:=ass)) (.n) ?_
 rintro w32 -
 dsimp only [aq,nq,cq]
 refine e_mv rfl<|zq rfl rfl (.c rfl .n) ce61 (zFb (z:=z2) (hz:=ass)) (.n) ?_
 rintro w33 -
 dsimp only [aq,nq,cq]
 refine zq rfl rfl (.c rfl (.c rfl .n)) ce60 (zug (w1:=w32) (w2:=w33) (x1:=z1) (x2:=z2) (hl1:=by first|rfl|assumption|omega|(rw [yv];omega)|(decide +kernel)) (hl2:=by first|rfl|assumption|omega|(rw [yv];omega)|(decide +kernel))) (.c (j:=1) rfl (.c (j:=0) rfl .n)) ?_
 rintro ⟨w34,w45⟩ -
 dsimp only [aq,nq,cq]
 refine e_p (zm rfl rfl)<|e_p (zm rfl rfl)<|zk 0 rfl rfl rfl rfl rfl sz32 rfl (.t4 .nil) .z<|e_p (zb rfl)<|zf<|zc<|zE ?_
 exact zBa Tryz.results11 (w34,w45) trivial (zn 0 ty32 rfl rfl (.t4 .nil)) (zp rfl) rfl (ho:=oN) (s0 rfl)
theorem zod {z1:Int} {z2:Int} (hz1: -9223372036854775808≤z1∧z1≤9223372036854775807) (hz2: -9223372036854775808≤z2∧z2≤9223372036854775807) (hy:z2≠0):Con yl 11 [yd ye (z1),yd ye (z2)] [] [] (Y:=(Wd)×(Wd)) (fun y=>True) (fun y=> .tuple #[.agg #[y.1.b,y.1.l,y.2.b,y.2.l],yd ye (0)]) (fun y=>[]) (fun y=>[qF true y.1 y.2 (Rat.divInt z1 z2)]):=by
  have h:=zvg hz1 hz2
  rw [if_neg hy,decide_eq_true hy] at h
  exact h
theorem zQb {k1:Bool} {u1:Wd} {v1:Wd} {q1:Rat} (hl:yJ q1≤1099511627776):Con yl 12 [.agg #[u1.b,u1.l,v1.b,v1.l]] [] [qF k1 u1 v1 q1] (Y:=Unit) (fun y=>True) (fun y=> yd ye (Big.sgq q1)) (fun y=>[]) (fun y=>[]):=by
 refine zl Tryz.func12 rfl rfl rfl (fun c=> ?_)
 show RunC _ _ _ _ _ [(0,.agg #[u1.b,u1.l,v1.b,v1.l])] [] [qF k1 u1 v1 q1]
 have a1:=yP q1
 have a2:=yQ q1
 refine ze<|za<|zD rfl rfl (zT rfl rfl) (fun b1=> ?_)
 refine e_p (zb rfl)<|zf<|zc<|ze<|za<|e_ru (zd 0 ty32 rfl rfl (.t4 .nil))<|zq rfl rfl (.c rfl .n) ce63 (zhb (k1:=k1) (u1:=u1) (v1:=v1) (q1:=q1)) (.c (j:=0) rfl .n) ?_
 rintro ⟨w32,w43⟩ -
 dsimp only [aq,nq,cq]
 refine e_p (zyc yr rfl ty30 rfl (.t2 .nil))<|zZb (qF_open 0 rfl) (fun _ _=> ?_)
 refine zJ rfl rfl (.c rfl .n) ce62 (zvc (w1:=w32) (x1:=(q1).num) (hln:=by first|rfl|assumption|omega|(rw [yv];omega)|(decide +kernel))) (.c (j:=0) rfl .n)<|e_p (zb rfl)<|zf<|zc<|zE ?_
 exact zy Tryz.results12 () trivial (zp rfl) rfl (ho:=oN) sN
theorem zbe {k1:Bool} {u1:Wd} {v1:Wd} {q1:Rat} (hl:yJ q1≤1099511627776):Con yl 25 [.agg #[u1.b,u1.l,v1.b,v1.l]] [] [qF k1 u1 v1 q1] (Y:=Wd×Wd) (fun y=>True) (fun y=> .agg #[y.1.b,y.1.l,y.2.b,y.2.l]) (fun y=>[]) (fun y=>[qF true y.1 y.2 (- q1)]):=by
 refine zl Tryz.func25 rfl rfl rfl (fun c=> ?_)
 show RunC _ _ _ _ _ [(0,.agg #[u1.b,u1.l,v1.b,v1.l])] [] [qF k1 u1 v1 q1]
 have a1:=yP q1
 have a2:=yQ q1
 refine ze<|za<|zD rfl rfl (zT rfl rfl) (fun b1=> ?_)
 refine zD rfl rfl (zo zr32 rfl) (fun b2=> ?_)
 refine zf<|zc<|ze<|za<|e_ru (zd 1 ty32 rfl rfl (.t4 .nil))<|zq rfl rfl (.c rfl .n) ce63 (zhb (k1:=k1) (u1:=u1) (v1:=v1) (q1:=q1)) (.c (j:=0) rfl .n) ?_
 rintro ⟨w33,w44⟩ -
 dsimp only [aq,nq,cq]
 refine zD rfl rfl (zo zr32 rfl) (fun b5=> ?_)
 refine zk 0 rfl rfl rfl rfl rfl sz32 rfl (.t4 .nil) .z<|zf<|zc<|ze<|zoa (.c (i:=1) rfl (.c (i:=0) rfl (.c (i:=0) rfl .n)))<|zW (OW:=[boxA b2 32 (cw [wz,wz])]) (O:=[boxA b5 32 (cw [w33,w44]),boxA b1 32 (cw [u1,v1])]) 6 mixed (.then .ret) kr<|e_pv 0 rfl rfl (zh yr rfl sz30 rfl rfl)<|e_uw 1 rfl rfl (zd 1 ty30 rfl rfl (.t2 .nil))<|e_pv 3 rfl rfl (zh yr rfl sz30 rfl rfl)<|e_uw 4 rfl rfl (zd 1 ty30 rfl rfl (.s2 (.t2 .nil)))<|zdc (qF_open 0 rfl) (fun _ _=> ?_)
 refine e_one 2 (zv rfl rfl rfl rfl (.c rfl .n) ce83 (zVd (w1:=w33) (x1:=(q1).num) (hln:=by first|rfl|assumption|omega|(rw [yv];omega)|(decide +kernel))) (.c (j:=0) rfl .n) ?_)
 rintro w36 -
 dsimp only [aq,nq,cq]
 refine e_pv 5 rfl rfl (zR zr32 rfl yr (.c sz30 (.c sz30 .n)) (.c rfl (.c rfl .n)) (.c rfl rfl rfl (.t2 .nil) (.c rfl rfl rfl (.s2 (.t2 .nil)) .n)))<|e_one 6 (zr kr rfl rfl rfl rfl rfl sz32 rfl (.t4 .nil) ?_)
 refine zN kr<|zc<|zE<|zHb (qF true w36 w44 (- q1)) (qF_close 0 2 rfl rfl (by exact ⟨(Rat.neg_num q1).symm,by rw [Rat.neg_den],by rw [Big.hq_neg];exact hl⟩)) ?_
 exact zy Tryz.results25 (w36,w44) trivial (zn 0 ty32 rfl rfl (.t4 .nil)) rfl (ho:=oN) (s0 rfl)
theorem zSf {k1:Bool} {u1:Wd} {v1:Wd} {q1:Rat} {k2:Bool} {u2:Wd} {v2:Wd} {q2:Rat} (hl:yJ q1+yJ q2+1≤1099511627776):Con yl 69 [.agg #[u1.b,u1.l,v1.b,v1.l],.agg #[u2.b,u2.l,v2.b,v2.l]] [] [qF k1 u1 v1 q1,qF k2 u2 v2 q2] (Y:=Wd×Wd) (fun y=>True) (fun y=> .agg #[y.1.b,y.1.l,y.2.b,y.2.l]) (fun y=>[]) (fun y=>[qF true y.1 y.2 (q1+q2)]):=by
 refine zl Tryz.func69 rfl rfl rfl (fun c=> ?_)
 show RunC _ _ _ _ _ [(0,.agg #[u1.b,u1.l,v1.b,v1.l]),(1,.agg #[u2.b,u2.l,v2.b,v2.l])] [] [qF k1 u1 v1 q1,qF k2 u2 v2 q2]
 have a1:=yP q1
 have a2:=yQ q1
 have a3:=yP q2
 have a4:=yQ q2
 have b1:=Big.zPa q1.num q2.den
 have b2:=Big.zPa q2.num q1.den
 have b3:=Big.zed (q1.num*q2.den) (q2.num*q1.den)
 have b4:=Big.zPa (q1.den:Int) q2.den
 have b5:=Big.zPa q1.num q2.num
 refine ze<|za<|zD rfl rfl (zT rfl rfl) (fun b1=> ?_)
 refine zD rfl rfl (zT rfl rfl) (fun b2=> ?_)
 refine zD rfl rfl (zo zr32 rfl) (fun b3=> ?_)
 refine zf<|zc<|ze<|za<|e_ru (zd 2 ty32 rfl rfl (.t4 .nil))<|zq rfl rfl (.c rfl .n) ce63 (zhb (k1:=k1) (u1:=u1) (v1:=v1) (q1:=q1)) (.c (j:=0) rfl .n) ?_
 rintro ⟨w34,w45⟩ -
 dsimp only [aq,nq,cq]
 refine zD rfl rfl (zo zr32 rfl) (fun b6=> ?_)
 refine zk 0 rfl rfl rfl rfl rfl sz32 rfl (.t4 .nil) .z<|zf<|zc<|ze<|za<|e_ru (zd 2 ty32 rfl rfl (.t4 .nil))<|zq rfl rfl (.c rfl .n) ce63 (zhb (k1:=k2) (u1:=u2) (v1:=v2) (q1:=q2)) (.c (j:=2) rfl .n) ?_
 rintro ⟨w37,w48⟩ -
 dsimp only [aq,nq,cq]
 refine zD rfl rfl (zo zr32 rfl) (fun b9=> ?_)
 refine zk 0 rfl rfl rfl rfl rfl sz32 rfl (.t4 .nil) .z<|zf<|zc<|ze<|zoa (.c (i:=2) rfl (.c (i:=0) rfl (.c (i:=0) rfl (.c (i:=0) rfl (.c (i:=0) rfl .n)))))<|zW (OW:=[boxA b3 32 (cw [wz,wz])]) (O:=[boxA b9 32 (cw [w37,w48]),boxA b6 32 (cw [w34,w45]),boxA b2 32 (cw [u2,v2]),boxA b1 32 (cw [u1,v1])]) 17 mixed (.then .ret) kr<|e_pv 0 rfl rfl (zh yr rfl sz30 rfl rfl)<|e_uw 1 rfl rfl (zd 2 ty30 rfl rfl (.t2 .nil))<|e_pv 2 rfl rfl (zh yr rfl sz30 rfl rfl)<|e_uw 3 rfl rfl (zd 1 ty30 rfl rfl (.s2 (.t2 .nil)))<|e_pv 5 rfl rfl (zh yr rfl sz30 rfl rfl)<|e_uw 6 rfl rfl (zd 1 ty30 rfl rfl (.t2 .nil))<|e_pv 7 rfl rfl (zh yr rfl sz30 rfl rfl)<|e_uw 8 rfl rfl (zd 2 ty30 rfl rfl (.s2 (.t2 .nil)))<|e_pv 11 rfl rfl (zh yr rfl sz30 rfl rfl)<|e_uw 12 rfl rfl (zd 2 ty30 rfl rfl (.s2 (.t2 .nil)))<|e_pv 13 rfl rfl (zh yr rfl sz30 rfl rfl)<|e_uw 14 rfl rfl (zd 1 ty30 rfl rfl (.s2 (.t2 .nil)))<|zdc (qF_open 1 rfl) (fun _ _=> ?_)
 refine zdc (qF_open 2 rfl) (fun _ _=> ?_)
 refine e_one 4 (zv rfl rfl rfl rfl (.c rfl (.c rfl .n)) ce127 (zVc (w1:=w34) (w2:=w48) (x1:=(q1).num) (x2:=(((q2).den:Nat):Int)) (hb1:=by first|rfl|assumption|omega|(rw [yv];omega)|(decide +kernel)) (hb2:=by first|rfl|assumption|omega|(rw [yv];omega)|(decide +kernel))) (.c (j:=2) rfl (.c (j:=1) rfl .n)) ?_)
 rintro w310 -
 dsimp only [aq,nq,cq]
 refine e_one 9 (zv rfl rfl rfl rfl (.c rfl (.c rfl .n)) ce127 (zVc (w1:=w37) (w2:=w45) (x1:=(q2).num) (x2:=(((q1).den:Nat):Int)) (hb1:=by first|rfl|assumption|omega|(rw [yv];omega)|(decide +kernel)) (hb2:=by first|rfl|assumption|omega|(rw [yv];omega)|(decide +kernel))) (.c (j:=1) rfl (.c (j:=4) rfl .n)) ?_)
 rintro w311 -
 dsimp only [aq,nq,cq]
 refine e_one 10 (zv rfl rfl rfl rfl (.c rfl (.c rfl .n)) ce158 (zPf (w1:=w310) (w2:=w311) (x1:=((q1).num)*(((q2).den:Nat):Int)) (x2:=((q2).num)*(((q1).den:Nat):Int)) (hb1:=by first|rfl|assumption|omega|(rw [yv];omega)|(decide +kernel)) (hb2:=by first|rfl|assumption|omega|(rw [yv];omega)|(decide +kernel))) (.c (j:=1) rfl (.c (j:=0) rfl .n)) ?_)
 rintro w312 -
 dsimp only [aq,nq,cq]
 refine e_one 15 (zv rfl rfl rfl rfl (.c rfl (.c rfl .n)) ce127 (zVc (w1:=w45) (w2:=w48) (x1:=(((q1).den:Nat):Int)) (x2:=(((q2).den:Nat):Int)) (hb1:=by first|rfl|assumption|omega|(rw [yv];omega)|(decide +kernel)) (hb2:=by first|rfl|assumption|omega|(rw [yv];omega)|(decide +kernel))) (.c (j:=6) rfl (.c (j:=4) rfl .n)) ?_)
 rintro w313 -
 dsimp only [aq,nq,cq]
 refine e_one 16 (zv rfl rfl rfl rfl (.c rfl (.c rfl .n)) ce126 (zDc (w1:=w312) (w2:=w313) (x1:=(((q1).num)*(((q2).den:Nat):Int))+(((q2).num)*(((q1).den:Nat):Int))) (x2:=(((q1).den:Nat):Int)*(((q2).den:Nat):Int)) (hl1:=by first|rfl|assumption|omega|(rw [yv];omega)|(decide +kernel)) (hl2:=by first|rfl|assumption|omega|(rw [yv];omega)|(decide +kernel)) (hd:=by exact Int.mul_ne_zero (Big.den_ne q1) (Big.den_ne q2))) (.c (j:=1) rfl (.c (j:=0) rfl .n)) ?_)
 rintro ⟨w314,w415⟩ -
 dsimp only [aq,nq,cq]
 refine e_one 17 (zr kr rfl rfl rfl rfl rfl sz32 rfl (.t4 .nil) ?_)
 refine zN kr<|zc<|zE ?_
 exact zy Tryz.results69 (w314,w415) trivial (zn 0 ty32 rfl rfl (.t4 .nil)) rfl (ho:=oN) ((.e (j:=0) rfl (by rw [Big.add_parts]) .n):SelR _ _ _)
theorem zce {k1:Bool} {u1:Wd} {v1:Wd} {q1:Rat} {k2:Bool} {u2:Wd} {v2:Wd} {q2:Rat} (hl:yJ q1+yJ q2+1≤1099511627776):Con yl 17 [.agg #[u1.b,u1.l,v1.b,v1.l],.agg #[u2.b,u2.l,v2.b,v2.l]] [] [qF k1 u1 v1 q1,qF k2 u2 v2 q2] (Y:=Wd×Wd) (fun y=>True) (fun y=> .agg #[y.1.b,y.1.l,y.2.b,y.2.l]) (fun y=>[]) (fun y=>[qF true y.1 y.2 (q1 - q2)]):=by
 refine zl Tryz.func17 rfl rfl rfl (fun c=> ?_)
 show RunC _ _ _ _ _ [(0,.agg #[u1.b,u1.l,v1.b,v1.l]),(1,.agg #[u2.b,u2.l,v2.b,v2.l])] [] [qF k1 u1 v1 q1,qF k2 u2 v2 q2]
 have a1:=yP q1
 have a2:=yQ q1
 have a3:=yP q2
 have a4:=yQ q2
 refine ze<|za<|zD rfl rfl (zT rfl rfl) (fun b1=> ?_)
 refine zD rfl rfl (zT rfl rfl) (fun b2=> ?_)
 refine zD rfl rfl (zo zr32 rfl) (fun b3=> ?_)
 refine zf<|zc<|ze<|zW (OW:=[boxA b3 32 (cw [wz,wz])]) (O:=[boxA b2 32 (cw [u2,v2]),boxA b1 32 (cw [u1,v1])]) 4 mixed (.then .ret) kr<|e_uw 0 rfl rfl (zd 2 ty32 rfl rfl (.t4 .nil))<|e_uw 1 rfl rfl (zd 1 ty32 rfl rfl (.t4 .nil))<|e_one 2 (zv rfl rfl rfl rfl (.c rfl .n) ce25 (zbe (k1:=k2) (u1:=u2) (v1:=v2) (q1:=q2) (hl:=by first|rfl|assumption|omega|(rw [yv];omega)|(decide +kernel)|(rw [Big.hq_neg];omega))) (.c (j:=1) rfl .n) ?_)
 rintro ⟨w34,w45⟩ -
 dsimp only [aq,nq,cq]
 refine e_one 3 (zv rfl rfl rfl rfl (.c rfl (.c rfl .n)) ce69 (zSf (k1:=k1) (u1:=u1) (v1:=v1) (q1:=q1) (k2:=true) (u2:=w34) (v2:=w45) (q2:= - q2) (hl:=by first|rfl|assumption|omega|(rw [yv];omega)|(decide +kernel)|(rw [Big.hq_neg];omega))) (.c (j:=1) rfl (.c (j:=0) rfl .n)) ?_)
 rintro ⟨w36,w47⟩ -
 dsimp only [aq,nq,cq]
 refine e_one 4 (zr kr rfl rfl rfl rfl rfl sz32 rfl (.t4 .nil) ?_)
 refine zN kr<|zc<|zE ?_
 exact zy Tryz.results17 (w36,w47) trivial (zn 0 ty32 rfl rfl (.t4 .nil)) rfl (ho:=oN) ((.e (j:=0) rfl (by rw [Rat.sub_eq_add_neg]) .n):SelR _ _ _)
theorem zTa {k1:Bool} {u1:Wd} {v1:Wd} {q1:Rat} {k2:Bool} {u2:Wd} {v2:Wd} {q2:Rat} (hl:yJ q1+yJ q2+1≤1099511627776):Con yl 14 [.agg #[u1.b,u1.l,v1.b,v1.l],.agg #[u2.b,u2.l,v2.b,v2.l]] [] [qF k1 u1 v1 q1,qF k2 u2 v2 q2] (Y:=Unit) (fun y=>True) (fun y=> yd ye (Big.sgq (q1 - q2))) (fun y=>[]) (fun y=>[]):=by
 refine zl Tryz.func14 rfl rfl rfl (fun c=> ?_)
 show RunC _ _ _ _ _ [(0,.agg #[u1.b,u1.l,v1.b,v1.l]),(1,.agg #[u2.b,u2.l,v2.b,v2.l])] [] [qF k1 u1 v1 q1,qF k2 u2 v2 q2]
 have hsb:=Big.hq_sub q1 q2
 refine ze<|za<|zD rfl rfl (zT rfl rfl) (fun b1=> ?_)
 refine zD rfl rfl (zT rfl rfl) (fun b2=> ?_)
 refine e_p (zb rfl)<|zf<|zc<|ze<|za<|e_ru (zd 1 ty32 rfl rfl (.t4 .nil))<|e_ru (zd 0 ty32 rfl rfl (.t4 .nil))<|zq rfl rfl (.c rfl (.c rfl .n)) ce17 (zce (k1:=k1) (u1:=u1) (v1:=v1) (q1:=q1) (k2:=k2) (u2:=u2) (v2:=v2) (q2:=q2) (hl:=ass)) (.c (j:=0) rfl (.c (j:=1) rfl .n)) ?_
 rintro ⟨w33,w44⟩ -
 dsimp only [aq,nq,cq]
 refine zJ rfl rfl (.c rfl .n) ce12 (zQb (k1:=true) (u1:=w33) (v1:=w44) (q1:=q1 - q2) (hl:=by first|rfl|assumption|omega|(rw [yv];omega)|(decide +kernel))) (.c (j:=0) rfl .n)<|e_p (zb rfl)<|zf<|zc<|zE ?_
 exact zy Tryz.results14 () trivial (zp rfl) rfl (ho:=oN) sN
theorem zpd {u1:Wd} {v1:Wd} {q1:Rat} {u2:Wd} {v2:Wd} {q2:Rat} (hl:yJ q1+yJ q2+1≤1099511627776):Con yl 13 [.agg #[u1.b,u1.l,v1.b,v1.l],.agg #[u2.b,u2.l,v2.b,v2.l]] [] [qF true u1 v1 q1,qF true u2 v2 q2] (Y:=Unit) (fun y=>True) (fun y=> .bool (decide (q1=q2))) (fun y=>[]) (fun y=>[]):=by
 refine zl Tryz.func13 rfl rfl rfl (fun c=> ?_)
 show RunC _ _ _ _ _ [(0,.agg #[u1.b,u1.l,v1.b,v1.l]),(1,.agg #[u2.b,u2.l,v2.b,v2.l])] [] [qF true u1 v1 q1,qF true u2 v2 q2]
 refine ze<|za<|zD rfl rfl (zT rfl rfl) (fun b1=> ?_)
 refine zD rfl rfl (zT rfl rfl) (fun b2=> ?_)
 refine e_p (zb rfl)<|zf<|zc<|zib (X:=Unit) (fun x=>True) (fun x=>[(4,.bool (decide (Big.sgq (q1 - q2)=0)))]) (fun x=>[boxA b2 32 (cw [u2,v2]),boxA b1 32 (cw [u1,v1])]) (fun x=>[qF true u1 v1 q1,qF true u2 v2 q2]) ?_ ?_
 ·
  refine za<|e_ru (zd 1 ty32 rfl rfl (.t4 .nil))<|zJ rfl rfl (.c rfl .n) ce64 (zCc (u1:=u1) (v1:=v1) (q1:=q1)) (.c (j:=0) rfl .n)<|e_mv rfl<|e_ru (zd 0 ty32 rfl rfl (.t4 .nil))<|zJ rfl rfl (.c rfl .n) ce64 (zCc (u1:=u2) (v1:=v2) (q1:=q2)) (.c (j:=1) rfl .n)<|e_p (zC rfl rfl)<|e_mv rfl<|e_ru (zd 1 ty32 rfl rfl (.t4 .nil))<|e_ru (zd 0 ty32 rfl rfl (.t4 .nil))<|zJ rfl rfl (.c rfl (.c rfl .n)) ce14 (zTa (k1:=true) (u1:=u1) (v1:=v1) (q1:=q1) (k2:=true) (u2:=u2) (v2:=v2) (q2:=q2) (hl:=ass)) (.c (j:=0) rfl (.c (j:=1) rfl .n))<|e_p (zxa rfl rfl)<|e_p (zC rfl rfl)<|e_p (zb rfl)<|zf ?_
  exact zka () tt9 ((.c rfl .n):SubM _ _) (ho:=((.of [0,0] rfl):PickO _ _ _)) ((.of [0,1] rfl):SelR _ _ _)
 ·
  rintro ⟨⟩ -
  try dsimp only [cw]
  refine zE ?_
  exact zy Tryz.results13 () trivial (zp rfl) (congrArg Value.bool (decide_eq_decide.2 Big.sgq_sub_zero.symm)) (ho:=oN) sN
end Go.Proofs.YtpdbimfnhglhpaaGreat.Sp
namespace Go.Proofs.YtpdbimfnhglhpaaGreat.Td
open Mx Big
set_option linter.unusedVariables false
def ray (o x y f:Int):Ry:=⟨(o:Rat),((0:Int):Rat),((0:Int):Rat),(x:Rat),(y:Rat),(f:Rat)⟩
def two (b x1 x2 y f:Int):List Ry:=[ray 0 x1 y f,ray b x2 y f]
structure Cam (f b x1 x2 y:Int):Prop where
  hf:1≤f∧f≤0x100000
  hb:1≤b∧b≤0x100000
  hx1: -0x1000000≤x1∧x1≤0x1000000
  hx2: -0x1000000≤x2∧x2≤0x1000000
  hy: -0x1000000≤y∧y≤0x1000000
  hd:1≤x1 - x2
section
variable {f b x1 x2 y : Int}
theorem z_hq {z:Int} (h: -0x1000000≤z∧z≤0x1000000):hq (z:Rat)≤1:=by
  refine Nat.le_trans (hq_int z) (Nat.max_le.2 ⟨?_,Nat.le_refl _⟩)
  have e:pw 1=1000000000:=by decide
  exact zGc (by rw [e];omega) (by rw [e];omega)
theorem Cam.ok (h:Cam f b x1 x2 y):Ok (two b x1 x2 y f) [1,1] 2:=by
  obtain ⟨hf,hb,h1,h2,hy,hd⟩:=h
  have f0:(f:Rat)≠0:=fun e=>by
    have:f=0:=by exact_mod_cast e
    omega
  refine ⟨rfl,rfl,by decide,fun k hk=> ?_,fun k hk=> ?_,fun k hk=> ?_⟩
  · rcases (show k = 0 ∨ k = 1 by omega) with rfl | rfl
    · exact ⟨⟨z_hq (z:=0) (by omega),z_hq (z:=0) (by omega),z_hq (z:=0) (by omega)⟩,z_hq (z:=x1) (by omega),z_hq (z:=y) (by omega),z_hq (z:=f) (by omega)⟩
    · exact ⟨⟨z_hq (z:=b) (by omega),z_hq (z:=0) (by omega),z_hq (z:=0) (by omega)⟩,z_hq (z:=x2) (by omega),z_hq (z:=y) (by omega),z_hq (z:=f) (by omega)⟩
  · rcases (show k=0∨k=1 by omega) with rfl|rfl <;> decide
  · rcases (show k=0∨k=1 by omega) with rfl|rfl <;> exact f0
def tt (b x1 x2:Int):Rat:=Rat.divInt b (x1 - x2)
theorem tt_eq (h:1≤x1 - x2):tt b x1 x2*((x1:Rat) - (x2:Rat))=(b:Rat):=by
  unfold tt
  have hp:((x1 - x2:Int):Rat)≠0:=fun e=>by
    have:x1 - x2=0:=by exact_mod_cast e
    omega
  rw [Rat.divInt_eq_div,←Rat.intCast_sub,Rat.div_mul_cancel hp]
theorem div_tt (h:1≤x1 - x2) (z:Int):Rat.divInt (b*z) (x1 - x2)=tt b x1 x2*(z:Rat):=by
  unfold tt
  rw [Rat.divInt_eq_div,Rat.divInt_eq_div,Rat.intCast_mul,Rat.div_def,Rat.div_def]
  grind
def pX (b x1 x2:Int):Rat:=Rat.divInt (b*x1) (x1 - x2)
def pY (b x1 x2 y:Int):Rat:=Rat.divInt (b*y) (x1 - x2)
def pZ (f b x1 x2:Int):Rat:=Rat.divInt (f*b) (x1 - x2)
theorem xr_pe (r:Ry) (i j:Nat):xr r 1 i j=pe (al r) i j:=by
  unfold xr
  rw [zz_pe]
  have:((1:Int):Rat)=1:=rfl
  rw [this];grind
theorem Cam.hqs (h:Cam f b x1 x2 y):hq (pX b x1 x2)≤100∧hq (pY b x1 x2 y)≤100∧hq (pZ f b x1 x2)≤100:=by
  obtain ⟨hf,hb,h1,h2,hy,hd⟩:=h
  have key:∀z:Int,-0x1000000≤z∧z≤0x1000000→hq (Rat.divInt (b*z) (x1 - x2))≤100:=fun z hz=>by
    refine Nat.le_trans (hq_divInt (by omega)) ?_
    have a:=zPa b z
    have e:pw 1=1000000000:=by decide
    have l1:ln b≤1:=zGc (by rw [e];omega) (by rw [e];omega)
    have l2:ln z≤1:=zGc (by rw [e];omega) (by rw [e];omega)
    have l3:ln (x1 - x2)≤1:=zGc (by rw [e];omega) (by rw [e];omega)
    omega
  refine ⟨key x1 h1,key y hy,?_⟩
  unfold pZ
  rw [Int.mul_comm]
  exact key f (by omega)
theorem two_gr0:gr (two b x1 x2 y f) 0=ray 0 x1 y f:=rfl
theorem two_gr1:gr (two b x1 x2 y f) 1=ray b x2 y f:=rfl
theorem Cam.ne (h:Cam f b x1 x2 y) {i j:Nat} (hi:i<3) (hj:j<3):e (nM (two b x1 x2 y f) [1,1] 2 0) i j=nE (al (ray 0 x1 y f)) (al (ray b x2 y f)) i j:=by
  rw [nM_e hi hj]
  unfold Td.ne nE
  rw [if_neg (by omega),sm_succ,sm_succ]
  show (0:Rat)+xr (gr (two b x1 x2 y f) 0) 1 i j+xr (gr (two b x1 x2 y f) 1) 1 i j+0=_
  rw [two_gr0,two_gr1,xr_pe,xr_pe];grind
theorem Cam.two (h:Cam f b x1 x2 y):Two (al (ray 0 x1 y f)) (al (ray b x2 y f)):=by
  obtain ⟨hf,hb,h1,h2,hy,hd⟩:=h
  refine ⟨rfl,fun e=> ?_,fun e=> ?_⟩
  · have e : (f : Rat) = 0 := e
    have:f=0:=by exact_mod_cast e
    omega
  · have e : (x1 : Rat) = (x2 : Rat) := e
    have:x1=x2:=by exact_mod_cast e
    omega
theorem Cam.nul (h:Cam f b x1 x2 y):∀v:Nat→Rat,(∀i,i<3→sm 3 (fun j=>e (nM (Td.two b x1 x2 y f) [1,1] 2 0) i j*v j)=0)→∀i,i<3→v i=0:=fun v hv=>
  null h.two fun i hi=>by
    rw [← hv i hi]
    exact sm_congr fun j hj=>by rw [h.ne hi hj]
theorem Cam.on (h:Cam f b x1 x2 y):(∀j,j<3→t3 (pX b x1 x2) (pY b x1 x2 y) (pZ f b x1 x2) j=(ray 0 x1 y f).o j+tt b x1 x2*al (ray 0 x1 y f) j)∧(∀j,j<3→t3 (pX b x1 x2) (pY b x1 x2 y) (pZ f b x1 x2) j=(ray b x2 y f).o j+tt b x1 x2*al (ray b x2 y f) j):=by
  have hd:=h.hd
  have e1:pX b x1 x2=tt b x1 x2*(x1:Rat):=div_tt hd x1
  have e2:pY b x1 x2 y=tt b x1 x2*(y:Rat):=div_tt hd y
  have e3:pZ f b x1 x2=tt b x1 x2*(f:Rat):=by unfold pZ;rw [Int.mul_comm];exact div_tt hd f
  have z:((0:Int):Rat)=0:=rfl
  have hb:=tt_eq (b:=b) hd
  constructor
  · intro j hj
    rcases lt3 hj with rfl|rfl|rfl
    · show pX b x1 x2=((0:Int):Rat)+tt b x1 x2*(x1:Rat);rw [e1,z];grind
    · show pY b x1 x2 y=((0:Int):Rat)+tt b x1 x2*(y:Rat);rw [e2,z];grind
    · show pZ f b x1 x2=((0:Int):Rat)+tt b x1 x2*(f:Rat);rw [e3,z];grind
  · intro j hj
    rcases lt3 hj with rfl|rfl|rfl
    · show pX b x1 x2=(b:Rat)+tt b x1 x2*(x2:Rat);rw [e1,←hb];grind
    · show pY b x1 x2 y=((0:Int):Rat)+tt b x1 x2*(y:Rat);rw [e2,z];grind
    · show pZ f b x1 x2=((0:Int):Rat)+tt b x1 x2*(f:Rat);rw [e3,z];grind
theorem dt_ne {o x y f:Int} (h:1≤f):dt (al (ray o x y f))≠0:=by
  have:=dt_pos (a:=al (ray o x y f)) (z:=(f:Rat)) rfl (fun e=>by
    have:f=0:=by exact_mod_cast e
    omega)
  grind
theorem Cam.sol (h:Cam f b x1 x2 y):∀i,i<3→sm 3 (fun j=>e (nM (Td.two b x1 x2 y f) [1,1] 2 0) i j*t3 (pX b x1 x2) (pY b x1 x2 y) (pZ f b x1 x2) j)=(rR (Td.two b x1 x2 y f) [1,1] 2 0).getD i 0:=fun i hi=>by
  obtain ⟨o1,o2⟩:=h.on
  have f1:=h.hf.1
  rw [rR_get hi]
  have l1:=pe_line (dt_ne f1) o1 hi
  have l2:=pe_line (dt_ne f1) o2 hi
  rw [sm_congr (g:=fun j=>pe (al (ray 0 x1 y f)) i j*t3 (pX b x1 x2) (pY b x1 x2 y) (pZ f b x1 x2) j+pe (al (ray b x2 y f)) i j*t3 (pX b x1 x2) (pY b x1 x2 y) (pZ f b x1 x2) j) fun j hj=>by rw [h.ne hi hj];unfold nE;grind,sm_add,l1,l2]
  unfold Td.rE
  rw [show min 3 (0 - 3*i)=0 by omega]
  show _=(0:Rat)+sm 3 (fun j=>xr (gr (Td.two b x1 x2 y f) 0) 1 i j*(gr (Td.two b x1 x2 y f) 0).o j)+sm 3 (fun j=>xr (gr (Td.two b x1 x2 y f) 1) 1 i j*(gr (Td.two b x1 x2 y f) 1).o j)+0
  have a1:sm 3 (fun j=>xr (ray 0 x1 y f) 1 i j*(ray 0 x1 y f).o j)=sm 3 (fun j=>pe (al (ray 0 x1 y f)) i j*(ray 0 x1 y f).o j):=sm_congr fun j _=>by rw [xr_pe]
  have a2:sm 3 (fun j=>xr (ray b x2 y f) 1 i j*(ray b x2 y f).o j)=sm 3 (fun j=>pe (al (ray b x2 y f)) i j*(ray b x2 y f).o j):=sm_congr fun j _=>by rw [xr_pe]
  rw [two_gr0,two_gr1,a1,a2]
  generalize sm 3 (fun j=>pe (al (ray 0 x1 y f)) i j*(ray 0 x1 y f).o j)=A
  generalize sm 3 (fun j=>pe (al (ray b x2 y f)) i j*(ray b x2 y f).o j)=B
  grind
theorem miss_on {r:Ry} {x y z t:Rat} (h:∀j,j<3→t3 x y z j=r.o j+t*al r j) (hd:dt (al r)≠0):miss r x y z=0:=by
  have h0:x - r.o0=t*r.a0:=by have:=h 0 (by decide);have e:x=r.o0+t*r.a0:=this;grind
  have h1:y - r.o1=t*r.a1:=by have:=h 1 (by decide);have e:y=r.o1+t*r.a1:=this;grind
  have h2:z - r.o2=t*r.a2:=by have:=h 2 (by decide);have e:z=r.o2+t*r.a2:=this;grind
  have m:=miss0 hd t
  unfold miss
  rw [h0,h1,h2,dot_eq,dot_eq,show dot r.a0 r.a1 r.a2 r.a0 r.a1 r.a2=dt (al r) from lg_dt r]
  exact m
theorem Cam.ss (h:Cam f b x1 x2 y):ss (Td.two b x1 x2 y f) [1,1] (pX b x1 x2) (pY b x1 x2 y) (pZ f b x1 x2) 2=0:=by
  obtain ⟨o1,o2⟩:=h.on
  have f1:=h.hf.1
  show ((0:Int):Rat)+((1:Int):Rat)*miss (ray 0 x1 y f) _ _ _+((1:Int):Rat)*miss (ray b x2 y f) _ _ _=0
  rw [miss_on o1 (dt_ne f1),miss_on o2 (dt_ne f1)]
  have z:((0:Int):Rat)=0:=rfl
  rw [z];grind
end
end Go.Proofs.YtpdbimfnhglhpaaGreat.Td
namespace Go.Proofs.YtpdbimfnhglhpaaGreat.Td
open Mx Big
set_option linter.unusedVariables false
theorem sgq_le_sub {x y:Rat} (h:x≤y):sgq (x - y)≤0:=sgq_le.2 (by grind)
theorem div_anti {n d e:Int} (hn:0≤n) (hd:0<d) (h:d≤e):Rat.divInt n e≤Rat.divInt n d:=by
  have hD:(0:Rat)<(d:Rat):=by exact_mod_cast hd
  have hE:(0:Rat)<(e:Rat):=by exact_mod_cast (show (0:Int)<e by omega)
  have hN:(0:Rat)≤(n:Rat):=by exact_mod_cast hn
  have hDE:(d:Rat)≤(e:Rat):=Rat.intCast_le_intCast.2 h
  rw [Rat.divInt_eq_div,Rat.divInt_eq_div]
  refine Rat.not_lt.1 fun hlt=> ?_
  have h1:=Rat.mul_lt_mul_of_pos_right hlt hE
  rw [Rat.div_mul_cancel (by grind)] at h1
  have q0:(0:Rat)≤(n:Rat) / (d:Rat):=by rw [Rat.div_def];exact Rat.mul_nonneg hN (Rat.le_of_lt (Rat.inv_pos.2 hD))
  have h2:(n:Rat) / (d:Rat)*(d:Rat)=(n:Rat):=Rat.div_mul_cancel (by grind)
  have h3:=Rat.mul_nonneg q0 (show (0:Rat)≤(e:Rat) - (d:Rat) by grind)
  grind
section
variable {f b d x1 x2 : Int}
theorem lo_le (ho:1≤f∧f≤0x100000∧1≤b∧b≤0x100000) (h1:1≤x1 - x2) (h:x1 - x2≤32*((2*d)+1)):¬0<sgq (Rat.divInt (f*b) (32*((2*d)+1)) - pZ f b x1 x2):=fun k=>by
  have:=sgq_le_sub (div_anti (n:=f*b) (by have:=mul20 ho;omega) (show 0<x1 - x2 by omega) h)
  unfold pZ at k;omega
theorem le_hi (ho:1≤f∧f≤0x100000∧1≤b∧b≤0x100000) (h1:1≤32*((2*d) - 1)) (h:32*((2*d) - 1)≤x1 - x2):¬0<sgq (pZ f b x1 x2 - Rat.divInt (f*b) (32*((2*d) - 1))):=fun k=>by
  have:=sgq_le_sub (div_anti (n:=f*b) (by have:=mul20 ho;omega) (show 0<32*((2*d) - 1) by omega) h)
  unfold pZ at k;omega
theorem fin_or (ho:1≤f∧f≤0x100000∧1≤b∧b≤0x100000) (hd:1≤d∧d≤0x10000) (h:¬(min (dep f b d) 0x100000=0x100000∧0≤sgq (Rat.divInt (f*b) (64*d) - ((0x100000:Int):Rat)))):sgq (qabs (((min (dep f b d) 0x100000:Int):Rat) - Rat.divInt (f*b) (64*d)) - Rat.divInt 1 2)≤0:=by
  have e2:Rat.divInt 1 2=1 / 2:=by decide +kernel
  have l1:((dep f b d:Int):Rat)≤Rat.divInt (f*b) (64*d)+Rat.divInt 1 2:=Rat.floor_le _
  have l2:Rat.divInt (f*b) (64*d)+Rat.divInt 1 2<((dep f b d:Int):Rat)+1:=by
    have:=Rat.lt_floor_add_one (Rat.divInt (f*b) (64*d)+Rat.divInt 1 2)
    rw [Rat.intCast_add] at this;exact this
  have hle:dep f b d≤0x100000:=by
    by_cases k:dep f b d≤0x100000
    · exact k
    · exfalso
      refine h ⟨by omega,sgq_ge.2 ?_⟩
      have h3:((0x100000+1:Int):Rat)≤((dep f b d:Int):Rat):=Rat.intCast_le_intCast.2 (by omega)
      have h4:((0x100000+1:Int):Rat)=((0x100000:Int):Rat)+1:=Rat.intCast_add ..
      rw [h4] at h3
      rw [e2] at l1
      grind
  rw [show min (dep f b d) 0x100000=dep f b d by omega]
  refine sgq_le.2 ?_
  rw [e2] at l1 l2 ⊢
  unfold qabs
  split <;> grind
theorem qabs_hq (q:Rat):hq (qabs q)=hq q:=by
  unfold qabs
  split
  · exact hq_neg q
  · rfl
theorem dv_hq {n d:Int} (hn: -0x10000000000≤n∧n≤0x10000000000) (hd:1≤d∧d≤0x10000000000):hq (Rat.divInt n d)≤2:=by
  refine Nat.le_trans (hq_divInt (by omega)) ?_
  have e:pw 2=1000000000000000000:=by decide
  have e1:ln n≤2:=zGc (by rw [e];omega) (by rw [e];omega)
  have e2:ln d≤2:=zGc (by rw [e];omega) (by rw [e];omega)
  omega
theorem low_hq (ho:1≤f∧f≤0x100000∧1≤b∧b≤0x100000) (hd:1≤d∧d≤0x10000):hq (Rat.divInt (f*b) (32*((2*d)+1)))≤2:=dv_hq (by have:=mul20 ho;omega) (by omega)
theorem high_hq (ho:1≤f∧f≤0x100000∧1≤b∧b≤0x100000) (hd:1≤d∧d≤0x10000):hq (Rat.divInt (f*b) (32*((2*d) - 1)))≤2:=dv_hq (by have:=mul20 ho;omega) (by omega)
theorem v_hq (ho:1≤f∧f≤0x100000∧1≤b∧b≤0x100000) (hd:1≤d∧d≤0x10000):hq ((min (dep f b d) 0x100000:Int):Rat)≤1:=z_hq (by have:=dep_rng ho hd;omega)
theorem off_hq (ho:1≤f∧f≤0x100000∧1≤b∧b≤0x100000) (hd:1≤d∧d≤0x10000):hq (qabs (((min (dep f b d) 0x100000:Int):Rat) - Rat.divInt (f*b) (64*d)))≤4:=by
  rw [qabs_hq]
  have:=hq_sub ((min (dep f b d) 0x100000:Int):Rat) (Rat.divInt (f*b) (64*d))
  have:=v_hq ho hd;have:=dep_hq ho hd;omega
theorem tm8 (s:Int): -7≤s.tmod 8∧s.tmod 8≤7:=by
  have h1:=Int.natAbs_tmod s 8
  have h2:s.natAbs%8<8:=Nat.mod_lt _ (by decide)
  have h3:(s.tmod 8).natAbs=s.natAbs%8:=h1
  omega
end
end Go.Proofs.YtpdbimfnhglhpaaGreat.Td
namespace Go.Proofs.YtpdbimfnhglhpaaGreat.Sp
open Go
set_option linter.unusedVariables false
set_option maxRecDepth 100000
set_option maxHeartbeats 8000000
theorem zTf {k1:Bool} {u1:Wd} {v1:Wd} {q1:Rat} (hl:yJ q1≤1099511627776):Con yl 16 [.agg #[u1.b,u1.l,v1.b,v1.l]] [] [qF k1 u1 v1 q1] (Y:=Wd×Wd) (fun y=>True) (fun y=> .agg #[y.1.b,y.1.l,y.2.b,y.2.l]) (fun y=>[]) (fun y=>[qF true y.1 y.2 (Big.qabs q1)]):=by
 refine zl Tryz.func16 rfl rfl rfl (fun c=> ?_)
 show RunC _ _ _ _ _ [(0,.agg #[u1.b,u1.l,v1.b,v1.l])] [] [qF k1 u1 v1 q1]
 refine ze<|za<|zD rfl rfl (zT rfl rfl) (fun b1=> ?_)
 refine zD rfl rfl (zo zr32 rfl) (fun b2=> ?_)
 refine zf<|zc<|ze<|ze<|za<|e_ru (zd 1 ty32 rfl rfl (.t4 .nil))<|zJ rfl rfl (.c rfl .n) ce12 (zQb (k1:=k1) (u1:=u1) (v1:=v1) (q1:=q1) (hl:=ass)) (.c (j:=0) rfl .n)<|e_p (zV rfl rfl)<|zf<|zc<|zI rfl (fun hneg=> ?_) (fun hneg=> ?_)
 ·
  refine ze<|za<|e_ru (zd 1 ty32 rfl rfl (.t4 .nil))<|zq rfl rfl (.c rfl .n) ce25 (zbe (k1:=k1) (u1:=u1) (v1:=v1) (q1:=q1) (hl:=ass)) (.c (j:=0) rfl .n) ?_
  rintro ⟨w33,w44⟩ -
  dsimp only [aq,nq,cq]
  refine zk 0 rfl rfl rfl rfl rfl sz32 rfl (.t4 .nil) .z<|zf<|zc<|zE<|zB ?_
  exact zy Tryz.results16 (w33,w44) trivial (zn 0 ty32 rfl rfl (.t4 .nil)) rfl (ho:=oN) ((.e (j:=0) rfl (by rw [Big.qabs,if_pos (Big.sgq_lt.1 hneg)]) .n):SelR _ _ _)
 ·
  refine zx<|zc<|ze<|za<|e_ru (zd 1 ty32 rfl rfl (.t4 .nil))<|zq rfl rfl (.c rfl .n) ce63 (zhb (k1:=k1) (u1:=u1) (v1:=v1) (q1:=q1)) (.c (j:=0) rfl .n) ?_
  rintro ⟨w35,w46⟩ -
  dsimp only [aq,nq,cq]
  refine zk 0 rfl rfl rfl rfl rfl sz32 rfl (.t4 .nil) .z<|zf<|zc<|zE ?_
  exact zy Tryz.results16 (w35,w46) trivial (zn 0 ty32 rfl rfl (.t4 .nil)) rfl (ho:=oN) ((.e (j:=0) rfl (by rw [Big.qabs,if_neg (fun k=>hneg (Big.sgq_lt.2 k))]) .n):SelR _ _ _)
theorem zUa {z:Int} (hz: -9223372036854775808≤z∧z≤9223372036854775807):Con yl 9 [.int .i64 z] [] [] (Y:=Wd×Wd) (fun y=>True) (fun y=> .agg #[y.1.b,y.1.l,y.2.b,y.2.l]) (fun y=>[]) (fun y=>[qF true y.1 y.2 ((z:Int):Rat)]):=by
 refine zl Tryz.func9 rfl rfl rfl (fun c=> ?_)
 show RunC _ _ _ _ _ [(0,.int .i64 z)] [] []
 refine ze<|za<|zD rfl rfl (zo zr32 rfl) (fun b1=> ?_)
 refine zf<|zc<|ze<|za<|e_mv rfl<|zq rfl rfl (.c rfl .n) ce48 (znd (z:=z) (hz:=ass)) (.n) ?_
 rintro ⟨w33,w44⟩ -
 dsimp only [aq,nq,cq]
 refine zk 0 rfl rfl rfl rfl rfl sz32 rfl (.t4 .nil) .z<|zf<|zc<|zE ?_
 exact zy Tryz.results9 (w33,w44) trivial (zn 0 ty32 rfl rfl (.t4 .nil)) rfl (ho:=oN) (s0 rfl)
theorem zwc:Con yl 6 [] [] [] (Y:=Unit) (fun y=>True) (fun y=> .bool true) (fun y=>[]) (fun y=>[]):=by
 refine zl Tryz.func6 rfl rfl rfl (fun c=> ?_)
 show RunC _ _ _ _ _ [] [] []
 refine ze<|za<|e_p (zb rfl)<|zf<|zc<|ze<|za<|zq rfl rfl (.c rfl (.c rfl (.c rfl .n))) ce7 (zBc (f:=64) (b:=100) (d:=1) (ho:=by first|rfl|assumption|omega|decide|decide +kernel) (hd:=by first|rfl|assumption|omega|decide|decide +kernel)) (.n) ?_
 rintro ⟨w31,w42,w53,w65⟩ -
 dsimp only [aq,nq,cq]
 refine e_mv rfl<|e_p (zm rfl rfl)<|e_p (zm rfl rfl)<|zD rfl rfl (zo zr34 rfl) (fun b6=> ?_)
 refine zk 0 rfl rfl rfl rfl rfl sz34 rfl (.t8 .nil) .z<|e_p (zb rfl)<|zf<|zc<|ze<|za<|zva rfl rfl (zH (enc:=fun z:Int=>[.int .i64 z]) (ok:=InK .i64) (h1:=fun _=>rfl) (h2:=fun _=>rfl) (k:=1) yx inf3 rfl dd dd dd (.c (x:=1) rfl rfl (fun _ _=>by exact zga.2 om) .n)) (fun b7 _=> ?_)
 refine e_p (zR zr53 rfl yR (.c sz3 (.c sz3 (.c sz46 .n))) (.c rfl (.c rfl (.c rfl .n))) (.c rfl rfl rfl (.take .nil) (.c rfl rfl rfl (.skip (.take .nil)) (.c rfl rfl rfl (.s2 (.take .nil)) .n))))<|zea 0 rfl .z<|zq rfl rfl (.c rfl (.c rfl (.c rfl .n))) ce15 (zid (p:=some ⟨b7,0,none⟩) (cap:=1) (d:=1) (f:=64) (b:=100) (ho:=by first|rfl|assumption|omega|decide|decide +kernel) (hd:=by first|rfl|assumption|omega|decide|decide +kernel)) (.c (j:=0) rfl .n) ?_
 rintro ⟨p38,c39⟩ -
 dsimp only [aq,nq,cq]
 refine e_mv rfl<|e_p (zm rfl rfl)<|e_p (zm rfl rfl)<|zD rfl rfl (zo zr53 rfl) (fun b10=> ?_)
 refine zk 0 rfl rfl rfl rfl rfl sz53 rfl (.t2 (.take .nil)) .z<|e_p (zb rfl)<|zf<|zc<|ze<|zW (OW:=[]) (O:=[boxA b10 53 [.int .i64 1,.int .i64 1,.slice p38 1 c39],emA,boxA b6 34 (cw [w31,w42,w53,w65])]) 100000 mixed (.then .ret) kr<|e_dm 0 rfl rfl rfl<|e_dm 1 rfl rfl rfl<|e_pv 2 rfl rfl (zK (z:=0) rfl rfl (w64 dd))<|e_pv 3 rfl rfl (zxa rfl rfl)<|e_dm 4 rfl rfl rfl<|e_pv 5 rfl rfl (zh Tryz.underlying34 rfl sz32 rfl rfl)<|e_u 6 rfl rfl (zd 2 ty32 rfl rfl (.s4 (.t4 .nil)))<|e_one 7 (zv rfl rfl rfl rfl (.c rfl .n) ce9 (zUa (z:=200) (hz:=by first|rfl|assumption|omega|decide|decide +kernel)) (.n) ?_)
 rintro ⟨w311,w412⟩ -
 dsimp only [aq,nq,cq]
 refine e_one 8 (zAb rfl rfl rfl rfl (.c rfl (.c rfl .n)) ce13 (zpd (u1:=w53) (v1:=w65) (q1:=(Rat.divInt (64*100) (32*((2*1) - 1)))) (u2:=w311) (v2:=w412) (q2:=((200:Int):Rat)) (hl:=by first|rfl|assumption|omega|decide|decide +kernel)) (.c (j:=4) rfl (.c (j:=0) rfl .n)) ?_)
 rw [show (decide ((Rat.divInt (64*100) (32*((2*1) - 1)))=((200:Int):Rat)))=true from by exact decide_eq_true (by decide +kernel)]
 refine e_pv 9 rfl rfl (zC rfl rfl)<|e_dm 10 rfl rfl rfl<|e_pv 11 rfl rfl (zh yR rfl sz46 rfl rfl)<|e_u 12 rfl rfl (zg 0 ty46 rfl rfl rfl)<|e_pv 13 rfl rfl (zG yx rfl)<|e_pv 14 rfl rfl (zxa rfl rfl)<|e_pv 15 rfl rfl (zC rfl rfl)<|e_dm 16 rfl rfl rfl<|e_pv 17 rfl rfl (zh yR rfl sz46 rfl rfl)<|e_u 18 rfl rfl (zg 0 ty46 rfl rfl rfl)<|zra (x0:=(([(min (Td.dep 64 100 1) 0x100000)]).getD 0 0)) 19 rfl rfl kr kr 1 0 rfl yx sz3 rfl rfl rfl (by first|exact rfl|omega) rfl rfl (gD (d:=0) (by first|omega|exact Nat.zero_lt_one)) (fun b13 o14 hok15=> ?_)
 replace hok15:=zga.1 hok15
 refine e_u 20 rfl rfl (zi (j:=0) 0 ty3 rfl rfl rfl rfl)<|e_pv 21 rfl rfl (zxa rfl rfl) ?_
 rw [show (decide ((([(min (Td.dep 64 100 1) 0x100000)]).getD 0 0)=100))=true from by exact decide_eq_true (by decide +kernel)]
 refine e_pv 22 rfl rfl (zC rfl rfl)<|e_pv 23 rfl rfl (zb rfl)<|zN kr<|zc<|zE ?_
 exact zy Tryz.results6 () trivial (zp rfl) rfl (ho:=oN) sN
theorem zub {x9:Int} {og:Int} {e9:Int} {bP:Nat} {bF:Nat} {p0:Int} {p1:Int} {d:Int} {f:Int} (hx: -0x20000≤x9∧x9≤0x20000) (he: -16≤e9∧e9≤16) (hp1: -32768≤p1∧p1≤32767) (hog: -0x200000≤og∧og≤0x200000) (hf: -0x200000≤f∧f≤0x200000):Con yl 8 [.int .i64 x9,.int .i64 og,.int .i64 e9,.pointer (some ⟨bP,0,none⟩),.pointer (some ⟨bF,0,none⟩)] [] [atF bP 0 [.int .i16 p0,.int .i16 p1,.int .i16 d],atF bF 0 [.int .i64 f]] (Y:=Wd×Wd×Wd×Wd×Wd×Wd×Wd×Wd×Wd×Wd×Wd×Wd) (fun y=>True) (fun y=> .agg #[y.1.b,y.1.l,y.2.1.b,y.2.1.l,y.2.2.1.b,y.2.2.1.l,y.2.2.2.1.b,y.2.2.2.1.l,y.2.2.2.2.1.b,y.2.2.2.2.1.l,y.2.2.2.2.2.1.b,y.2.2.2.2.2.1.l,y.2.2.2.2.2.2.1.b,y.2.2.2.2.2.2.1.l,y.2.2.2.2.2.2.2.1.b,y.2.2.2.2.2.2.2.1.l,y.2.2.2.2.2.2.2.2.1.b,y.2.2.2.2.2.2.2.2.1.l,y.2.2.2.2.2.2.2.2.2.1.b,y.2.2.2.2.2.2.2.2.2.1.l,y.2.2.2.2.2.2.2.2.2.2.1.b,y.2.2.2.2.2.2.2.2.2.2.1.l,y.2.2.2.2.2.2.2.2.2.2.2.b,y.2.2.2.2.2.2.2.2.2.2.2.l]) (fun y=>[]) (fun y=>[qF true y.1 y.2.1 ((og:Int):Rat),qF true y.2.2.1 y.2.2.2.1 ((0:Int):Rat),qF true y.2.2.2.2.1 y.2.2.2.2.2.1 ((0:Int):Rat),qF true y.2.2.2.2.2.2.1 y.2.2.2.2.2.2.2.1 ((((64*x9)+(2*e9)):Int):Rat),qF true y.2.2.2.2.2.2.2.2.1 y.2.2.2.2.2.2.2.2.2.1 (((64*p1):Int):Rat),qF true y.2.2.2.2.2.2.2.2.2.2.1 y.2.2.2.2.2.2.2.2.2.2.2 ((f:Int):Rat)]):=by
 refine zl Tryz.func8 rfl rfl rfl (fun c=> ?_)
 show RunC _ _ _ _ _ [(0,.int .i64 x9),(1,.int .i64 og),(2,.int .i64 e9),(3,.pointer (some ⟨bP,0,none⟩)),(4,.pointer (some ⟨bF,0,none⟩))] [] [atF bP 0 [.int .i16 p0,.int .i16 p1,.int .i16 d],atF bF 0 [.int .i64 f]]
 refine ze<|za<|zD rfl rfl (zo zr40 rfl) (fun b1=> ?_)
 refine zf<|zc<|ze<|zW (OW:=[boxA b1 40 (cw [wz,wz,wz,wz,wz,wz,wz,wz,wz,wz,wz,wz])]) (O:=[]) 20 mixed (.then .ret) kr<|e_dm 0 rfl rfl rfl<|e_dm 5 rfl rfl rfl<|e_pv 6 rfl rfl (zua (z:=(64*x9)) rfl rfl (w64 om))<|e_dm 7 rfl rfl rfl<|e_pv 8 rfl rfl (zua (z:=(2*e9)) rfl rfl (w64 om))<|e_pv 9 rfl rfl (zK (z:=((64*x9)+(2*e9))) rfl rfl (w64 om))<|e_pv 11 rfl rfl (zM (i:=1) Tryz.underlying24 sz23 rfl rfl dd rfl)<|e_u 12 rfl rfl (zi (j:=1) 0 ty23 rfl rfl rfl rfl)<|e_pv 13 rfl rfl (zt (z:=p1) rfl (by rw [Tryz.underlying23];rfl) yS (w64 om))<|e_pv 14 rfl rfl (zua (z:=(64*p1)) rfl rfl (w64 om))<|e_u 16 rfl rfl (zi (j:=0) 1 ty3 rfl rfl rfl rfl)<|e_one 1 (zv rfl rfl rfl rfl (.c rfl .n) ce9 (zUa (z:=og) (hz:=cbo)) (.n) ?_)
 rintro ⟨w33,w44⟩ -
 dsimp only [aq,nq,cq]
 refine e_one 2 (zv rfl rfl rfl rfl (.c rfl .n) ce9 (zUa (z:=0) (hz:=cbo)) (.n) ?_)
 rintro ⟨w35,w46⟩ -
 dsimp only [aq,nq,cq]
 refine e_one 3 (zv rfl rfl rfl rfl (.c rfl .n) ce9 (zUa (z:=0) (hz:=cbo)) (.n) ?_)
 rintro ⟨w37,w48⟩ -
 dsimp only [aq,nq,cq]
 refine e_pv 4 rfl rfl (zVa zr38 rfl Tryz.underlying38 sz32 (.c rfl (.c rfl (.c rfl .n))) (.c rfl rfl rfl (.t4 .nil) (.c rfl rfl rfl (.s4 (.t4 .nil)) (.c rfl rfl rfl (.s8 (.t4 .nil)) .n))))<|e_one 10 (zv rfl rfl rfl rfl (.c rfl .n) ce9 (zUa (z:=((64*x9)+(2*e9))) (hz:=cbo)) (.n) ?_)
 rintro ⟨w39,w410⟩ -
 dsimp only [aq,nq,cq]
 refine e_one 15 (zv rfl rfl rfl rfl (.c rfl .n) ce9 (zUa (z:=(64*p1)) (hz:=cbo)) (.n) ?_)
 rintro ⟨w311,w412⟩ -
 dsimp only [aq,nq,cq]
 refine e_one 17 (zv rfl rfl rfl rfl (.c rfl .n) ce9 (zUa (z:=f) (hz:=cbo)) (.n) ?_)
 rintro ⟨w313,w414⟩ -
 dsimp only [aq,nq,cq]
 refine e_pv 18 rfl rfl (zVa zr38 rfl Tryz.underlying38 sz32 (.c rfl (.c rfl (.c rfl .n))) (.c rfl rfl rfl (.t4 .nil) (.c rfl rfl rfl (.s4 (.t4 .nil)) (.c rfl rfl rfl (.s8 (.t4 .nil)) .n))))<|e_pv 19 rfl rfl (zR zr40 rfl Tryz.underlying40 (.c sz38 (.c sz38 .n)) (.c rfl (.c rfl .n)) (.c rfl rfl rfl (.t8 (.t4 .nil)) (.c rfl rfl rfl (.s8 (.s4 (.t8 (.t4 .nil)))) .n)))<|e_one 20 (zr kr rfl rfl rfl rfl rfl sz40 rfl (.t8 (.t8 (.t8 .nil))) ?_)
 refine zN kr<|zc<|zE ?_
 exact zy Tryz.results8 (w33,w44,w35,w46,w37,w48,w39,w410,w311,w412,w313,w414) trivial (zn 0 ty40 rfl rfl (.t8 (.t8 (.t8 .nil)))) rfl (ho:=oN) ((.of [5,4,3,2,1,0] rfl):SelR _ _ _)
end Go.Proofs.YtpdbimfnhglhpaaGreat.Sp
namespace Go.Proofs.YtpdbimfnhglhpaaGreat.Sp
open Go
set_option linter.unusedVariables false
set_option maxRecDepth 100000
set_option maxHeartbeats 8000000
theorem zQg {i0:Nat} {j0:Nat} {bq:Nat} {pL:Option Addr} {nL:Nat} {cL:Nat} {LL:List (List Int)} (hnL:LL.length=nL) (hi0:i0<nL) (hj0:j0<(LL.getD i0 []).length):Con yl 136 [.int .i64 ((i0:Nat):Int),.int .i64 ((j0:Nat):Int),.pointer (some ⟨bq,0,none⟩)] [] [atF bq 0 [.slice pL nL cL],slF (rS (rI .i64)) pL cL LL] (Y:=Wd×Wd) (fun y=>True) (fun y=> .agg #[y.1.b,y.1.l,y.2.b,y.2.l]) (fun y=>[]) (fun y=>[qF true y.1 y.2 (Mx.eI LL i0 j0)]):=by
 refine zl Tryz.func136 rfl rfl rfl (fun c=> ?_)
 show RunC _ _ _ _ _ [(0,.int .i64 ((i0:Nat):Int)),(1,.int .i64 ((j0:Nat):Int)),(2,.pointer (some ⟨bq,0,none⟩))] [] [atF bq 0 [.slice pL nL cL],slF (rS (rI .i64)) pL cL LL]
 refine zX 1 rfl (fun hL1=> ?_)
 refine ze<|za<|zD rfl rfl (zo zr32 rfl) (fun b1=> ?_)
 refine zf<|zc<|ze<|za<|e_ru (zi (j:=0) 0 ty106 rfl rfl rfl rfl)<|e_mv rfl<|r_vl rfl rfl (zfa (x0:=(LL.getD i0 [])) 1 i0 rfl Tryz.underlying106 sz46 rfl (by first|rfl|assumption|omega|(simp;done)) rfl rfl (gD (d:=[]) om)) ?_
 rintro ⟨b2,o3,p4,c5⟩ -
 dsimp only [aq,nq,cq]
 refine e_ru (zi (j:=0) 0 ty46 rfl rfl rfl rfl)<|e_mv rfl<|zZ (x0:=((LL.getD i0 []).getD j0 0)) 1 j0 rfl yx sz3 rfl rfl rfl (by first|rfl|assumption|omega|(simp;done)) rfl rfl (gD (d:=0) om) (fun b6 o7 hok8=> ?_)
 replace hok8:=zga.1 hok8
 refine e_ru (zi (j:=0) 0 ty3 rfl rfl rfl rfl)<|zq rfl rfl (.c rfl .n) ce52 (zHa (z:=((LL.getD i0 []).getD j0 0)) (hz:=cbo)) (.n) ?_
 rintro ⟨w39,w410⟩ -
 dsimp only [aq,nq,cq]
 refine zk 0 rfl rfl rfl rfl rfl sz32 rfl (.t4 .nil) .z<|zf<|zc<|zE ?_
 exact zy Tryz.results136 (w39,w410) trivial (zn 0 ty32 rfl rfl (.t4 .nil)) rfl (ho:=oN) (s0 rfl)
theorem zbf {K:Nat} {N:Nat} {bq:Nat} {pL:Option Addr} {nL:Nat} {cL:Nat} {LL:List (List Int)} (hK:K≤64) (hN:N≤70) (hnL:LL.length=nL) (hKL:K=nL) (hrL:∀i,i<nL→(LL.getD i []).length=N):Con yl 86 [.int .i64 ((K:Nat):Int),.int .i64 ((N:Nat):Int),.func (.func 136) #[] #[.pointer (some ⟨bq,0,none⟩)]] [] [atF bq 0 [.slice pL nL cL],slF (rS (rI .i64)) pL cL LL] (Y:=(Option Addr)×Nat×HP) (fun y=>y.2.2.length=K) (fun y=> .slice (y.1) K (y.2.1)) (fun y=>[rowA 62 rV (y.1) (y.2.1) (oh y.2.2 N),rowsM 32 rQ (y.2.2) (Mx.mk K N (fun ii jj=>Mx.eI LL ii jj))]) (fun y=>[]):=by
 refine zl Tryz.func86 rfl rfl rfl (fun c=> ?_)
 show RunC _ _ _ _ _ [(0,.int .i64 ((K:Nat):Int)),(1,.int .i64 ((N:Nat):Int)),(2,.func (.func 136) #[] #[.pointer (some ⟨bq,0,none⟩)])] [] [atF bq 0 [.slice pL nL cL],slF (rS (rI .i64)) pL cL LL]
 refine zX 1 rfl (fun hL1=> ?_)
 refine ze<|za<|e_p (zb rfl)<|zf<|zc<|ze<|za<|e_mv rfl<|zva rfl rfl (zKa (r:=rV) (k:=K) (x0:=(none,0,0)) (γ0:=()) yk inf62 rfl rfl rfl rfl om om rfl (fun g _=>by trivial) dd) (fun b1 _=> ?_)
 refine e_p (zb rfl)<|zf<|zc<|ze<|ze<|zOd (fun w mm=>mm.rmNil 32 rQ) ?_
 have e2:(List.replicate K (none,0,0):List (Option Addr×Nat×Nat))=(Mx.oz ([]:HP) N K):=by exact Mx.oz_start N K
 rw [e2]
 refine za<|e_mv rfl<|e_p (zG yk rfl)<|e_mv rfl<|zf<|zc<|zw<|zha (X:=Nat×HP) (fun x:Nat×HP=>x.1≤K∧x.2.length=x.1) (fun x=>[(14,.int .i64 ((x.1:Nat):Int)),(13,.int .i64 ((K:Nat):Int)),(7,.slice (some ⟨b1,0,none⟩) K K),(6,.slice none 0 0),(1,.int .i64 ((N:Nat):Int)),(2,.func (.func 136) #[] #[.pointer (some ⟨bq,0,none⟩)])]) (fun x=>[rowsM 32 rQ (x.2) (Mx.mk x.1 N (fun ii jj=>Mx.eI LL ii jj)),rowA 62 rV (some ⟨b1,0,none⟩) K (Mx.oz x.2 N K)]) (fun x=>[atF bq 0 [.slice pL nL cL],slF (rS (rI .i64)) pL cL LL]) (fun x:Nat×HP=>K - x.1) (0,([]:HP)) (show 0≤K∧([]:HP).length=0 from by exact ⟨Nat.zero_le _,rfl⟩) ((.e rfl cgs (.of rfl)):SubM _ _) (ho:=((.e (i:=0) rfl (by rfl) (.c (i:=0) rfl .n)):PickO _ _ _)) ((.of [0,1] rfl):SelR _ _ _) ?_
 rintro ⟨i,hs⟩ hI
 replace hI:i≤K∧hs.length=i:=hI
 try dsimp only
 obtain ⟨hi,hlen⟩:=hI
 refine ze<|za<|e_p (zV rfl rfl)<|zf<|zc<|ze<|zI rfl (fun h3=> ?_) (fun h3=> ?_)
 ·
  refine zx<|zc<|ze<|zw<|ze<|za<|e_mv rfl<|e_p (zb rfl)<|zf<|zc<|ze<|za<|e_mv rfl<|e_mv rfl<|e_mv rfl<|zva rfl rfl (zKa (r:=rE) (k:=N) (x0:=(none:Option Rat)) (γ0:=(wz,wz)) ym inf32 rfl rfl rfl rfl om om rfl (fun g _=>eF_wz g) dd) (fun b4 _=> ?_)
  refine e_p (zS (j:=i) yk sz62 rfl rfl rfl om)<|zEa 2 rfl rfl rfl (zO (j:=i) (x0:=(some ⟨b4,0,none⟩,N,N)) (γ0:=()) rfl rfl (by first|omega|(rw [Mx.oz_len om];omega)|(rw [Mx.fil_len];omega)) rfl rfl sz62 (fun _ _=>by trivial)) (fun _=>(.s (.s .z))) (fun _ _=> ?_)
  refine zf<|zc<|ze ?_
  have e5:(((Mx.oz hs N K).set i (some ⟨b4,0,none⟩,N,N)):List (Option Addr×Nat×Nat))=(Mx.oz (hs++[((some ⟨b4,0,none⟩:Option Addr),N)]) N K):=by exact Mx.oz_step' hlen om
  rw [e5]
  have e6:(List.replicate N (none:Option Rat):List (Option Rat))=(Mx.fil 0 N (fun jj=>Mx.eI LL i jj)):=by exact Mx.fil_start N _
  rw [e6]
  refine za<|e_mv rfl<|e_mv rfl<|e_p (zS (j:=i) yk sz62 rfl rfl rfl om)<|r_vl rfl rfl (zL (x0:=(some ⟨b4,0,none⟩,N,N)) (v:= .slice (some ⟨b4,0,none⟩) N N) 2 i rfl ty62 rfl rfl (by exact Mx.oz_last (K:=K) om) rfl) (fun _ hok7=> ?_)
  refine e_p (zG ym rfl)<|e_mv rfl<|zf<|zc<|zw<|zha (X:=Nat) (fun x:Nat=>x≤N) (fun x=>[(27,.int .i64 ((x:Nat):Int)),(26,.int .i64 ((N:Nat):Int)),(8,.int .i64 ((i:Nat):Int)),(14,.int .i64 ((i:Nat):Int)),(13,.int .i64 ((K:Nat):Int)),(7,.slice (some ⟨b1,0,none⟩) K K),(6,.slice none 0 0),(1,.int .i64 ((N:Nat):Int)),(2,.func (.func 136) #[] #[.pointer (some ⟨bq,0,none⟩)])]) (fun x=>[rowA 32 rE (some ⟨b4,0,none⟩) N (Mx.fil x N (fun jj=>Mx.eI LL i jj)),rowsM 32 rQ hs (Mx.mk i N (fun ii jj=>Mx.eI LL ii jj)),rowA 62 rV (some ⟨b1,0,none⟩) K (Mx.oz (hs++[((some ⟨b4,0,none⟩:Option Addr),N)]) N K)]) (fun x=>[atF bq 0 [.slice pL nL cL],slF (rS (rI .i64)) pL cL LL]) (fun x:Nat=>N - x) 0 (show 0≤N from by exact Nat.zero_le _) ((.e rfl cgs (.of rfl)):SubM _ _) (ho:=((.of [0,0,0] rfl):PickO _ _ _)) ((.of [0,1] rfl):SelR _ _ _) ?_
  rintro j hJ
  replace hJ:j≤N:=hJ
  try dsimp only
  refine ze<|za<|e_p (zV rfl rfl)<|zf<|zc<|ze<|zI rfl (fun h8=> ?_) (fun h8=> ?_)
  ·
   refine zx<|zc<|ze<|zw<|ze<|za<|e_mv rfl<|e_p (zb rfl)<|zf<|zc<|zW (OW:=[rowA 32 rE (some ⟨b4,0,none⟩) N (Mx.fil j N (fun jj=>Mx.eI LL i jj))]) (O:=[rowsM 32 rQ hs (Mx.mk i N (fun ii jj=>Mx.eI LL ii jj)),rowA 62 rV (some ⟨b1,0,none⟩) K (Mx.oz (hs++[((some ⟨b4,0,none⟩:Option Addr),N)]) N K)]) 10 mixed (.block (.then (.then (.block (.block (.then (.then (.block (.then .ret))))))))) kr ?_
   have hrw:=hrL i om
   refine e_dm 0 rfl rfl rfl<|e_dm 1 rfl rfl rfl<|e_pv 2 rfl rfl (zS (j:=i) yk sz62 rfl rfl rfl om)<|zvb 3 rfl rfl kr kr kr rfl rfl (zL (x0:=(some ⟨b4,0,none⟩,N,N)) (v:= .slice (some ⟨b4,0,none⟩) N N) 2 i rfl ty62 rfl rfl (by exact Mx.oz_last (K:=K) om) rfl) (fun _ hok9=> ?_)
   refine e_dm 4 rfl rfl rfl<|e_dm 5 rfl rfl rfl<|e_dm 6 rfl rfl rfl<|e_dm 7 rfl rfl rfl<|e_one 8 (zlb (first:=[]) (cap:=[.pointer (some ⟨bq,0,none⟩)]) rfl rfl rfl rfl rfl (.c rfl (.c rfl .n)) ce136 (zQg (i0:=i) (j0:=j) (bq:=bq) (pL:=pL) (nL:=nL) (cL:=cL) (LL:=LL) (hnL:=ass) (hi0:=cbo) (hj0:=cbo)) (.c (j:=0) rfl (.c (j:=1) rfl .n)) ?_)
   rintro ⟨w310,w411⟩ -
   dsimp only [aq,nq,cq]
   refine e_pv 9 rfl rfl (zS (j:=j) ym sz32 rfl rfl rfl om)<|e_one 10 (zcc (A':=fun _=>rowA 32 rE (some ⟨b4,0,none⟩) N ((Mx.fil j N (fun jj=>Mx.eI LL i jj)).set j (some (Mx.eI LL i j)))) kr rfl rfl rfl (zO (r:=rE) (j:=j) (x0:=(some (Mx.eI LL i j))) (γ0:=(w310,w411)) rfl rfl (by first|omega|(rw [Mx.oz_len om];omega)|(rw [Mx.fil_len];omega)) rfl rfl sz32 (fun g hr=>qF_e (Holds.get 0 rfl hr))) (fun _ _=> ?_))
   refine zN kr<|zQ<|zc<|za<|e_p (zK (z:=(((j+1):Nat):Int)) rfl rfl (w64 om))<|e_mv rfl<|zf<|zca (j+1) (show (j+1)≤N from by show j+1≤N;omega) (by show N - (j+1)<N - j;omega) (mR rfl) (ho:=((.e (i:=0) rfl (by first|rfl|(rw [Mx.fil_step om])) (.of [0,0] rfl)):PickO _ _ _)) ((.of [1,2] rfl):SelR _ _ _)
  ·
   refine zda<|zj<|zj<|zu<|zQ<|zc<|za<|e_p (zK (z:=(((i+1):Nat):Int)) rfl rfl (w64 om))<|e_mv rfl<|zf<|zad (fun w mm=>mm.rowEQ (l2:=((List.range N).map (fun jj=>Mx.eI LL i jj))) 0 rfl (by rw [show j=N by omega];exact Mx.fil_end N _)) ?_
   try dsimp only [List.eraseIdx]
   refine zad (fun w mm=>mm.rmSnoc 0 0 rfl rfl (by rw [Mx.mk_len];exact hlen)) ?_
   try dsimp only [List.eraseIdx]
   refine zca ((i+1),(hs++[((some ⟨b4,0,none⟩:Option Addr),N)])) (show (i+1)≤K∧(hs++[((some ⟨b4,0,none⟩:Option Addr),N)]).length=(i+1) from by exact ⟨by omega,by rw [List.length_append,hlen];rfl⟩) (by show K - (i+1)<K - i;omega) (mR rfl) (ho:=((.e (i:=0) rfl (by first|rfl|(rw [Mx.mk_succ])) (.c (i:=0) rfl .n)):PickO _ _ _)) ((.of [0,1] rfl):SelR _ _ _)
 ·
  refine zda<|zj<|zj<|zu<|zc<|ze<|za<|e_mv rfl<|e_p (zb rfl)<|zf<|zc<|zE ?_
  have e12:((Mx.oz hs N K):List (Option Addr×Nat×Nat))=(oh hs N):=by exact Mx.oz_end (hlen.trans om)
  rw [e12]
  have e13:(Mx.mk i N (fun ii jj=>Mx.eI LL ii jj))=(Mx.mk K N (fun ii jj=>Mx.eI LL ii jj)):=by rw [show i=K by omega]
  rw [e13]
  exact zy Tryz.results86 (some ⟨b1,0,none⟩,K,hs) (hlen.trans om) (zp rfl) rfl (ho:=((.of [1,0] rfl):PickO _ _ _)) sN
theorem zAe {i0:Nat} {j0:Nat} {bA:Nat} {pA:Option Addr} {nA:Nat} {cA:Nat} {A:List (List Rat)} {bB:Nat} {pB:Option Addr} {nB:Nat} {cB:Nat} {B:List (List Rat)} {n9:Nat} (hn9:n9≤64) (hnA:A.length=nA) (hnB:B.length=nB) (hA0:(A.getD 0 []).length=n9) (hi0:i0<nA) (hAB:nB=nA) (hAi:(A.getD i0 []).length=n9) (hBi:j0<n9+(B.getD i0 []).length) (hj9:j0≤200):Con yl 216 [.int .i64 ((i0:Nat):Int),.int .i64 ((j0:Nat):Int),.pointer (some ⟨bA,0,none⟩),.pointer (some ⟨bB,0,none⟩)] [] [atF bA 0 [.slice pA nA cA],slF (rS rQ) pA cA A,atF bB 0 [.slice pB nB cB],slF (rS rQ) pB cB B] (Y:=Wd×Wd) (fun y=>True) (fun y=> .agg #[y.1.b,y.1.l,y.2.b,y.2.l]) (fun y=>[]) (fun y=>[qF true y.1 y.2 (Mx.eB A B n9 i0 j0)]):=by
 refine zl Tryz.func216 rfl rfl rfl (fun c=> ?_)
 show RunC _ _ _ _ _ [(0,.int .i64 ((i0:Nat):Int)),(1,.int .i64 ((j0:Nat):Int)),(2,.pointer (some ⟨bA,0,none⟩)),(3,.pointer (some ⟨bB,0,none⟩))] [] [atF bA 0 [.slice pA nA cA],slF (rS rQ) pA cA A,atF bB 0 [.slice pB nB cB],slF (rS rQ) pB cB B]
 refine zX 1 rfl (fun hL1=> ?_)
 refine zX 3 rfl (fun hL3=> ?_)
 refine ze<|za<|zD rfl rfl (zo zr32 rfl) (fun b1=> ?_)
 refine zf<|zc<|ze<|ze<|za<|e_mv rfl<|e_ru (zi (j:=0) 0 ty60 rfl rfl rfl rfl)<|r_vl rfl rfl (zfa (x0:=(A.getD 0 [])) 1 0 rfl yk sz62 rfl (by first|rfl|assumption|omega|(simp;done)) rfl rfl (gD (d:=[]) om)) ?_
 rintro ⟨b2,o3,p4,c5⟩ -
 dsimp only [aq,nq,cq]
 refine e_ru (zi (j:=0) 0 ty62 rfl rfl rfl rfl)<|e_p (zG ym rfl)<|e_p (zV rfl rfl)<|zf<|zc<|zI rfl (fun hlt=> ?_) (fun hlt=> ?_)
 ·
  refine ze<|za<|e_ru (zi (j:=0) 2 ty60 rfl rfl rfl rfl)<|e_mv rfl<|r_vl rfl rfl (zfa (x0:=(A.getD i0 [])) 3 i0 rfl yk sz62 rfl (by first|rfl|assumption|omega|(simp;done)) rfl rfl (gD (d:=[]) om)) ?_
  rintro ⟨b6,o7,p8,c9⟩ -
  dsimp only [aq,nq,cq]
  refine e_ru (zi (j:=0) 0 ty62 rfl rfl rfl rfl)<|e_mv rfl<|r_vl rfl rfl (zfa (x0:=((A.getD i0 []).getD j0 (0:Rat))) 1 j0 rfl ym sz32 rfl (by first|rfl|assumption|omega|(simp;done)) rfl rfl (gD (d:=(0:Rat)) om)) ?_
  rintro ⟨b10,o11,w12,w13⟩ -
  dsimp only [aq,nq,cq]
  refine zLb open_rQ<|e_ru (zU (j:=0) 0 ty32 rfl rfl rfl (.t4 .nil))<|zk 0 rfl rfl rfl rfl rfl sz32 rfl (.t4 .nil) .z<|zf<|zc<|zE<|zB ?_
  exact zy Tryz.results216 (w12,w13) trivial (zn 0 ty32 rfl rfl (.t4 .nil)) rfl (ho:=oN) ((.e (j:=1) rfl (by rw [show Mx.eB A B n9 i0 j0=(A.getD i0 []).getD j0 0 from if_pos om]) .n):SelR _ _ _)
 ·
  refine zx<|zc<|ze<|zW (OW:=[boxA b1 32 (cw [wz,wz])]) (O:=[]) 12 mixed (.then .ret) kr<|e_u 0 rfl rfl (zi (j:=0) 4 ty60 rfl rfl rfl rfl)<|e_dm 1 rfl rfl rfl<|d_vl 2 rfl rfl kr kr rfl rfl (zfa (x0:=(B.getD i0 [])) 5 i0 rfl yk sz62 rfl (by first|rfl|assumption|omega|(simp;done)) rfl rfl (gD (d:=[]) om)) ?_
  rintro ⟨b14,o15,p16,c17⟩ -
  dsimp only [aq,nq,cq]
  refine e_u 3 rfl rfl (zi (j:=0) 0 ty62 rfl rfl rfl rfl)<|e_dm 4 rfl rfl rfl<|e_u 5 rfl rfl (zi (j:=0) 4 ty60 rfl rfl rfl rfl)<|d_vl 6 rfl rfl kr kr rfl rfl (zfa (x0:=(A.getD 0 [])) 5 0 rfl yk sz62 rfl (by first|rfl|assumption|omega|(simp;done)) rfl rfl (gD (d:=[]) om)) ?_
  rintro ⟨b18,o19,p20,c21⟩ -
  dsimp only [aq,nq,cq]
  refine e_u 7 rfl rfl (zi (j:=0) 0 ty62 rfl rfl rfl rfl)<|e_pv 8 rfl rfl (zG ym rfl)<|e_pv 9 rfl rfl (zla (z:=(((j0 - n9):Nat):Int)) rfl rfl (w64 om))<|d_vl 10 rfl rfl kr kr rfl rfl (zfa (x0:=((B.getD i0 []).getD (j0 - n9) (0:Rat))) 3 (j0 - n9) rfl ym sz32 rfl (by first|rfl|assumption|omega|(simp;done)) rfl rfl (gD (d:=(0:Rat)) om)) ?_
  rintro ⟨b22,o23,w24,w25⟩ -
  dsimp only [aq,nq,cq]
  refine zxb open_rQ<|e_u 11 rfl rfl (zU (j:=0) 0 ty32 rfl rfl rfl (.t4 .nil))<|e_one 12 (zr kr rfl rfl rfl rfl rfl sz32 rfl (.t4 .nil) ?_)
  refine zN kr<|zc<|zE ?_
  exact zy Tryz.results216 (w24,w25) trivial (zn 0 ty32 rfl rfl (.t4 .nil)) rfl (ho:=oN) ((.e (j:=1) rfl (by rw [show Mx.eB A B n9 i0 j0=(B.getD i0 []).getD (j0 - n9) 0 from if_neg om]) .n):SelR _ _ _)
theorem zcf {K:Nat} {N:Nat} {bA:Nat} {pA:Option Addr} {nA:Nat} {cA:Nat} {A:List (List Rat)} {bB:Nat} {pB:Option Addr} {nB:Nat} {cB:Nat} {B:List (List Rat)} {n9:Nat} (hK:K≤64) (hN:N≤70) (hn9:n9≤64) (hnA:A.length=nA) (hnB:B.length=nB) (hA0:(A.getD 0 []).length=n9) (hKA:K=nA) (hAB:nB=nA) (hAr:∀i,i<nA→(A.getD i []).length=n9) (hBr:∀i,i<nA→N=n9+(B.getD i []).length):Con yl 86 [.int .i64 ((K:Nat):Int),.int .i64 ((N:Nat):Int),.func (.func 216) #[] #[.pointer (some ⟨bA,0,none⟩),.pointer (some ⟨bB,0,none⟩)]] [] [atF bA 0 [.slice pA nA cA],slF (rS rQ) pA cA A,atF bB 0 [.slice pB nB cB],slF (rS rQ) pB cB B] (Y:=(Option Addr)×Nat×HP) (fun y=>y.2.2.length=K) (fun y=> .slice (y.1) K (y.2.1)) (fun y=>[rowA 62 rV (y.1) (y.2.1) (oh y.2.2 N),rowsM 32 rQ (y.2.2) (Mx.mk K N (fun ii jj=>Mx.eB A B n9 ii jj))]) (fun y=>[]):=by
 refine zl Tryz.func86 rfl rfl rfl (fun c=> ?_)
 show RunC _ _ _ _ _ [(0,.int .i64 ((K:Nat):Int)),(1,.int .i64 ((N:Nat):Int)),(2,.func (.func 216) #[] #[.pointer (some ⟨bA,0,none⟩),.pointer (some ⟨bB,0,none⟩)])] [] [atF bA 0 [.slice pA nA cA],slF (rS rQ) pA cA A,atF bB 0 [.slice pB nB cB],slF (rS rQ) pB cB B]
 refine zX 1 rfl (fun hL1=> ?_)
 refine zX 3 rfl (fun hL3=> ?_)
 refine ze<|za<|e_p (zb rfl)<|zf<|zc<|ze<|za<|e_mv rfl<|zva rfl rfl (zKa (r:=rV) (k:=K) (x0:=(none,0,0)) (γ0:=()) yk inf62 rfl rfl rfl rfl om om rfl (fun g _=>by trivial) dd) (fun b1 _=> ?_)
 refine e_p (zb rfl)<|zf<|zc<|ze<|ze<|zOd (fun w mm=>mm.rmNil 32 rQ) ?_
 have e2:(List.replicate K (none,0,0):List (Option Addr×Nat×Nat))=(Mx.oz ([]:HP) N K):=by exact Mx.oz_start N K
 rw [e2]
 refine za<|e_mv rfl<|e_p (zG yk rfl)<|e_mv rfl<|zf<|zc<|zw<|zha (X:=Nat×HP) (fun x:Nat×HP=>x.1≤K∧x.2.length=x.1) (fun x=>[(14,.int .i64 ((x.1:Nat):Int)),(13,.int .i64 ((K:Nat):Int)),(7,.slice (some ⟨b1,0,none⟩) K K),(6,.slice none 0 0),(1,.int .i64 ((N:Nat):Int)),(2,.func (.func 216) #[] #[.pointer (some ⟨bA,0,none⟩),.pointer (some ⟨bB,0,none⟩)])]) (fun x=>[rowsM 32 rQ (x.2) (Mx.mk x.1 N (fun ii jj=>Mx.eB A B n9 ii jj)),rowA 62 rV (some ⟨b1,0,none⟩) K (Mx.oz x.2 N K)]) (fun x=>[atF bA 0 [.slice pA nA cA],slF (rS rQ) pA cA A,atF bB 0 [.slice pB nB cB],slF (rS rQ) pB cB B]) (fun x:Nat×HP=>K - x.1) (0,([]:HP)) (show 0≤K∧([]:HP).length=0 from by exact ⟨Nat.zero_le _,rfl⟩) ((.e rfl cgs (.of rfl)):SubM _ _) (ho:=((.e (i:=0) rfl (by rfl) (.c (i:=0) rfl .n)):PickO _ _ _)) ((.of [0,1,2,3] rfl):SelR _ _ _) ?_
 rintro ⟨i,hs⟩ hI
 replace hI:i≤K∧hs.length=i:=hI
 try dsimp only
 obtain ⟨hi,hlen⟩:=hI
 refine ze<|za<|e_p (zV rfl rfl)<|zf<|zc<|ze<|zI rfl (fun h3=> ?_) (fun h3=> ?_)
 ·
  refine zx<|zc<|ze<|zw<|ze<|za<|e_mv rfl<|e_p (zb rfl)<|zf<|zc<|ze<|za<|e_mv rfl<|e_mv rfl<|e_mv rfl<|zva rfl rfl (zKa (r:=rE) (k:=N) (x0:=(none:Option Rat)) (γ0:=(wz,wz)) ym inf32 rfl rfl rfl rfl om om rfl (fun g _=>eF_wz g) dd) (fun b4 _=> ?_)
  refine e_p (zS (j:=i) yk sz62 rfl rfl rfl om)<|zEa 2 rfl rfl rfl (zO (j:=i) (x0:=(some ⟨b4,0,none⟩,N,N)) (γ0:=()) rfl rfl (by first|omega|(rw [Mx.oz_len om];omega)|(rw [Mx.fil_len];omega)) rfl rfl sz62 (fun _ _=>by trivial)) (fun _=>(.s (.s .z))) (fun _ _=> ?_)
  refine zf<|zc<|ze ?_
  have e5:(((Mx.oz hs N K).set i (some ⟨b4,0,none⟩,N,N)):List (Option Addr×Nat×Nat))=(Mx.oz (hs++[((some ⟨b4,0,none⟩:Option Addr),N)]) N K):=by exact Mx.oz_step' hlen om
  rw [e5]
  have e6:(List.replicate N (none:Option Rat):List (Option Rat))=(Mx.fil 0 N (fun jj=>Mx.eB A B n9 i jj)):=by exact Mx.fil_start N _
  rw [e6]
  refine za<|e_mv rfl<|e_mv rfl<|e_p (zS (j:=i) yk sz62 rfl rfl rfl om)<|r_vl rfl rfl (zL (x0:=(some ⟨b4,0,none⟩,N,N)) (v:= .slice (some ⟨b4,0,none⟩) N N) 2 i rfl ty62 rfl rfl (by exact Mx.oz_last (K:=K) om) rfl) (fun _ hok7=> ?_)
  refine e_p (zG ym rfl)<|e_mv rfl<|zf<|zc<|zw<|zha (X:=Nat) (fun x:Nat=>x≤N) (fun x=>[(27,.int .i64 ((x:Nat):Int)),(26,.int .i64 ((N:Nat):Int)),(8,.int .i64 ((i:Nat):Int)),(14,.int .i64 ((i:Nat):Int)),(13,.int .i64 ((K:Nat):Int)),(7,.slice (some ⟨b1,0,none⟩) K K),(6,.slice none 0 0),(1,.int .i64 ((N:Nat):Int)),(2,.func (.func 216) #[] #[.pointer (some ⟨bA,0,none⟩),.pointer (some ⟨bB,0,none⟩)])]) (fun x=>[rowA 32 rE (some ⟨b4,0,none⟩) N (Mx.fil x N (fun jj=>Mx.eB A B n9 i jj)),rowsM 32 rQ hs (Mx.mk i N (fun ii jj=>Mx.eB A B n9 ii jj)),rowA 62 rV (some ⟨b1,0,none⟩) K (Mx.oz (hs++[((some ⟨b4,0,none⟩:Option Addr),N)]) N K)]) (fun x=>[atF bA 0 [.slice pA nA cA],slF (rS rQ) pA cA A,atF bB 0 [.slice pB nB cB],slF (rS rQ) pB cB B]) (fun x:Nat=>N - x) 0 (show 0≤N from by exact Nat.zero_le _) ((.e rfl cgs (.of rfl)):SubM _ _) (ho:=((.of [0,0,0] rfl):PickO _ _ _)) ((.of [0,1,2,3] rfl):SelR _ _ _) ?_
  rintro j hJ
  replace hJ:j≤N:=hJ
  try dsimp only
  refine ze<|za<|e_p (zV rfl rfl)<|zf<|zc<|ze<|zI rfl (fun h8=> ?_) (fun h8=> ?_)
  ·
   refine zx<|zc<|ze<|zw<|ze<|za<|e_mv rfl<|e_p (zb rfl)<|zf<|zc<|zW (OW:=[rowA 32 rE (some ⟨b4,0,none⟩) N (Mx.fil j N (fun jj=>Mx.eB A B n9 i jj))]) (O:=[rowsM 32 rQ hs (Mx.mk i N (fun ii jj=>Mx.eB A B n9 ii jj)),rowA 62 rV (some ⟨b1,0,none⟩) K (Mx.oz (hs++[((some ⟨b4,0,none⟩:Option Addr),N)]) N K)]) 10 mixed (.block (.then (.then (.block (.block (.then (.then (.block (.then .ret))))))))) kr ?_
   have hrw:=hAr i om
   have hrw2:=hBr i om
   refine e_dm 0 rfl rfl rfl<|e_dm 1 rfl rfl rfl<|e_pv 2 rfl rfl (zS (j:=i) yk sz62 rfl rfl rfl om)<|zvb 3 rfl rfl kr kr kr rfl rfl (zL (x0:=(some ⟨b4,0,none⟩,N,N)) (v:= .slice (some ⟨b4,0,none⟩) N N) 2 i rfl ty62 rfl rfl (by exact Mx.oz_last (K:=K) om) rfl) (fun _ hok9=> ?_)
   refine e_dm 4 rfl rfl rfl<|e_dm 5 rfl rfl rfl<|e_dm 6 rfl rfl rfl<|e_dm 7 rfl rfl rfl<|e_one 8 (zlb (first:=[]) (cap:=[.pointer (some ⟨bA,0,none⟩),.pointer (some ⟨bB,0,none⟩)]) rfl rfl rfl rfl rfl (.c rfl (.c rfl .n)) ce216 (zAe (i0:=i) (j0:=j) (bA:=bA) (pA:=pA) (nA:=nA) (cA:=cA) (A:=A) (bB:=bB) (pB:=pB) (nB:=nB) (cB:=cB) (B:=B) (n9:=n9) (hn9:=ass) (hnA:=ass) (hnB:=ass) (hA0:=ass) (hi0:=cbo) (hAB:=ass) (hAi:=cbo) (hBi:=cbo) (hj9:=cbo)) (.c (j:=0) rfl (.c (j:=1) rfl (.c (j:=2) rfl (.c (j:=3) rfl .n)))) ?_)
   rintro ⟨w310,w411⟩ -
   dsimp only [aq,nq,cq]
   refine e_pv 9 rfl rfl (zS (j:=j) ym sz32 rfl rfl rfl om)<|e_one 10 (zcc (A':=fun _=>rowA 32 rE (some ⟨b4,0,none⟩) N ((Mx.fil j N (fun jj=>Mx.eB A B n9 i jj)).set j (some (Mx.eB A B n9 i j)))) kr rfl rfl rfl (zO (r:=rE) (j:=j) (x0:=(some (Mx.eB A B n9 i j))) (γ0:=(w310,w411)) rfl rfl (by first|omega|(rw [Mx.oz_len om];omega)|(rw [Mx.fil_len];omega)) rfl rfl sz32 (fun g hr=>qF_e (Holds.get 0 rfl hr))) (fun _ _=> ?_))
   refine zN kr<|zQ<|zc<|za<|e_p (zK (z:=(((j+1):Nat):Int)) rfl rfl (w64 om))<|e_mv rfl<|zf<|zca (j+1) (show (j+1)≤N from by show j+1≤N;omega) (by show N - (j+1)<N - j;omega) (mR rfl) (ho:=((.e (i:=0) rfl (by first|rfl|(rw [Mx.fil_step om])) (.of [0,0] rfl)):PickO _ _ _)) ((.of [1,2,3,4] rfl):SelR _ _ _)
  ·
   refine zda<|zj<|zj<|zu<|zQ<|zc<|za<|e_p (zK (z:=(((i+1):Nat):Int)) rfl rfl (w64 om))<|e_mv rfl<|zf<|zad (fun w mm=>mm.rowEQ (l2:=((List.range N).map (fun jj=>Mx.eB A B n9 i jj))) 0 rfl (by rw [show j=N by omega];exact Mx.fil_end N _)) ?_
   try dsimp only [List.eraseIdx]
   refine zad (fun w mm=>mm.rmSnoc 0 0 rfl rfl (by rw [Mx.mk_len];exact hlen)) ?_
   try dsimp only [List.eraseIdx]
   refine zca ((i+1),(hs++[((some ⟨b4,0,none⟩:Option Addr),N)])) (show (i+1)≤K∧(hs++[((some ⟨b4,0,none⟩:Option Addr),N)]).length=(i+1) from by exact ⟨by omega,by rw [List.length_append,hlen];rfl⟩) (by show K - (i+1)<K - i;omega) (mR rfl) (ho:=((.e (i:=0) rfl (by first|rfl|(rw [Mx.mk_succ])) (.c (i:=0) rfl .n)):PickO _ _ _)) ((.of [0,1,2,3] rfl):SelR _ _ _)
 ·
  refine zda<|zj<|zj<|zu<|zc<|ze<|za<|e_mv rfl<|e_p (zb rfl)<|zf<|zc<|zE ?_
  have e12:((Mx.oz hs N K):List (Option Addr×Nat×Nat))=(oh hs N):=by exact Mx.oz_end (hlen.trans om)
  rw [e12]
  have e13:(Mx.mk i N (fun ii jj=>Mx.eB A B n9 ii jj))=(Mx.mk K N (fun ii jj=>Mx.eB A B n9 ii jj)):=by rw [show i=K by omega]
  rw [e13]
  exact zy Tryz.results86 (some ⟨b1,0,none⟩,K,hs) (hlen.trans om) (zp rfl) rfl (ho:=((.of [1,0] rfl):PickO _ _ _)) sN
theorem zXc {u1:Wd} {v1:Wd} {q1:Rat}:Con yl 88 [.agg #[u1.b,u1.l,v1.b,v1.l]] [] [qF true u1 v1 (q1)] (Y:=Unit) (fun y=>True) (fun y=> .bool true) (fun y=>[]) (fun y=>[]):=by
  exact zBf (fun x hx hk h1 h2=>by have h:= @zhd x.1.1 u1.p _ u1.c x.1.2 x.2.1 v1.p _ v1.c x.2.2 rfl rfl h1 h2;rw [decide_eq_true (hk rfl)] at h;exact h)
theorem zdf {u1:Wd} {v1:Wd} {q1:Rat}:Con yl 161 [.agg #[u1.b,u1.l,v1.b,v1.l]] [] [qF true u1 v1 q1] (Y:=Unit) (fun y=>True) (fun y=> .bool false) (fun y=>[]) (fun y=>[]):=by
 refine zl Tryz.func161 rfl rfl rfl (fun c=> ?_)
 show RunC _ _ _ _ _ [(0,.agg #[u1.b,u1.l,v1.b,v1.l])] [] [qF true u1 v1 q1]
 refine ze<|za<|zD rfl rfl (zT rfl rfl) (fun b1=> ?_)
 refine e_p (zb rfl)<|zf<|zc<|ze<|za<|e_ru (zd 0 ty32 rfl rfl (.t4 .nil))<|zJ rfl rfl (.c rfl .n) ce88 (zXc (u1:=u1) (v1:=v1) (q1:=q1)) (.c (j:=0) rfl .n)<|e_p (zcb rfl)<|e_p (zb rfl)<|zf<|zc<|zE ?_
 exact zy Tryz.results161 () trivial (zp rfl) rfl (ho:=oN) sN
theorem zUf {p:Option Addr} {n:Nat} {cap:Nat} {l:List Rat} (hn:l.length=n):Con yl 211 [.slice p n cap,.func (.func 161) #[] #[]] [] [slF rQ p cap l] (Y:=Unit) (fun y=>True) (fun y=> .int .i64 (-1)) (fun y=>[]) (fun y=>[]):=by
 refine zl Tryz.func211 rfl rfl rfl (fun c=> ?_)
 show RunC _ _ _ _ _ [(0,.slice p n cap),(1,.func (.func 161) #[] #[])] [] [slF rQ p cap l]
 refine zX 0 rfl (fun hL0=> ?_)
 refine ze<|za<|e_p (zb rfl)<|zf<|zc<|ze<|ze<|za<|e_mv rfl<|e_p (zG ym rfl)<|e_mv rfl<|zf<|zc<|zw<|zha (X:=Nat) (fun x:Nat=>x≤n) (fun x=>[(8,.int .i64 ((x:Nat):Int)),(7,.int .i64 ((n:Nat):Int)),(0,.slice p n cap),(1,.func (.func 161) #[] #[])]) (fun x=>[]) (fun x=>[slF rQ p cap l]) (fun x:Nat=>n - x) 0 (show 0≤n from by exact Nat.zero_le _) ((.e rfl cgs (.of rfl)):SubM _ _) (ho:=oN) (s0 rfl) ?_
 rintro i hI
 replace hI:i≤n:=hI
 try dsimp only
 refine ze<|za<|e_p (zV rfl rfl)<|zf<|zc<|ze<|zI rfl (fun h1=> ?_) (fun h1=> ?_)
 ·
  refine zx<|zc<|ze<|zw<|ze<|za<|e_mv rfl<|e_p (zb rfl)<|zf<|zc<|ze<|za<|e_mv rfl<|e_mv rfl<|e_mv rfl<|r_vl rfl rfl (zfa (x0:=(l.getD i (0:Rat))) 0 i rfl ym sz32 rfl cbo rfl rfl (gD (d:=(0:Rat)) om)) ?_
  rintro ⟨b2,o3,w4,w5⟩ -
  dsimp only [aq,nq,cq]
  refine zLb open_rQ<|e_ru (zU (j:=0) 0 ty32 rfl rfl rfl (.t4 .nil))<|zbc (first:=[]) (cap:=[]) rfl rfl rfl (.c rfl .n) ce161 (zdf (u1:=w4) (v1:=w5) (q1:=(l.getD i (0:Rat)))) (.c (j:=1) rfl .n) ?_
  rintro ⟨⟩ -
  dsimp only [aq,nq,cq]
  refine zf<|zc<|zaa rfl rfl<|zx<|zQ<|zc<|za<|e_p (zK (z:=(((i+1):Nat):Int)) rfl rfl (w64 om))<|e_mv rfl<|zf<|zca (i+1) (show (i+1)≤n from by show i+1≤n;omega) (by show n - (i+1)<n - i;omega) (mR rfl) (ho:=oN) ((.c (j:=2) rfl .n):SelR _ _ _)
 ·
  refine zda<|zj<|zj<|zu<|zc<|ze<|za<|e_p (zb rfl)<|zf<|zc<|zE ?_
  exact zy Tryz.results211 () trivial (zp rfl) rfl (ho:=oN) sN
theorem zVf {p:Option Addr} {n:Nat} {cap:Nat} {l:List Rat} (hn:l.length=n):Con yl 132 [.slice p n cap,.func (.func 161) #[] #[]] [] [slF rQ p cap l] (Y:=Unit) (fun y=>True) (fun y=> .bool false) (fun y=>[]) (fun y=>[]):=by
 refine zl Tryz.func132 rfl rfl rfl (fun c=> ?_)
 show RunC _ _ _ _ _ [(0,.slice p n cap),(1,.func (.func 161) #[] #[])] [] [slF rQ p cap l]
 refine zX 0 rfl (fun hL0=> ?_)
 refine ze<|za<|e_p (zb rfl)<|zf<|zc<|ze<|za<|e_mv rfl<|e_mv rfl<|zJ rfl rfl (.c rfl (.c rfl .n)) ce211 (zUf (p:=p) (n:=n) (cap:=cap) (l:=l) (hn:=ass)) (.c (j:=0) rfl .n)<|e_p (zMa rfl rfl)<|e_p (zb rfl)<|zf<|zc<|zE ?_
 exact zy Tryz.results132 () trivial (zp rfl) (congrArg Value.bool (decide_eq_false (show ¬(0:Int)≤ -1 by decide)).symm) (ho:=oN) sN
theorem zcd {p:Option Addr} {n:Nat} {cap:Nat} {l:List Rat} (hn:l.length=n):Con yl 74 [.slice p n cap] [] [slF rQ p cap l] (Y:=Unit) (fun y=>True) (fun y=> .bool true) (fun y=>[]) (fun y=>[]):=by
 refine zl Tryz.func74 rfl rfl rfl (fun c=> ?_)
 show RunC _ _ _ _ _ [(0,.slice p n cap)] [] [slF rQ p cap l]
 refine zX 0 rfl (fun hL0=> ?_)
 refine ze<|za<|e_p (zb rfl)<|zf<|zc<|ze<|za<|e_mv rfl<|zJ rfl rfl (.c rfl (.c rfl .n)) ce132 (zVf (p:=p) (n:=n) (cap:=cap) (l:=l) (hn:=ass)) (.c (j:=0) rfl .n)<|e_p (zcb rfl)<|e_p (zb rfl)<|zf<|zc<|zE ?_
 exact zy Tryz.results74 () trivial (zp rfl) rfl (ho:=oN) sN
theorem zBe {p:Option Addr} {n:Nat} {cap:Nat} {l:List Rat} {bM:Nat} {pM:Option Addr} {nM:Nat} {cM:Nat} {M:List (List Rat)} (hn:l.length=n) (hnM:M.length=nM) (hM1:1≤nM) (heq:n=(M.getD 0 []).length):Con yl 73 [.slice p n cap,.pointer (some ⟨bM,0,none⟩)] [] [slF rQ p cap l,atF bM 0 [.slice pM nM cM],slF (rS rQ) pM cM M] (Y:=Unit) (fun y=>True) (fun y=> .bool false) (fun y=>[]) (fun y=>[]):=by
 refine zl Tryz.func73 rfl rfl rfl (fun c=> ?_)
 show RunC _ _ _ _ _ [(0,.slice p n cap),(1,.pointer (some ⟨bM,0,none⟩))] [] [slF rQ p cap l,atF bM 0 [.slice pM nM cM],slF (rS rQ) pM cM M]
 refine zX 0 rfl (fun hL0=> ?_)
 refine zX 2 rfl (fun hL2=> ?_)
 refine ze<|za<|e_p (zb rfl)<|zf<|zc<|ze<|za<|e_mv rfl<|e_p (zG ym rfl)<|e_ru (zi (j:=0) 1 ty60 rfl rfl rfl rfl)<|r_vl rfl rfl (zfa (x0:=(M.getD 0 [])) 2 0 rfl yk sz62 rfl cbo rfl rfl (gD (d:=[]) om)) ?_
 rintro ⟨b1,o2,p3,c4⟩ -
 dsimp only [aq,nq,cq]
 refine e_ru (zi (j:=0) 0 ty62 rfl rfl rfl rfl)<|e_p (zG ym rfl)<|e_p (zsa rfl rfl) ?_
 rw [show (decide (((n:Nat):Int)≠(((M.getD 0 []).length:Nat):Int)))=false from by exact decide_eq_false om]
 refine e_mv rfl<|e_mv rfl<|zJ rfl rfl (.c rfl .n) ce74 (zcd (p:=p) (n:=n) (cap:=cap) (l:=l) (hn:=ass)) (.c (j:=2) rfl .n)<|e_p (zcb rfl)<|e_p (zC rfl rfl)<|e_p (zb rfl)<|zf<|zc<|zE ?_
 exact zy Tryz.results73 () trivial (zp rfl) rfl (ho:=oN) sN
theorem zWf {bM:Nat} {pM:Option Addr} {nM:Nat} {cM:Nat} {M:List (List Rat)} (hnM:M.length=nM) (hM1:1≤nM) (hU:∀i,i<nM→(M.getD i []).length=(M.getD 0 []).length):Con yl 160 [.slice pM nM cM,.func (.func 73) #[] #[.pointer (some ⟨bM,0,none⟩)]] [] [atF bM 0 [.slice pM nM cM],slF (rS rQ) pM cM M] (Y:=Unit) (fun y=>True) (fun y=> .int .i64 (-1)) (fun y=>[]) (fun y=>[]):=by
 refine zl Tryz.func160 rfl rfl rfl (fun c=> ?_)
 show RunC _ _ _ _ _ [(0,.slice pM nM cM),(1,.func (.func 73) #[] #[.pointer (some ⟨bM,0,none⟩)])] [] [atF bM 0 [.slice pM nM cM],slF (rS rQ) pM cM M]
 refine zX 1 rfl (fun hL1=> ?_)
 refine ze<|za<|e_p (zb rfl)<|zf<|zc<|ze<|ze<|za<|e_mv rfl<|e_p (zG yk rfl)<|e_mv rfl<|zf<|zc<|zw<|zha (X:=Nat) (fun x:Nat=>x≤nM) (fun x=>[(8,.int .i64 ((x:Nat):Int)),(7,.int .i64 ((nM:Nat):Int)),(0,.slice pM nM cM),(1,.func (.func 73) #[] #[.pointer (some ⟨bM,0,none⟩)])]) (fun x=>[]) (fun x=>[atF bM 0 [.slice pM nM cM],slF (rS rQ) pM cM M]) (fun x:Nat=>nM - x) 0 (show 0≤nM from by exact Nat.zero_le _) ((.e rfl cgs (.of rfl)):SubM _ _) (ho:=oN) ((.of [0,1] rfl):SelR _ _ _) ?_
 rintro i hI
 replace hI:i≤nM:=hI
 try dsimp only
 refine ze<|za<|e_p (zV rfl rfl)<|zf<|zc<|ze<|zI rfl (fun h1=> ?_) (fun h1=> ?_)
 ·
  refine zx<|zc<|ze<|zw<|ze<|za<|e_mv rfl<|e_p (zb rfl)<|zf<|zc<|ze<|za<|e_mv rfl<|e_mv rfl<|e_mv rfl<|r_vl rfl rfl (zfa (x0:=(M.getD i [])) 1 i rfl yk sz62 rfl cbo rfl rfl (gD (d:=[]) om)) ?_
  rintro ⟨b2,o3,p4,c5⟩ -
  dsimp only [aq,nq,cq]
  refine e_ru (zi (j:=0) 0 ty62 rfl rfl rfl rfl)<|zbc (first:=[]) (cap:=[.pointer (some ⟨bM,0,none⟩)]) rfl rfl rfl (.c rfl .n) ce73 (zBe (p:=p4) (n:=(M.getD i []).length) (cap:=c5) (l:=(M.getD i [])) (bM:=bM) (pM:=pM) (nM:=nM) (cM:=cM) (M:=M) (hn:=by first|rfl|assumption|omega|exact hU _ om) (hnM:=ass) (hM1:=ass) (heq:=by first|rfl|assumption|omega|exact hU _ om)) (.c (j:=1) rfl (.c (j:=2) rfl (.c (j:=3) rfl .n))) ?_
  rintro ⟨⟩ -
  dsimp only [aq,nq,cq]
  refine zf<|zc<|zaa rfl rfl<|zx<|zQ<|zc<|za<|e_p (zK (z:=(((i+1):Nat):Int)) rfl rfl (w64 om))<|e_mv rfl<|zf<|zca (i+1) (show (i+1)≤nM from by show i+1≤nM;omega) (by show nM - (i+1)<nM - i;omega) (mR rfl) (ho:=oN) ((.of [2,3] rfl):SelR _ _ _)
 ·
  refine zda<|zj<|zj<|zu<|zc<|ze<|za<|e_p (zb rfl)<|zf<|zc<|zE ?_
  exact zy Tryz.results160 () trivial (zp rfl) rfl (ho:=oN) sN
theorem zXf {bM:Nat} {pM:Option Addr} {nM:Nat} {cM:Nat} {M:List (List Rat)} (hnM:M.length=nM) (hM1:1≤nM) (hU:∀i,i<nM→(M.getD i []).length=(M.getD 0 []).length):Con yl 72 [.slice pM nM cM,.func (.func 73) #[] #[.pointer (some ⟨bM,0,none⟩)]] [] [atF bM 0 [.slice pM nM cM],slF (rS rQ) pM cM M] (Y:=Unit) (fun y=>True) (fun y=> .bool false) (fun y=>[]) (fun y=>[]):=by
 refine zl Tryz.func72 rfl rfl rfl (fun c=> ?_)
 show RunC _ _ _ _ _ [(0,.slice pM nM cM),(1,.func (.func 73) #[] #[.pointer (some ⟨bM,0,none⟩)])] [] [atF bM 0 [.slice pM nM cM],slF (rS rQ) pM cM M]
 refine zX 1 rfl (fun hL1=> ?_)
 refine ze<|za<|e_p (zb rfl)<|zf<|zc<|ze<|za<|e_mv rfl<|e_mv rfl<|zJ rfl rfl (.c rfl (.c rfl .n)) ce160 (zWf (bM:=bM) (pM:=pM) (nM:=nM) (cM:=cM) (M:=M) (hnM:=ass) (hM1:=ass) (hU:=ass)) (.c (j:=0) rfl (.c (j:=1) rfl .n))<|e_p (zMa rfl rfl)<|e_p (zb rfl)<|zf<|zc<|zE ?_
 exact zy Tryz.results72 () trivial (zp rfl) (congrArg Value.bool (decide_eq_false (show ¬(0:Int)≤ -1 by decide)).symm) (ho:=oN) sN
theorem zef {pM:Option Addr} {nM:Nat} {cM:Nat} {M:List (List Rat)} (hnM:M.length=nM) (hM1:1≤nM) (hU:∀i,i<nM→(M.getD i []).length=(M.getD 0 []).length) (hK:nM≤64) (hN:1≤(M.getD 0 []).length∧(M.getD 0 []).length≤64):Con yl 19 [.slice pM nM cM] [] [slF (rS rQ) pM cM M] (Y:=Unit) (fun y=>True) (fun y=> .int .i64 0) (fun y=>[]) (fun y=>[]):=by
 refine zl Tryz.func19 rfl rfl rfl (fun c=> ?_)
 show RunC _ _ _ _ _ [(0,.slice pM nM cM)] [] [slF (rS rQ) pM cM M]
 refine zX 0 rfl (fun hL0=> ?_)
 refine ze<|za<|zD rfl rfl (zT rfl rfl) (fun b1=> ?_)
 refine e_p (zb rfl)<|zf<|zc<|ze<|ze<|za<|e_ru (zg 0 ty60 rfl rfl rfl)<|e_p (zG yk rfl)<|e_p (zV rfl rfl) ?_
 rw [show (decide (((nM:Nat):Int)<1))=false from by exact decide_eq_false om]
 refine e_mv rfl<|e_ru (zg 0 ty60 rfl rfl rfl)<|e_p (zG yk rfl)<|e_p (zpa rfl rfl) ?_
 rw [show (decide (64<((nM:Nat):Int)))=false from by exact decide_eq_false om]
 refine e_p (zC rfl rfl)<|e_mv rfl<|e_ru (zg 0 ty60 rfl rfl rfl)<|r_vl rfl rfl (zfa (x0:=(M.getD 0 [])) 0 0 rfl yk sz62 rfl cbo rfl rfl (gD (d:=[]) om)) ?_
 rintro ⟨b2,o3,p4,c5⟩ -
 dsimp only [aq,nq,cq]
 refine e_ru (zi (j:=0) 0 ty62 rfl rfl rfl rfl)<|e_p (zG ym rfl)<|e_p (zV rfl rfl) ?_
 rw [show (decide ((((M.getD 0 []).length:Nat):Int)<1))=false from by exact decide_eq_false om]
 refine e_p (zC rfl rfl)<|e_mv rfl<|e_ru (zg 0 ty60 rfl rfl rfl)<|r_vl rfl rfl (zfa (x0:=(M.getD 0 [])) 2 0 rfl yk sz62 rfl cbo rfl rfl (gD (d:=[]) om)) ?_
 rintro ⟨b6,o7,p8,c9⟩ -
 dsimp only [aq,nq,cq]
 refine e_ru (zi (j:=0) 0 ty62 rfl rfl rfl rfl)<|e_p (zG ym rfl)<|e_p (zpa rfl rfl) ?_
 rw [show (decide (64<(((M.getD 0 []).length:Nat):Int)))=false from by exact decide_eq_false om]
 refine e_p (zC rfl rfl)<|zf<|zc<|zaa rfl rfl<|zx<|zc<|ze<|ze<|zFa 0 rfl .z<|za<|e_ru (zi (j:=0) 0 ty60 rfl rfl rfl rfl)<|e_p (zZa .n (.c rfl .n))<|zJ rfl rfl (.c rfl (.c rfl .n)) ce72 (zXf (bM:=b1) (pM:=pM) (nM:=nM) (cM:=cM) (M:=M) (hnM:=ass) (hM1:=ass) (hU:=ass)) (.c (j:=0) rfl (.c (j:=5) rfl .n))<|zf<|zc<|zaa rfl rfl<|zx<|zc<|ze<|za<|e_p (zb rfl)<|zf<|zc<|zE ?_
 exact zy Tryz.results19 () trivial (zp rfl) rfl (ho:=oN) sN
theorem zde {u1:Wd} {v1:Wd} {q1:Rat} {u2:Wd} {v2:Wd} {q2:Rat} (hl:yJ q1+yJ q2+1≤1099511627776) (h0:q2≠0):Con yl 82 [.agg #[u1.b,u1.l,v1.b,v1.l],.agg #[u2.b,u2.l,v2.b,v2.l]] [] [qF true u1 v1 q1,qF true u2 v2 q2] (Y:=Wd×Wd) (fun y=>True) (fun y=> .agg #[y.1.b,y.1.l,y.2.b,y.2.l]) (fun y=>[]) (fun y=>[qF true y.1 y.2 (q1 / q2)]):=by
 refine zl Tryz.func82 rfl rfl rfl (fun c=> ?_)
 show RunC _ _ _ _ _ [(0,.agg #[u1.b,u1.l,v1.b,v1.l]),(1,.agg #[u2.b,u2.l,v2.b,v2.l])] [] [qF true u1 v1 q1,qF true u2 v2 q2]
 refine ze<|za<|zD rfl rfl (zT rfl rfl) (fun b1=> ?_)
 refine zD rfl rfl (zT rfl rfl) (fun b2=> ?_)
 refine zD rfl rfl (zo zr32 rfl) (fun b3=> ?_)
 refine zf<|zc<|ze<|za<|e_ru (zd 2 ty32 rfl rfl (.t4 .nil))<|e_ru (zd 1 ty32 rfl rfl (.t4 .nil))<|zq rfl rfl (.c rfl (.c rfl .n)) ce139 (zmc (k1:=true) (u1:=u1) (v1:=v1) (q1:=q1) (k2:=true) (u2:=u2) (v2:=v2) (q2:=q2) (hl:=ass) (hy:=ass)) (.c (j:=0) rfl (.c (j:=1) rfl .n)) ?_
 rintro ⟨w34,w45⟩ -
 dsimp only [aq,nq,cq]
 refine e_mv rfl<|e_p (zm rfl rfl)<|e_p (zm rfl rfl)<|zD rfl rfl (zo zr32 rfl) (fun b6=> ?_)
 refine zk 0 rfl rfl rfl rfl rfl sz32 rfl (.t4 .nil) .z<|e_p (zb rfl)<|zf<|zc<|ze<|za<|e_ru (zd 0 ty32 rfl rfl (.t4 .nil))<|zk 1 rfl rfl rfl rfl rfl sz32 rfl (.t4 .nil) (.s .z)<|zf<|zc<|zE ?_
 exact zy Tryz.results82 (w34,w45) trivial (zn 1 ty32 rfl rfl (.t4 .nil)) rfl (ho:=oN) (s0 rfl)
end Go.Proofs.YtpdbimfnhglhpaaGreat.Sp
namespace Go.Proofs.YtpdbimfnhglhpaaGreat.Sp
open Go
set_option linter.unusedVariables false
set_option maxRecDepth 100000
set_option maxHeartbeats 8000000
theorem zee {hs:HP} {M:List (List Rat)} {K:Nat} {N:Nat} {ii:Nat} {rr:Nat} {u1:Wd} {v1:Wd} {xk:Rat} {j0:Nat} (hSm:Mx.Sm hs M K N) (hii:ii<K) (hrr:rr<K) (hne:rr≠ii) (hj0:j0≤N) (hN:N≤70) (hx:yJ xk≤200000) (hb:Mx.bd M 200000):Con yl 81 [.slice (rp hs ii) N (rc hs ii),.slice (rp hs rr) N (rc hs rr),.agg #[u1.b,u1.l,v1.b,v1.l],.int .i64 ((j0:Nat):Int)] [rowsM 32 rQ hs M] [qF true u1 v1 xk] (Y:=Unit) (fun y=>True) (fun y=> .tuple #[]) (fun y=>[rowsM 32 rQ hs (M.set ii (Mx.sb (M.getD ii []) (M.getD rr []) xk j0 N))]) (fun y=>[]):=by
 refine zl Tryz.func81 rfl rfl rfl (fun c=> ?_)
 show RunC _ _ _ _ _ [(0,.slice (rp hs ii) N (rc hs ii)),(1,.slice (rp hs rr) N (rc hs rr)),(2,.agg #[u1.b,u1.l,v1.b,v1.l]),(3,.int .i64 ((j0:Nat):Int))] [rowsM 32 rQ hs M] [qF true u1 v1 xk]
 have hil:=hSm.mk' hii
 have hirow:=hSm.row hii
 refine ze<|za<|zD rfl rfl (zT rfl rfl) (fun b1=> ?_)
 refine zf<|zc<|ze<|za<|e_mv rfl<|e_p (zb rfl)<|zf<|zc<|zw<|zha (X:=Nat) (fun x:Nat=>j0≤x∧x≤N) (fun x=>[(8,.int .i64 ((x:Nat):Int)),(6,.pointer (some ⟨b1,0,none⟩)),(0,.slice (rp hs ii) N (rc hs ii)),(1,.slice (rp hs rr) N (rc hs rr))]) (fun x=>[boxA b1 32 (cw [u1,v1]),rowsM 32 rQ hs (M.set ii (Mx.sb (M.getD ii []) (M.getD rr []) xk j0 x))]) (fun x=>[qF true u1 v1 xk]) (fun x:Nat=>N - x) j0 (show j0≤j0∧j0≤N from by exact ⟨Nat.le_refl _,hj0⟩) (mR rfl) (ho:=((.c (i:=0) rfl (.e (i:=0) rfl (by first|rfl|(rw [Mx.sub_start hil])) .n)):PickO _ _ _)) (s0 rfl) ?_
 rintro t hI
 replace hI:j0≤t∧t≤N:=hI
 try dsimp only [cw]
 obtain ⟨ht0,htN⟩:=hI
 have hSmt:Mx.Sm hs (M.set ii (Mx.sb (M.getD ii []) (M.getD rr []) xk j0 t)) K N:=hSm.setSb hii
 refine ze<|ze<|za<|e_mv rfl<|e_mv rfl<|e_p (zG ym rfl)<|e_p (zV rfl rfl)<|zf<|zc<|zI rfl (fun h2=> ?_) (fun h2=> ?_)
 ·
  have hba:=hb ii t
  have hbb:=hb rr t
  refine zx<|zc<|ze<|zw<|ze<|za<|e_mv rfl<|e_mv rfl<|e_ru (zwa 1 rr t rfl (hSmt.hk om) (hSmt.mk' om) (hSmt.row om) ym sz32 rfl rfl rfl om)<|r_vl rfl rfl (zRa (x0:=(Mx.e (M.set ii (Mx.sb (M.getD ii []) (M.getD rr []) xk j0 t)) rr t)) 1 rr t rfl (hSmt.hk om) (hSmt.mk' om) ty32 rfl rfl (gD (d:=(0:Rat)) (by rw [hSmt.row om];omega))) ?_
  rintro ⟨w3,w4⟩ -
  dsimp only [aq,nq,cq]
  refine zLb open1_rQ ?_
  have e5:Mx.e (M.set ii (Mx.sb (M.getD ii []) (M.getD rr []) xk j0 t)) rr t=Mx.e M rr t:=by exact Mx.e_set_ne hil hne
  rw [e5]
  refine zJ rfl rfl (.c rfl .n) ce80 (zjc (k1:=true) (u1:=w3) (v1:=w4) (q1:=(Mx.e M rr t))) (.c (j:=0) rfl .n)<|e_p (zsa rfl rfl)<|zf<|zc<|zI rfl (fun hz=> ?_) (fun hz=> ?_)
  ·
   refine zoa (.c (i:=1) rfl (.c (i:=0) rfl .n))<|zW (OW:=[rowsM 32 rQ hs (M.set ii (Mx.sb (M.getD ii []) (M.getD rr []) xk j0 t))]) (O:=[boxA b1 32 (cw [u1,v1])]) 14 mixed (.block (.then (.then (.block .ret)))) kr<|e_dm 0 rfl rfl rfl<|e_dm 1 rfl rfl rfl<|e_dm 2 rfl rfl rfl<|e_dm 3 rfl rfl rfl<|e_uw 4 rfl rfl (zwa 0 ii t rfl (hSmt.hk om) (hSmt.mk' om) (hSmt.row om) ym sz32 rfl rfl rfl om)<|zvb 5 rfl rfl kr kr kr rfl rfl (zRa (x0:=(Mx.e (M.set ii (Mx.sb (M.getD ii []) (M.getD rr []) xk j0 t)) ii t)) 0 ii t rfl (hSmt.hk om) (hSmt.mk' om) ty32 rfl rfl (gD (d:=(0:Rat)) (by rw [hSmt.row om];omega))) ?_
   rintro ⟨w6,w7⟩ -
   dsimp only [aq,nq,cq]
   refine zxb open1_rQ ?_
   have e8:Mx.e (M.set ii (Mx.sb (M.getD ii []) (M.getD rr []) xk j0 t)) ii t=Mx.e M ii t:=by exact Mx.e_sb_this hil om (Nat.le_refl _)
   rw [e8]
   refine e_uw 6 rfl rfl (zd 1 ty32 rfl rfl (.t4 .nil))<|e_dm 7 rfl rfl rfl<|e_dm 8 rfl rfl rfl<|e_uw 9 rfl rfl (zwa 0 rr t rfl (hSmt.hk om) (hSmt.mk' om) (hSmt.row om) ym sz32 rfl rfl rfl om)<|zvb 10 rfl rfl kr kr kr rfl rfl (zRa (x0:=(Mx.e (M.set ii (Mx.sb (M.getD ii []) (M.getD rr []) xk j0 t)) rr t)) 0 rr t rfl (hSmt.hk om) (hSmt.mk' om) ty32 rfl rfl (gD (d:=(0:Rat)) (by rw [hSmt.row om];omega))) ?_
   rintro ⟨w9,w10⟩ -
   dsimp only [aq,nq,cq]
   refine zxb open1_rQ ?_
   have e11:Mx.e (M.set ii (Mx.sb (M.getD ii []) (M.getD rr []) xk j0 t)) rr t=Mx.e M rr t:=by exact Mx.e_set_ne hil hne
   rw [e11]
   have hmm:=Big.hq_mul xk (Mx.e M rr t)
   refine e_one 11 (zv rfl rfl rfl rfl (.c rfl (.c rfl .n)) ce56 (zrb (k1:=true) (u1:=u1) (v1:=v1) (q1:=xk) (k2:=true) (u2:=w9) (v2:=w10) (q2:=(Mx.e M rr t)) (hl:=cbo)) (.c (j:=3) rfl (.c (j:=0) rfl .n)) ?_)
   rintro ⟨w312,w413⟩ -
   dsimp only [aq,nq,cq]
   refine e_one 12 (zv rfl rfl rfl rfl (.c rfl (.c rfl .n)) ce147 (zkc (k1:=true) (u1:=w6) (v1:=w7) (q1:=(Mx.e M ii t)) (k2:=true) (u2:=w312) (v2:=w413) (q2:=xk*(Mx.e M rr t)) (hl:=cbo)) (.c (j:=2) rfl (.c (j:=0) rfl .n)) ?_)
   rintro ⟨w314,w415⟩ -
   dsimp only [aq,nq,cq]
   refine e_uw 13 rfl rfl (zwa 0 ii t rfl (hSmt.hk om) (hSmt.mk' om) (hSmt.row om) ym sz32 rfl rfl rfl om)<|e_one 14 (zcc (A':=fun _=>rowsM 32 rQ hs ((M.set ii (Mx.sb (M.getD ii []) (M.getD rr []) xk j0 t)).set ii (((M.set ii (Mx.sb (M.getD ii []) (M.getD rr []) xk j0 t)).getD ii []).set t ((Mx.e M ii t) - (xk*(Mx.e M rr t)))))) kr rfl rfl rfl (zXb (r:=rQ) (k:=ii) (j:=t) (x0:=((Mx.e M ii t) - (xk*(Mx.e M rr t)))) (γ0:=(w314,w415)) (hSmt.hk om) (hSmt.mk' om) rfl rfl (by rw [hSmt.row om];omega) rfl rfl sz32 (fun g hr=>Holds.get 0 rfl hr)) (fun _ _=> ?_))
   refine zN kr<|zQ<|zc<|za<|e_mv rfl<|e_p (zK (z:=(((t+1):Nat):Int)) rfl rfl (w64 om))<|e_p (zb rfl)<|zf<|zca (t+1) (show j0≤(t+1)∧(t+1)≤N from by exact ⟨by omega,by omega⟩) (by show N - (t+1)<N - t;omega) (mR rfl) (ho:=((.c (i:=1) rfl (.e (i:=0) rfl (by first|rfl|(rw [Mx.sub_step hil om om])) .n)):PickO _ _ _)) ((.c (j:=5) rfl .n):SelR _ _ _)
  ·
   have hz0:Mx.e M rr t=0:=Rat.num_eq_zero.1 (yH.1 (Decidable.not_not.1 hz))
   refine zx<|zQ<|zc<|za<|e_mv rfl<|e_p (zK (z:=(((t+1):Nat):Int)) rfl rfl (w64 om))<|e_p (zb rfl)<|zf<|zca (t+1) (show j0≤(t+1)∧(t+1)≤N from by exact ⟨by omega,by omega⟩) (by show N - (t+1)<N - t;omega) (mR rfl) (ho:=((.c (i:=0) rfl (.e (i:=0) rfl (by first|rfl|(rw [Mx.sub_zero om om hz0])) .n)):PickO _ _ _)) ((.c (j:=1) rfl .n):SelR _ _ _)
 ·
  refine zda<|zj<|zj<|zu<|p_end ?_
  have e16:(M.set ii (Mx.sb (M.getD ii []) (M.getD rr []) xk j0 t))=(M.set ii (Mx.sb (M.getD ii []) (M.getD rr []) xk j0 N)):=by rw [show t=N by omega]
  rw [e16]
  exact p_ret0 Tryz.results81 () trivial rfl (ho:=((.c (i:=1) rfl .n):PickO _ _ _)) sN
end Go.Proofs.YtpdbimfnhglhpaaGreat.Sp
namespace Go.Proofs.YtpdbimfnhglhpaaGreat.Sp
open Go
theorem Mem.rowSome {c:Cx} {O:List As} {R:List Fa} {α:Type} {T:TypeId} {r:Rp α} {p:Option Addr} {cap:Nat} {l:List α} {w:World} (i:Nat) (hi:O[i]? =some (rowA T r p cap l)) (hl:l≠[]) (mm:Mem c w O R):∃y:Nat×Nat,p=some ⟨y.1,y.2,none⟩∧Mem c w O R:=by
  obtain ⟨hh,g,m0⟩:=mm.perm (zba hi)
  obtain ⟨h1,h2,a,eh,s,y⟩:=m0.sep
  rcases s with ⟨e1,e2,e3,e4⟩|⟨b,off,cells,e1,e2,e3,e4,e5,e6⟩
  · exact absurd (by assumption) hl
  · exact ⟨(b,off),by assumption,mm⟩
section
variable {P : Program} {Q : Exit → Act → World → Prop} {c : Cx} {n : Sz} {ops : Array Oper} {m : Fm} {OW O : List As} {R : List Fa} {k wi : Nat} {L : Array Bool}
end
end Go.Proofs.YtpdbimfnhglhpaaGreat.Sp
namespace Go.Proofs.YtpdbimfnhglhpaaGreat.Sp
open Go
set_option linter.unusedVariables false
set_option maxRecDepth 100000
set_option maxHeartbeats 8000000
theorem zff {pA:Option Addr} {cA:Nat} {hs:HP} {M:List (List Rat)} {K:Nat} {N:Nat} {nj:Nat} {b:Nat} (hSm:Mx.Sm hs M K N) (hK:K≤64) (hN:N≤70) (hnN:nj≤N) (hb0:Mx.bd M b) (hH:Mx.H b nj≤200000):Con yl 144 [.slice pA K cA,.int .i64 ((nj:Nat):Int)] [rowA 62 rV pA cA (oh hs N),rowsM 32 rQ hs M] [] (Y:=HP×(List (List Rat))×(List Nat)×(Option Addr)×Nat) (fun y=>Mx.Sm y.1 y.2.1 K N∧Mx.Rd N K M y.2.1 nj y.2.2.1∧Mx.bd y.2.1 (Mx.H b nj)) (fun y=> .slice (y.2.2.2.1) (y.2.2.1.length) (y.2.2.2.2)) (fun y=>[rowA 62 rV pA cA (oh y.1 N),rowsM 32 rQ (y.1) (y.2.1),rowA 3 (rI .i64) (y.2.2.2.1) (y.2.2.2.2) (Mx.ints y.2.2.1)]) (fun y=>[]):=by
 refine zl Tryz.func144 rfl rfl rfl (fun c=> ?_)
 show RunC _ _ _ _ _ [(0,.slice pA K cA),(1,.int .i64 ((nj:Nat):Int))] [rowA 62 rV pA cA (oh hs N),rowsM 32 rQ hs M] []
 refine zGe 3 (rI .i64)<|ze<|za<|e_p (zb rfl)<|zf<|zc<|ze<|za<|e_p (zb rfl)<|zf<|zc<|ze<|ze<|za<|e_mv rfl<|e_mv rfl<|zf<|zc<|zw<|zha (X:=Nat×HP×(List (List Rat))×(List Nat)×(Option Addr)×Nat) (fun x:Nat×HP×(List (List Rat))×(List Nat)×(Option Addr)×Nat=>x.1≤nj∧Mx.Sm x.2.1 x.2.2.1 K N∧Mx.Rd N K M x.2.2.1 x.1 x.2.2.2.1∧Mx.bd x.2.2.1 (Mx.H b x.1)) (fun x=>[(5,.slice (x.2.2.2.2.1) (x.2.2.2.1.length) (x.2.2.2.2.2)),(13,.int .i64 ((x.1:Nat):Int)),(12,.int .i64 ((nj:Nat):Int)),(4,.slice none 0 0),(0,.slice pA K cA)]) (fun x=>[rowA 3 (rI .i64) (x.2.2.2.2.1) (x.2.2.2.2.2) (Mx.ints x.2.2.2.1),rowA 62 rV pA cA (oh x.2.1 N),rowsM 32 rQ (x.2.1) (x.2.2.1)]) (fun x=>[]) (fun x:Nat×HP×(List (List Rat))×(List Nat)×(Option Addr)×Nat=>nj - x.1) (0,hs,M,([]:List Nat),none,0) (show 0≤nj∧Mx.Sm hs M K N∧Mx.Rd N K M M 0 ([]:List Nat)∧Mx.bd M (Mx.H b 0) from by exact ⟨Nat.zero_le _,hSm,Mx.Rd.start hSm.l hSm.r,hb0⟩) ((.e rfl cgs (.e rfl cgs (.of rfl))):SubM _ _) (ho:=((.e (i:=0) rfl cgs (.of [0,0] rfl)):PickO _ _ _)) sN ?_
 rintro ⟨j,hs1,M1,ps,pP,cP⟩ hI
 replace hI:j≤nj∧Mx.Sm hs1 M1 K N∧Mx.Rd N K M M1 j ps∧Mx.bd M1 (Mx.H b j):=hI
 try dsimp only
 obtain ⟨hj,hSm1,hRd,hbd⟩:=hI
 have hpj:=hRd.plj
 have hpk:=hRd.plk
 have hil:=Mx.ints_len ps
 refine ze<|za<|e_p (zV rfl rfl)<|zf<|zc<|ze<|zI rfl (fun h1=> ?_) (fun h1=> ?_)
 ·
  have hH6:6*Mx.H b j+4≤200000:=Nat.le_trans (Mx.H_mono b (show j+1≤nj by omega)) hH
  refine zx<|zc<|ze<|zw<|ze<|za<|e_mv rfl<|e_p (zb rfl)<|zf<|zc<|ze<|za<|e_mv rfl<|e_p (zG yx rfl)<|e_p (zb rfl)<|zf<|zc<|ze<|za<|e_mv rfl<|e_p (zb rfl)<|zf<|zc<|ze<|zw<|zha (X:=Nat) (fun x:Nat=>ps.length≤x∧x≤K∧∀i,ps.length≤i→i<x→Mx.e M1 i j=0) (fun x=>[(8,.int .i64 ((x:Nat):Int)),(7,.int .i64 ((ps.length:Nat):Int)),(6,.int .i64 ((j:Nat):Int)),(5,.slice pP (ps.length) cP),(13,.int .i64 ((j:Nat):Int)),(12,.int .i64 ((nj:Nat):Int)),(4,.slice none 0 0),(0,.slice pA K cA)]) (fun x=>[rowA 3 (rI .i64) pP cP (Mx.ints ps),rowA 62 rV pA cA (oh hs1 N),rowsM 32 rQ hs1 M1]) (fun x=>[]) (fun x:Nat=>K - x) ps.length (show ps.length≤ps.length∧ps.length≤K∧∀i,ps.length≤i→i<ps.length→Mx.e M1 i j=0 from by exact ⟨Nat.le_refl _,hpk,fun i h1 h2=>by omega⟩) (mR rfl) (ho:=((.of [0,0,0] rfl):PickO _ _ _)) sN ?_
  rintro k hK2
  replace hK2:ps.length≤k∧k≤K∧∀i,ps.length≤i→i<k→Mx.e M1 i j=0:=hK2
  try dsimp only
  obtain ⟨hk1,hk2,hk0⟩:=hK2
  refine ze<|zib (X:=Unit) (fun x=>True) (fun x=>[(33,.bool (decide ((((k:Nat):Int)<((K:Nat):Int))∧(Big.sgq (Mx.e M1 k j)=0)))),(8,.int .i64 ((k:Nat):Int)),(7,.int .i64 ((ps.length:Nat):Int)),(6,.int .i64 ((j:Nat):Int)),(5,.slice pP (ps.length) cP),(13,.int .i64 ((j:Nat):Int)),(12,.int .i64 ((nj:Nat):Int)),(4,.slice none 0 0),(0,.slice pA K cA)]) (fun x=>[rowA 3 (rI .i64) pP cP (Mx.ints ps),rowA 62 rV pA cA (oh hs1 N),rowsM 32 rQ hs1 M1]) (fun x=>[]) ?_ ?_
  ·
   refine za<|e_mv rfl<|e_mv rfl<|e_p (zG yk rfl)<|e_p (zV rfl rfl)<|zja rfl rfl (zna rfl) (fun h2=> ?_) (fun h2=> ?_)
   ·
    refine e_mv rfl<|e_mv rfl<|e_ru (zY 1 k rfl yk sz62 rfl (by first|rfl|assumption|omega|exact Mx.ints_len _|(rw [oh_len];first|exact hSm1.h|exact hSm2.h)) rfl rfl om)<|r_vl rfl rfl (zL (x0:=((rp hs1 k),N,(rc hs1 k))) (v:= .slice (rp hs1 k) N (rc hs1 k)) 1 k rfl ty62 rfl rfl (oh_get (hSm1.hk om)) rfl) (fun _ hok3=> ?_)
    refine e_mv rfl<|e_ru (zwa 2 k j rfl (hSm1.hk om) (hSm1.mk' om) (hSm1.row om) ym sz32 rfl rfl rfl om)<|r_vl rfl rfl (zRa (x0:=(Mx.e M1 k j)) 2 k j rfl (hSm1.hk om) (hSm1.mk' om) ty32 rfl rfl (gD (d:=(0:Rat)) (by rw [hSm1.row om];omega))) ?_
    rintro ⟨w4,w5⟩ -
    dsimp only [aq,nq,cq]
    refine zLb open1_rQ<|zJ rfl rfl (.c rfl .n) ce80 (zjc (k1:=true) (u1:=w4) (v1:=w5) (q1:=(Mx.e M1 k j))) (.c (j:=0) rfl .n)<|e_p (zxa rfl rfl)<|e_p (zC rfl rfl)<|zf ?_
    exact zka () tt9 ((.e rfl (congrArg Value.bool cbu) (.of rfl)):SubM _ _) (ho:=((.of [0,0,0] rfl):PickO _ _ _)) sN
   ·
    refine e_no<|e_no<|e_no<|e_no<|e_no<|e_no<|e_no<|e_no<|e_no<|e_p (zC rfl rfl)<|zf ?_
    exact zka () tt9 ((.e rfl (congrArg Value.bool cbu) (.of rfl)):SubM _ _) (ho:=((.of [0,0,0] rfl):PickO _ _ _)) sN
  ·
   rintro ⟨⟩ -
   try dsimp only
   refine zI rfl (fun h33=> ?_) (fun h33=> ?_)
   ·
    refine zx<|zc<|zw<|za<|e_mv rfl<|e_p (zK (z:=(((k+1):Nat):Int)) rfl rfl (w64 om))<|e_p (zb rfl)<|zf<|zQ<|zca (k+1) (show ps.length≤(k+1)∧(k+1)≤K∧∀i,ps.length≤i→i<(k+1)→Mx.e M1 i j=0 from by exact ⟨by omega,by omega,fun i h1 h2=>by rcases Nat.lt_or_ge i k with h|h;exact hk0 i h1 h;rw [show i=k by omega];exact Rat.num_eq_zero.1 (yH.1 h33.2)⟩) (by show K - (k+1)<K - k;omega) (mR rfl) (ho:=((.of [0,0,0] rfl):PickO _ _ _)) sN
   ·
    refine zda<|zj<|zj<|zu<|zc<|ze<|ze<|za<|e_mv rfl<|e_mv rfl<|e_p (zG yk rfl)<|e_p (zxa rfl rfl)<|zf<|zc<|zI rfl (fun h39=> ?_) (fun h39=> ?_)
    ·
     refine zda<|zj<|zu<|zc<|za<|e_p (zK (z:=(((j+1):Nat):Int)) rfl rfl (w64 om))<|e_mv rfl<|zf<|zca ((j+1),hs1,M1,ps,pP,cP) (show (j+1)≤nj∧Mx.Sm hs1 M1 K N∧Mx.Rd N K M M1 (j+1) ps∧Mx.bd M1 (Mx.H b (j+1)) from by exact ⟨by omega,hSm1,hRd.skip (fun i h1 h2=>hk0 i h1 om),hbd.up (by show _≤6*Mx.H b j+4;omega)⟩) (by show nj - (j+1)<nj - j;omega) (mR rfl) (ho:=((.of [0,0,0] rfl):PickO _ _ _)) sN
    ·
     have hkK:k<K:=by omega
     have hpv:Mx.e M1 k j≠0:=fun z=>h33 ⟨by omega,yH.2 (Rat.num_eq_zero.2 z)⟩
     refine c_memx (φ:=fun y:Nat×Nat=>pA=some ⟨y.1,y.2,none⟩) (fun w mm=>mm.rowSome 1 rfl (fun h=>by have h8:=hSm1.h;have h9:=oh_len hs1 N;rw [h] at h9;have h7:(0:Nat)=hs1.length:=h9;omega)) ?_
     rintro ⟨bq,oq⟩ hpq
     replace hpq:pA=some ⟨bq,oq,none⟩:=hpq
     rw [hpq]
     refine zx<|zc<|ze<|zoa (.c (i:=1) rfl (.c (i:=0) rfl (.c (i:=0) rfl .n)))<|zW (OW:=[rowA 62 rV (some ⟨bq,oq,none⟩) cA (oh hs1 N)]) (O:=[rowA 3 (rI .i64) pP cP (Mx.ints ps),rowsM 32 rQ hs1 M1]) 13 mixed (.then (.block (.then (.then (.block (.then .ret)))))) kr<|e_dm 0 rfl rfl rfl<|e_dm 1 rfl rfl rfl<|e_dm 2 rfl rfl rfl<|e_dm 3 rfl rfl rfl<|e_dm 4 rfl rfl rfl<|e_dm 5 rfl rfl rfl<|e_pv 6 rfl rfl (zS (j:=k) yk sz62 rfl rfl rfl om)<|zvb 7 rfl rfl kr kr kr rfl rfl (zL (x0:=((rp hs1 k),N,(rc hs1 k))) (v:= .slice (rp hs1 k) N (rc hs1 k)) 0 k rfl ty62 rfl rfl (oh_get (hSm1.hk om)) rfl) (fun _ hok6=> ?_)
     refine e_dm 8 rfl rfl rfl<|e_dm 9 rfl rfl rfl<|e_pv 10 rfl rfl (zS (j:=ps.length) yk sz62 rfl rfl rfl om)<|zvb 11 rfl rfl kr kr kr rfl rfl (zL (x0:=((rp hs1 ps.length),N,(rc hs1 ps.length))) (v:= .slice (rp hs1 ps.length) N (rc hs1 ps.length)) 0 (ps.length) rfl ty62 rfl rfl (oh_get (hSm1.hk om)) rfl) (fun _ hok7=> ?_)
     refine e_pv 12 rfl rfl (zS (j:=ps.length) yk sz62 rfl rfl rfl om)<|e_one 13 (zcc (A':=fun _=>rowA 62 rV (some ⟨bq,oq,none⟩) cA ((oh hs1 N).set (ps.length) ((rp hs1 k),N,(rc hs1 k)))) kr rfl rfl rfl (zO (j:=ps.length) (x0:=((rp hs1 k),N,(rc hs1 k))) (γ0:=()) rfl rfl (by first|omega|(rw [oh_len,hSm1.h];omega)|(rw [List.length_set,oh_len,hSm1.h];omega)) rfl rfl sz62 (fun _ _=>by trivial)) (fun _ _=> ?_))
     refine e_pv 14 rfl rfl (zS (j:=k) yk sz62 rfl rfl rfl om)<|e_one 15 (zcc (A':=fun _=>rowA 62 rV (some ⟨bq,oq,none⟩) cA (((oh hs1 N).set (ps.length) ((rp hs1 k),N,(rc hs1 k))).set k ((rp hs1 ps.length),N,(rc hs1 ps.length)))) kr rfl rfl rfl (zO (j:=k) (x0:=((rp hs1 ps.length),N,(rc hs1 ps.length))) (γ0:=()) rfl rfl (by first|omega|(rw [oh_len,hSm1.h];omega)|(rw [List.length_set,oh_len,hSm1.h];omega)) rfl rfl sz62 (fun _ _=>by trivial)) (fun _ _=> ?_))
     refine zN kr<|zc<|ze ?_
     rw [← hpq]
     have e8:((((oh hs1 N).set (ps.length) ((rp hs1 k),N,(rc hs1 k))).set k ((rp hs1 ps.length),N,(rc hs1 ps.length))):List (Option Addr×Nat×Nat))=(oh (sw hs1 ps.length k) N):=by exact oh_sw _ _ _ _
     rw [e8]
     refine zOd (fun w mm=>mm.rmSwap (j:=ps.length) (k:=k) 2 rfl (hSm1.hk om) (hSm1.hk om) hSm1.hl) ?_
     try dsimp only [List.eraseIdx]
     have e8_:(M1.set ps.length (M1.getD k [])).set k (M1.getD ps.length [])=Mx.swp M1 ps.length k:=rfl
     rw [e8_]
     obtain ⟨hs2,hhs2⟩:∃z:HP,z=(sw hs1 ps.length k):=⟨_,rfl⟩
     rw [← hhs2]
     obtain ⟨M2,hM2⟩:∃z:List (List Rat),z=(Mx.swp M1 ps.length k):=⟨_,rfl⟩
     rw [← hM2]
     have hSm2:Mx.Sm hs2 M2 K N:=by rw [hhs2,hM2];exact hSm1.swp om om
     have hbd2:Mx.bd M2 (Mx.H b j):=by rw [hM2];exact hbd.swp (hSm1.mk' om) (hSm1.mk' om)
     have hpv2:Mx.e M2 ps.length j≠0:=by rw [hM2,Mx.e_swp_r (hSm1.mk' om) (hSm1.mk' om)];exact hpv
     have hbq:=hbd2 ps.length j
     have h1q:yJ ((1:Int):Rat)=1:=Big.hq_one
     refine zW (OW:=[]) (O:=[rowsM 32 rQ hs2 M2,rowA 62 rV pA cA (oh hs2 N),rowA 3 (rI .i64) pP cP (Mx.ints ps)]) 10 mixed (.then (.block (.then (.then (.block (.then .ret)))))) kr<|e_dm 1 rfl rfl rfl<|e_dm 2 rfl rfl rfl<|e_u 3 rfl rfl (zY 1 (ps.length) rfl yk sz62 rfl (by first|rfl|assumption|omega|exact Mx.ints_len _|(rw [oh_len];first|exact hSm1.h|exact hSm2.h)) rfl rfl om)<|d_vl 4 rfl rfl kr kr rfl rfl (zL (x0:=((rp hs2 ps.length),N,(rc hs2 ps.length))) (v:= .slice (rp hs2 ps.length) N (rc hs2 ps.length)) 1 (ps.length) rfl ty62 rfl rfl (oh_get (hSm2.hk om)) rfl) (fun _ hok9=> ?_)
     refine e_dm 5 rfl rfl rfl<|e_u 6 rfl rfl (zwa 0 (ps.length) j rfl (hSm2.hk om) (hSm2.mk' om) (hSm2.row om) ym sz32 rfl rfl rfl om)<|d_vl 7 rfl rfl kr kr rfl rfl (zRa (x0:=(Mx.e M2 ps.length j)) 0 (ps.length) j rfl (hSm2.hk om) (hSm2.mk' om) ty32 rfl rfl (gD (d:=(0:Rat)) (by rw [hSm2.row om];omega))) ?_
     rintro ⟨w10,w11⟩ -
     dsimp only [aq,nq,cq]
     refine zxb open1_rQ<|zya (m':=[(61,.agg (cw [w10,w11]).toArray),(7,.int .i64 ((ps.length:Nat):Int)),(6,.int .i64 ((j:Nat):Int)),(5,.slice pP (ps.length) cP),(13,.int .i64 ((j:Nat):Int)),(12,.int .i64 ((nj:Nat):Int)),(4,.slice none 0 0),(0,.slice pA K cA)]) (R':=[qF true w10 w11 (Mx.e M2 ps.length j)]) (mR rfl) (List.Perm.refl _) (List.Perm.refl _) (s0 rfl)<|a_start<|a_step 0 rfl (X:=Wd×Wd) (fun x=> .agg #[x.1.b,x.1.l,x.2.b,x.2.l]) (fun x=>[]) (fun x=>[qF true x.1 x.2 ((1:Int):Rat)]) [] kr rfl kr kr kr (fun _=> ?_) ?_
     ·
      refine zya (m':=[]) (R':=[]) (.n:SubM _ _) (List.Perm.refl _) (List.Perm.refl _) sN<|e_one 0 (zv rfl rfl rfl rfl (.c rfl .n) ce52 (zHa (z:=1) (hz:=cbo)) (.n) ?_)
      rintro ⟨u0_1,u0_2⟩ -
      dsimp only [aq,nq,cq]
      refine zN kr ?_
      exact zka (u0_1,u0_2) trivial ((.c rfl .n):SubM _ _) (ho:=oN) (s0 rfl)
     refine a_step 8 rfl (X:=Wd×Wd) (fun x=> .agg #[x.1.b,x.1.l,x.2.b,x.2.l]) (fun x=>[]) (fun x=>[qF true x.1 x.2 (((1:Int):Rat) / (Mx.e M2 ps.length j))]) [0] kr rfl kr kr kr (fun _=> ?_) ?_
     ·
      rintro ⟨g0_0,g0_1⟩
      refine zya (m':=[(54,.agg (cw [g0_0,g0_1]).toArray),(61,.agg (cw [w10,w11]).toArray)]) (R':=[qF true g0_0 g0_1 ((1:Int):Rat),qF true w10 w11 (Mx.e M2 ps.length j)]) ((.c rfl (.c rfl .n)):SubM _ _) (List.Perm.refl _) (List.Perm.refl _) ((.of [0,1] rfl):SelR _ _ _)<|e_one 0 (zv rfl rfl rfl rfl (.c rfl (.c rfl .n)) ce82 (zde (u1:=g0_0) (v1:=g0_1) (q1:=((1:Int):Rat)) (u2:=w10) (v2:=w11) (q2:=(Mx.e M2 ps.length j)) (hl:=cbo) (h0:=cbo)) (.c (j:=0) rfl (.c (j:=1) rfl .n)) ?_)
      rintro ⟨u8_1,u8_2⟩ -
      dsimp only [aq,nq,cq]
      refine zN kr ?_
      exact zka (u8_1,u8_2) trivial ((.c rfl .n):SubM _ _) (ho:=oN) (s0 rfl)
     refine a_step 9 rfl (X:=Nat) (fun x=> .pointer (some ⟨x,0,none⟩)) (fun x=>[boxA x 32 [.bool false,.slice none 0 0,.bool false,.slice none 0 0]]) (fun x=>[]) [] kr rfl kr kr kr (fun _=> ?_) ?_
     ·
      refine zya (m':=[]) (R':=[]) (.n:SubM _ _) (List.Perm.refl _) (List.Perm.refl _) sN<|e_one 0 (zwb rfl rfl rfl rfl (zo zr32 rfl) (fun u9_1 _=> ?_))
      refine zN kr ?_
      exact zka u9_1 trivial ((.c rfl .n):SubM _ _) (ho:=(o0 rfl)) sN
     refine a_fin (k':=1) (L':=(lb 11 1023)) kr kr kr kr kr kr kr ?_
     rintro g9_0 ⟨g8_0,g8_1⟩ _
     refine zya (m':=[(9,.pointer (some ⟨g9_0,0,none⟩)),(62,.agg (cw [g8_0,g8_1]).toArray),(61,.agg (cw [w10,w11]).toArray),(7,.int .i64 ((ps.length:Nat):Int)),(6,.int .i64 ((j:Nat):Int)),(5,.slice pP (ps.length) cP),(13,.int .i64 ((j:Nat):Int)),(12,.int .i64 ((nj:Nat):Int)),(4,.slice none 0 0),(0,.slice pA K cA)]) (OW':=[boxA g9_0 32 (cw [wz,wz])]) (R':=[qF true g8_0 g8_1 (((1:Int):Rat) / (Mx.e M2 ps.length j)),qF true w10 w11 (Mx.e M2 ps.length j)]) (mR rfl) (List.Perm.refl _) (List.Perm.refl _) ((.of [0,2] rfl):SelR _ _ _)<|e_one 10 (zr kr rfl rfl rfl rfl rfl sz32 rfl (.t4 .nil) ?_)
     refine zN kr<|zc<|ze<|ze ?_
     obtain ⟨xk,hxk⟩:∃z:Rat,z=(((1:Int):Rat) / (Mx.e M2 ps.length j)):=⟨_,rfl⟩
     rw [← hxk]
     have hxq:yJ xk≤Mx.H b j+1:=by rw [hxk];exact Mx.hq_recip hpv2 hbq
     refine za<|e_mv rfl<|e_p (zb rfl)<|zf<|zc<|zw<|zha (X:=Nat) (fun x:Nat=>j≤x∧x≤N) (fun x=>[(10,.int .i64 ((x:Nat):Int)),(9,.pointer (some ⟨g9_0,0,none⟩)),(7,.int .i64 ((ps.length:Nat):Int)),(6,.int .i64 ((j:Nat):Int)),(5,.slice pP (ps.length) cP),(13,.int .i64 ((j:Nat):Int)),(12,.int .i64 ((nj:Nat):Int)),(4,.slice none 0 0),(0,.slice pA K cA)]) (fun x=>[boxA g9_0 32 (cw [g8_0,g8_1]),rowsM 32 rQ hs2 (M2.set ps.length (Mx.sc (M2.getD ps.length []) xk j x)),rowA 62 rV pA cA (oh hs2 N),rowA 3 (rI .i64) pP cP (Mx.ints ps)]) (fun x=>[qF true g8_0 g8_1 xk,qF true w10 w11 (Mx.e M2 ps.length j)]) (fun x:Nat=>N - x) j (show j≤j∧j≤N from by exact ⟨Nat.le_refl _,by omega⟩) (mR rfl) (ho:=((.c (i:=0) rfl (.e (i:=0) rfl (by first|rfl|(rw [Mx.scl_start (hSm2.mk' om)])) (.of [0,0] rfl))):PickO _ _ _)) ((.of [0,1] rfl):SelR _ _ _) ?_
     rintro t hT
     replace hT:j≤t∧t≤N:=hT
     try dsimp only [cw]
     obtain ⟨ht0,htN⟩:=hT
     have hSmt:Mx.Sm hs2 (M2.set ps.length (Mx.sc (M2.getD ps.length []) xk j t)) K N:=hSm2.setSc om
     refine ze<|ze<|za<|e_mv rfl<|e_mv rfl<|e_mv rfl<|e_ru (zY 2 (ps.length) rfl yk sz62 rfl (by first|rfl|assumption|omega|exact Mx.ints_len _|(rw [oh_len];first|exact hSm1.h|exact hSm2.h)) rfl rfl om)<|r_vl rfl rfl (zL (x0:=((rp hs2 ps.length),N,(rc hs2 ps.length))) (v:= .slice (rp hs2 ps.length) N (rc hs2 ps.length)) 2 (ps.length) rfl ty62 rfl rfl (oh_get (hSmt.hk om)) rfl) (fun _ hok12=> ?_)
     refine e_p (zG ym rfl)<|e_p (zV rfl rfl)<|zf<|zc<|zI rfl (fun h13=> ?_) (fun h13=> ?_)
     ·
      refine zx<|zc<|ze<|zw<|zoa (.c (i:=1) rfl (.c (i:=0) rfl (.c (i:=0) rfl (.c (i:=0) rfl .n))))<|zW (OW:=[rowsM 32 rQ hs2 (M2.set ps.length (Mx.sc (M2.getD ps.length []) xk j t))]) (O:=[boxA g9_0 32 (cw [g8_0,g8_1]),rowA 62 rV pA cA (oh hs2 N),rowA 3 (rI .i64) pP cP (Mx.ints ps)]) 15 mixed (.block (.then (.then (.block (.then (.block (.then (.then (.block (.then .ret)))))))))) kr<|e_dm 0 rfl rfl rfl<|e_dm 1 rfl rfl rfl<|e_uw 2 rfl rfl (zY 2 (ps.length) rfl yk sz62 rfl (by first|rfl|assumption|omega|exact Mx.ints_len _|(rw [oh_len];first|exact hSm1.h|exact hSm2.h)) rfl rfl om)<|zvb 3 rfl rfl kr kr kr rfl rfl (zL (x0:=((rp hs2 ps.length),N,(rc hs2 ps.length))) (v:= .slice (rp hs2 ps.length) N (rc hs2 ps.length)) 2 (ps.length) rfl ty62 rfl rfl (oh_get (hSmt.hk om)) rfl) (fun _ hok14=> ?_)
      refine e_dm 4 rfl rfl rfl<|e_uw 5 rfl rfl (zd 1 ty32 rfl rfl (.t4 .nil))<|e_dm 6 rfl rfl rfl<|e_dm 7 rfl rfl rfl<|e_uw 8 rfl rfl (zY 2 (ps.length) rfl yk sz62 rfl (by first|rfl|assumption|omega|exact Mx.ints_len _|(rw [oh_len];first|exact hSm1.h|exact hSm2.h)) rfl rfl om)<|zvb 9 rfl rfl kr kr kr rfl rfl (zL (x0:=((rp hs2 ps.length),N,(rc hs2 ps.length))) (v:= .slice (rp hs2 ps.length) N (rc hs2 ps.length)) 2 (ps.length) rfl ty62 rfl rfl (oh_get (hSmt.hk om)) rfl) (fun _ hok15=> ?_)
      refine e_dm 10 rfl rfl rfl<|e_uw 11 rfl rfl (zwa 0 (ps.length) t rfl (hSmt.hk om) (hSmt.mk' om) (hSmt.row om) ym sz32 rfl rfl rfl om)<|zvb 12 rfl rfl kr kr kr rfl rfl (zRa (x0:=(Mx.e (M2.set ps.length (Mx.sc (M2.getD ps.length []) xk j t)) ps.length t)) 0 (ps.length) t rfl (hSmt.hk om) (hSmt.mk' om) ty32 rfl rfl (gD (d:=(0:Rat)) (by rw [hSmt.row om];omega))) ?_
      rintro ⟨w16,w17⟩ -
      dsimp only [aq,nq,cq]
      refine zxb open1_rQ ?_
      have e18:Mx.e (M2.set ps.length (Mx.sc (M2.getD ps.length []) xk j t)) ps.length t=Mx.e M2 ps.length t:=by exact Mx.e_sc_this (hSm2.mk' om) (by rw [hSm2.row om];omega) (Nat.le_refl _)
      rw [e18]
      have hbt:=hbd2 ps.length t
      refine e_one 13 (zv rfl rfl rfl rfl (.c rfl (.c rfl .n)) ce56 (zrb (k1:=true) (u1:=g8_0) (v1:=g8_1) (q1:=xk) (k2:=true) (u2:=w16) (v2:=w17) (q2:=(Mx.e M2 ps.length t)) (hl:=cbo)) (.c (j:=1) rfl (.c (j:=0) rfl .n)) ?_)
      rintro ⟨w319,w420⟩ -
      dsimp only [aq,nq,cq]
      refine e_uw 14 rfl rfl (zwa 0 (ps.length) t rfl (hSmt.hk om) (hSmt.mk' om) (hSmt.row om) ym sz32 rfl rfl rfl om)<|e_one 15 (zcc (A':=fun _=>rowsM 32 rQ hs2 ((M2.set ps.length (Mx.sc (M2.getD ps.length []) xk j t)).set (ps.length) (((M2.set ps.length (Mx.sc (M2.getD ps.length []) xk j t)).getD (ps.length) []).set t (xk*(Mx.e M2 ps.length t))))) kr rfl rfl rfl (zXb (r:=rQ) (k:=ps.length) (j:=t) (x0:=(xk*(Mx.e M2 ps.length t))) (γ0:=(w319,w420)) (hSmt.hk om) (hSmt.mk' om) rfl rfl (by rw [hSmt.row om];omega) rfl rfl sz32 (fun g hr=>Holds.get 0 rfl hr)) (fun _ _=> ?_))
      refine zN kr<|zQ<|zc<|za<|e_mv rfl<|e_p (zK (z:=(((t+1):Nat):Int)) rfl rfl (w64 om))<|e_p (zb rfl)<|zf<|zca (t+1) (show j≤(t+1)∧(t+1)≤N from by exact ⟨by omega,by omega⟩) (by show N - (t+1)<N - t;omega) (mR rfl) (ho:=((.c (i:=1) rfl (.e (i:=0) rfl (by first|rfl|(rw [Mx.scl_step (hSm2.mk' om) om (by rw [hSm2.row om];omega)])) (.of [0,0] rfl))):PickO _ _ _)) ((.of [2,3] rfl):SelR _ _ _)
     ·
      refine zda<|zj<|zj<|zu<|zc<|ze<|ze ?_
      have e21:(M2.set ps.length (Mx.sc (M2.getD ps.length []) xk j t))=(M2.set ps.length (Mx.sc (M2.getD ps.length []) xk j N)):=by rw [show t=N by omega]
      rw [e21]
      obtain ⟨M3,hM3⟩:∃z:List (List Rat),z=(M2.set ps.length (Mx.sc (M2.getD ps.length []) xk j N)):=⟨_,rfl⟩
      rw [← hM3]
      have hSm3:Mx.Sm hs2 M3 K N:=by rw [hM3];exact hSm2.setSc om
      have hbd3:Mx.bd M3 (2*Mx.H b j+1):=by rw [hM3];exact hbd2.sc (hSm2.mk' om) hxq
      refine za<|e_mv rfl<|e_p (zG yk rfl)<|e_mv rfl<|zf<|zc<|zw<|zha (X:=Nat) (fun x:Nat=>x≤K) (fun x=>[(90,.int .i64 ((x:Nat):Int)),(89,.int .i64 ((K:Nat):Int)),(7,.int .i64 ((ps.length:Nat):Int)),(6,.int .i64 ((j:Nat):Int)),(5,.slice pP (ps.length) cP),(13,.int .i64 ((j:Nat):Int)),(12,.int .i64 ((nj:Nat):Int)),(4,.slice none 0 0),(0,.slice pA K cA)]) (fun x=>[boxA g9_0 32 (cw [g8_0,g8_1]),rowsM 32 rQ hs2 (Mx.el M3 ps.length j x),rowA 62 rV pA cA (oh hs2 N),rowA 3 (rI .i64) pP cP (Mx.ints ps)]) (fun x=>[qF true g8_0 g8_1 xk,qF true w10 w11 (Mx.e M2 ps.length j)]) (fun x:Nat=>K - x) 0 (show 0≤K from by exact Nat.zero_le _) ((.e rfl cgs (.of rfl)):SubM _ _) (ho:=((.c (i:=0) rfl (.e (i:=0) rfl (by first|rfl|(rw [Mx.el_start])) (.of [0,0] rfl))):PickO _ _ _)) ((.of [0,1] rfl):SelR _ _ _) ?_
      rintro i hE
      replace hE:i≤K:=hE
      try dsimp only [cw]
      have hSme:Mx.Sm hs2 (Mx.el M3 ps.length j i) K N:=hSm3.el
      refine ze<|za<|e_p (zV rfl rfl)<|zf<|zc<|ze<|zI rfl (fun h22=> ?_) (fun h22=> ?_)
      ·
       refine zx<|zc<|ze<|zw<|ze<|za<|e_mv rfl<|e_p (zb rfl)<|zf<|zc<|zib (X:=Unit) (fun x=>True) (fun x=>[(106,.bool (decide ((((i:Nat):Int)≠((ps.length:Nat):Int))∧(Big.sgq (Mx.e (Mx.el M3 ps.length j i) i j)≠0)))),(11,.int .i64 ((i:Nat):Int)),(90,.int .i64 ((i:Nat):Int)),(89,.int .i64 ((K:Nat):Int)),(7,.int .i64 ((ps.length:Nat):Int)),(6,.int .i64 ((j:Nat):Int)),(5,.slice pP (ps.length) cP),(13,.int .i64 ((j:Nat):Int)),(12,.int .i64 ((nj:Nat):Int)),(4,.slice none 0 0),(0,.slice pA K cA)]) (fun x=>[boxA g9_0 32 (cw [g8_0,g8_1]),rowsM 32 rQ hs2 (Mx.el M3 ps.length j i),rowA 62 rV pA cA (oh hs2 N),rowA 3 (rI .i64) pP cP (Mx.ints ps)]) (fun x=>[qF true g8_0 g8_1 xk,qF true w10 w11 (Mx.e M2 ps.length j)]) ?_ ?_
       ·
        refine za<|e_mv rfl<|e_mv rfl<|e_p (zsa rfl rfl)<|zja rfl rfl (zna rfl) (fun h23=> ?_) (fun h23=> ?_)
        ·
         refine e_mv rfl<|e_mv rfl<|e_ru (zY 2 i rfl yk sz62 rfl (by first|rfl|assumption|omega|exact Mx.ints_len _|(rw [oh_len];first|exact hSm1.h|exact hSm2.h)) rfl rfl om)<|r_vl rfl rfl (zL (x0:=((rp hs2 i),N,(rc hs2 i))) (v:= .slice (rp hs2 i) N (rc hs2 i)) 2 i rfl ty62 rfl rfl (oh_get (hSme.hk om)) rfl) (fun _ hok24=> ?_)
         refine e_mv rfl<|e_ru (zwa 1 i j rfl (hSme.hk om) (hSme.mk' om) (hSme.row om) ym sz32 rfl rfl rfl om)<|r_vl rfl rfl (zRa (x0:=(Mx.e (Mx.el M3 ps.length j i) i j)) 1 i j rfl (hSme.hk om) (hSme.mk' om) ty32 rfl rfl (gD (d:=(0:Rat)) (by rw [hSme.row om];omega))) ?_
         rintro ⟨w25,w26⟩ -
         dsimp only [aq,nq,cq]
         refine zLb open1_rQ<|zJ rfl rfl (.c rfl .n) ce80 (zjc (k1:=true) (u1:=w25) (v1:=w26) (q1:=(Mx.e (Mx.el M3 ps.length j i) i j))) (.c (j:=0) rfl .n)<|e_p (zsa rfl rfl)<|e_p (zC rfl rfl)<|zf ?_
         exact zka () tt9 ((.e rfl (congrArg Value.bool cbu) (.of rfl)):SubM _ _) (ho:=((.of [0,0,0,0] rfl):PickO _ _ _)) ((.of [1,2] rfl):SelR _ _ _)
        ·
         refine e_no<|e_no<|e_no<|e_no<|e_no<|e_no<|e_no<|e_no<|e_no<|e_p (zC rfl rfl)<|zf ?_
         exact zka () tt9 ((.e rfl (congrArg Value.bool cbu) (.of rfl)):SubM _ _) (ho:=((.of [0,0,0,0] rfl):PickO _ _ _)) ((.of [0,1] rfl):SelR _ _ _)
       ·
        rintro ⟨⟩ -
        try dsimp only [cw]
        refine zI rfl (fun h106=> ?_) (fun h106=> ?_)
        ·
         refine zoa (.c (i:=1) rfl (.c (i:=0) rfl (.c (i:=0) rfl (.c (i:=0) rfl .n))))<|zW (OW:=[rowsM 32 rQ hs2 (Mx.el M3 ps.length j i)]) (O:=[boxA g9_0 32 (cw [g8_0,g8_1]),rowA 62 rV pA cA (oh hs2 N),rowA 3 (rI .i64) pP cP (Mx.ints ps)]) 16 mixed (.block (.then (.then (.block (.then (.block (.then (.then (.block (.then .ret)))))))))) kr<|e_dm 0 rfl rfl rfl<|e_dm 1 rfl rfl rfl<|e_uw 2 rfl rfl (zY 2 i rfl yk sz62 rfl (by first|rfl|assumption|omega|exact Mx.ints_len _|(rw [oh_len];first|exact hSm1.h|exact hSm2.h)) rfl rfl om)<|zvb 3 rfl rfl kr kr kr rfl rfl (zL (x0:=((rp hs2 i),N,(rc hs2 i))) (v:= .slice (rp hs2 i) N (rc hs2 i)) 2 i rfl ty62 rfl rfl (oh_get (hSme.hk om)) rfl) (fun _ hok27=> ?_)
         refine e_dm 4 rfl rfl rfl<|e_dm 5 rfl rfl rfl<|e_uw 6 rfl rfl (zY 2 (ps.length) rfl yk sz62 rfl (by first|rfl|assumption|omega|exact Mx.ints_len _|(rw [oh_len];first|exact hSm1.h|exact hSm2.h)) rfl rfl om)<|zvb 7 rfl rfl kr kr kr rfl rfl (zL (x0:=((rp hs2 ps.length),N,(rc hs2 ps.length))) (v:= .slice (rp hs2 ps.length) N (rc hs2 ps.length)) 2 (ps.length) rfl ty62 rfl rfl (oh_get (hSme.hk om)) rfl) (fun _ hok28=> ?_)
         refine e_dm 8 rfl rfl rfl<|e_dm 9 rfl rfl rfl<|e_uw 10 rfl rfl (zY 2 i rfl yk sz62 rfl (by first|rfl|assumption|omega|exact Mx.ints_len _|(rw [oh_len];first|exact hSm1.h|exact hSm2.h)) rfl rfl om)<|zvb 11 rfl rfl kr kr kr rfl rfl (zL (x0:=((rp hs2 i),N,(rc hs2 i))) (v:= .slice (rp hs2 i) N (rc hs2 i)) 2 i rfl ty62 rfl rfl (oh_get (hSme.hk om)) rfl) (fun _ hok29=> ?_)
         refine e_dm 12 rfl rfl rfl<|e_uw 13 rfl rfl (zwa 0 i j rfl (hSme.hk om) (hSme.mk' om) (hSme.row om) ym sz32 rfl rfl rfl om)<|zvb 14 rfl rfl kr kr kr rfl rfl (zRa (x0:=(Mx.e (Mx.el M3 ps.length j i) i j)) 0 i j rfl (hSme.hk om) (hSme.mk' om) ty32 rfl rfl (gD (d:=(0:Rat)) (by rw [hSme.row om];omega))) ?_
         rintro ⟨w30,w31⟩ -
         dsimp only [aq,nq,cq]
         refine zxb open1_rQ ?_
         have e32:Mx.e (Mx.el M3 ps.length j i) i j=Mx.e M3 i j:=by exact Mx.e_el (hSm3.mk' om)
         rw [e32]
         have hbi:=hbd3 i j
         have hb4:Mx.bd (Mx.el M3 ps.length j i) 200000:=hbd3.el.up om
         refine e_dm 15 rfl rfl rfl<|e_one 16 (zHg (first:=[]) (cap:=[]) (A':=fun y=>rowsM 32 rQ hs2 ((Mx.el M3 ps.length j i).set i (Mx.sb ((Mx.el M3 ps.length j i).getD i []) ((Mx.el M3 ps.length j i).getD ps.length []) (Mx.e M3 i j) j N))) kr rfl rfl rfl rfl (.c rfl (.c rfl (.c rfl (.c rfl .n)))) ce81 (zee (hs:=hs2) (M:=(Mx.el M3 ps.length j i)) (K:=K) (N:=N) (ii:=i) (rr:=ps.length) (u1:=w30) (v1:=w31) (xk:=(Mx.e M3 i j)) (j0:=j) (hSm:=cbo) (hii:=cbo) (hrr:=cbo) (hne:=cbo) (hj0:=cbo) (hN:=ass) (hx:=cbo) (hb:=cbo)) (.c (j:=0) rfl .n) ?_)
         rintro ⟨⟩ -
         dsimp only [aq,nq,cq]
         refine zN kr<|zQ<|zc<|za<|e_p (zK (z:=(((i+1):Nat):Int)) rfl rfl (w64 om))<|e_mv rfl<|zf<|zca (i+1) (show (i+1)≤K from by show i+1≤K;omega) (by show K - (i+1)<K - i;omega) (mR rfl) (ho:=((.c (i:=1) rfl (.e (i:=0) rfl (by first|rfl|(rw [Mx.el_sub (hSm3.mk' om) (hSm3.mk' om) om (hSm3.row om)])) (.of [0,0] rfl))):PickO _ _ _)) ((.of [1,2] rfl):SelR _ _ _)
        ·
         refine zx<|zQ<|zc<|za<|e_p (zK (z:=(((i+1):Nat):Int)) rfl rfl (w64 om))<|e_mv rfl<|zf<|zca (i+1) (show (i+1)≤K from by show i+1≤K;omega) (by show K - (i+1)<K - i;omega) (mR rfl) (ho:=((.c (i:=0) rfl (.e (i:=0) rfl (by first|rfl|(rw [Mx.el_skip (hSm3.mk' om) (by rcases Nat.decEq i ps.length with h|h;exact Or.inr (Rat.num_eq_zero.1 (yH.1 (Decidable.byContradiction fun z=>h106 ⟨by omega,z⟩)));exact Or.inl h)])) (.of [0,0] rfl))):PickO _ _ _)) ((.of [0,1] rfl):SelR _ _ _)
      ·
       refine zda<|zj<|zj<|zu<|zc<|za<|e_mv rfl<|e_mv rfl<|zva rfl rfl (zH (enc:=fun z:Int=>[.int .i64 z]) (ok:=InK .i64) (h1:=fun _=>rfl) (h2:=fun _=>rfl) (k:=1) yx inf3 rfl dd dd dd (.c (x:=((j:Nat):Int)) rfl rfl (fun _ _=>by exact zga.2 om) .n)) (fun b33 _=> ?_)
       refine zea 0 rfl .z<|zEa 4 rfl rfl rfl (zCa 0 rfl yx inf3 dd rfl rfl (by first|rfl|assumption|omega|exact Mx.ints_len _|(rw [oh_len];first|exact hSm1.h|exact hSm2.h)) rfl (by first|rfl|assumption|omega|exact Mx.ints_len _|(rw [oh_len];first|exact hSm1.h|exact hSm2.h)) om om) (fun _=>(.s (.s (.s (.s .z))))) ?_
       rintro ⟨p34,c35⟩ -
       dsimp only [aq,nq,cq]
       refine e_p (zb rfl)<|zf<|zQ<|zc<|za<|e_p (zK (z:=(((j+1):Nat):Int)) rfl rfl (w64 om))<|e_mv rfl<|zf ?_
       have hstep:=hRd.step' hk1 hkK om hpv hM2 hxk hM3
       have e36:(Mx.el M3 ps.length j i)=(Mx.el M3 ps.length j K):=by rw [show i=K by omega]
       rw [e36]
       refine zca ((j+1),hs2,(Mx.el M3 ps.length j K),(ps++[j]),p34,c35) (show (j+1)≤nj∧Mx.Sm hs2 (Mx.el M3 ps.length j K) K N∧Mx.Rd N K M (Mx.el M3 ps.length j K) (j+1) (ps++[j])∧Mx.bd (Mx.el M3 ps.length j K) (Mx.H b (j+1)) from by exact ⟨by omega,hSm3.el,hstep,hbd3.el.up (by show _≤6*Mx.H b j+4;omega)⟩) (by show nj - (j+1)<nj - j;omega) ((.e rfl cgs (.of rfl)):SubM _ _) (ho:=((.e (i:=4) rfl (by first|rfl|(rw [Mx.ints_snoc])) (.of [3,2] rfl)):PickO _ _ _)) sN
 ·
  refine zda<|zj<|zj<|zu<|zc<|ze<|za<|e_mv rfl<|e_p (zb rfl)<|zf<|zc<|zE ?_
  have ejn:j=nj:=by omega
  subst ejn
  exact zy Tryz.results144 (hs1,M1,ps,pP,cP) (⟨hSm1,hRd,hbd⟩) (zp rfl) rfl (ho:=((.of [1,1,0] rfl):PickO _ _ _)) sN
end Go.Proofs.YtpdbimfnhglhpaaGreat.Sp
