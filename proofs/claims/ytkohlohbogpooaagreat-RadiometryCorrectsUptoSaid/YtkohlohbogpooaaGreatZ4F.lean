/- Lemmas on the walk and plain lemmas that the claim of this folder uses; each states its own conditions. Lines were printed by a program of ours. -/
import Derived.Test.YtkohlohbogpooaaGreatZ4E
set_option linter.unusedVariables false
set_option linter.unusedSimpArgs false
set_option linter.unusedSectionVars false
open Go.Value renaming int → ya, pointer → yc
open Go.IntKind renaming i64 → yb
open Go.Proofs.Tryz renaming underlying44 → yd, underlying42 → ye, results4 → yf
namespace Go.Proofs.YtkohlohbogpooaaGreat.Sp
open Go
set_option linter.unusedVariables false
set_option maxRecDepth 100000
set_option maxHeartbeats 400000
theorem zFb {cx:Int} {cy:Int} {u1:Wd} {v1:Wd} {x1:Option Rat} {u2:Wd} {v2:Wd} {x2:Option Rat} {w:Int} {h:Int} {m:Int} {p:Option Addr} {n:Nat} {cap:Nat} {l:List Int} (hn:l.length=n):Con Tryz.prog 4 [.agg #[ya yb cx,ya yb cy,u1.b,u1.l,v1.b,v1.l,u2.b,u2.l,v2.b,v2.l],.agg #[ya yb w,ya yb h,ya yb m,.slice p n cap]] [] [eF u1 v1 x1,eF u2 v2 x2,slF (rI .i64) p cap l] (Y:=Unit) (fun y=>True) (fun y=> .bool true) (fun y=>[]) (fun y=>[]):=by
 refine zm Tryz.func4 rfl rfl rfl (fun c=> ?_)
 show RunC _ _ _ _ _ [(0,.agg #[ya yb cx,ya yb cy,u1.b,u1.l,v1.b,v1.l,u2.b,u2.l,v2.b,v2.l]),(1,.agg #[ya yb w,ya yb h,ya yb m,.slice p n cap])] [] [eF u1 v1 x1,eF u2 v2 x2,slF (rI .i64) p cap l]
 refine zaa 2 rfl (fun hL2=> ?_)
 refine ze<|za<|zK rfl rfl (zR rfl rfl) (fun b1=> ?_)
 refine zK rfl rfl (zR rfl rfl) (fun b2=> ?_)
 refine e_p (zb rfl)<|zh<|zc<|ze<|ze<|za<|zL rfl rfl (.n) ce10 (zVf) (.n)<|e_p (zEb rfl)<|zh<|zc<|zza rfl rfl<|zw<|zc<|ze<|zBa (X:=Unit) (fun x=>True) (fun x=>[(22,.bool (decide ((¬(((u1.n+v1.n:Nat):Int)+((u2.n+v2.n:Nat):Int)≤10))∨(¬(((n:Nat):Int)≤100∧(¬Bl.rok w h m l∨w≤8∧h≤8)))))),(4,.bool false),(3,yc (some ⟨b2,0,none⟩)),(2,yc (some ⟨b1,0,none⟩))]) (fun x=>[boxA b2 44 [ya yb w,ya yb h,ya yb m,.slice p n cap],boxA b1 30 [ya yb cx,ya yb cy,u1.b,u1.l,v1.b,v1.l,u2.b,u2.l,v2.b,v2.l]]) (fun x=>[eF u1 v1 x1,eF u2 v2 x2,slF (rI .i64) p cap l]) ?_ ?_
 ·
  refine za<|e_ru (zd 1 ty30 rfl rfl (.t8 (.t2 .nil)))<|zL rfl rfl (.c rfl .n) ce11 (zhf (cx:=cx) (cy:=cy) (u1:=u1) (v1:=v1) (x1:=x1) (u2:=u2) (v2:=v2) (x2:=x2)) (.c (j:=0) rfl (.c (j:=1) rfl .n))<|e_p (zbb rfl)<|zP rfl rfl (zU rfl) (fun h3=> ?_) (fun h3=> ?_)
  ·
   refine e_no<|e_no<|e_no<|e_p (zk rfl rfl)<|zh ?_
   exact zca () (show True from by first|trivial|omega|simp_all) ((.e rfl (congrArg Value.bool cbu) (.of rfl)):SubM _ _) (ho:=((.of [0,0] rfl):PickO _ _ _)) ((.of [0,1,2] rfl):SelR _ _ _)
  ·
   refine e_ru (zd 0 ty44 rfl rfl (.t4 .nil))<|zL rfl rfl (.c rfl .n) ce20 (zif (w:=w) (h:=h) (m:=m) (p:=p) (n:=n) (cap:=cap) (l:=l) (hn:=ass)) (.c (j:=2) rfl .n)<|e_p (zbb rfl)<|e_p (zk rfl rfl)<|zh ?_
   exact zca () (show True from by first|trivial|omega|simp_all) ((.e rfl (congrArg Value.bool cbu) (.of rfl)):SubM _ _) (ho:=((.of [0,0] rfl):PickO _ _ _)) ((.of [0,1,2] rfl):SelR _ _ _)
 ·
  rintro ⟨⟩ -
  try dsimp only
  refine zA rfl (fun h22=> ?_) (fun h22=> ?_)
  ·
   refine ze<|za<|e_p (zb rfl)<|zh<|zc<|zD<|zn ?_
   exact zy yf () trivial (zo rfl) rfl (ho:=(.n:PickO _ _ _)) (.n:SelR _ _ _)
  ·
   have hsh:((u1.n+v1.n:Nat):Int)+((u2.n+v2.n:Nat):Int)≤10:=by omega
   refine zIc (p:=Big.hq (x1.getD 0)≤100) (fun g hh=>eF_nn (Holds.get 0 rfl hh) om om dd) (fun hq1=> ?_)
   refine zIc (p:=Big.hq (x2.getD 0)≤100) (fun g hh=>eF_nn (Holds.get 1 rfl hh) om om dd) (fun hq2=> ?_)
   refine zw<|zc<|ze<|za<|e_ru (zd 1 ty30 rfl rfl (.t8 (.t2 .nil)))<|e_ru (zd 0 ty44 rfl rfl (.t4 .nil))<|zx rfl rfl (.c rfl (.c rfl .n)) ce21 (zXc (cx:=cx) (cy:=cy) (u1:=u1) (v1:=v1) (x1:=x1) (u2:=u2) (v2:=v2) (x2:=x2) (w:=w) (h:=h) (m:=m) (p:=p) (n:=n) (cap:=cap) (l:=l) (hq1:=by first|omega|rfl|assumption|decide) (hq2:=by first|omega|rfl|assumption|decide) (hn:=ass)) (.c (j:=0) rfl (.c (j:=1) rfl (.c (j:=2) rfl .n))) ?_
   rintro ⟨p34,c35,oc⟩ hco
   dsimp only [aq,nq,cq]
   replace hco:((if Bl.rok w h m l then Rd.ckC x1 x2 cx cy w h else 1)=0→oc=Rd.out l (Rd.cor (x1.getD 0) (x2.getD 0) cx cy ((w:Int).toNat) m l))∧((if Bl.rok w h m l then Rd.ckC x1 x2 cx cy w h else 1)≠0→oc=[]):=hco
   refine e_mv rfl<|e_p (zq rfl rfl)<|e_p (zq rfl rfl)<|zK rfl rfl (zt zr44 rfl) (fun b6=> ?_)
   refine zl 0 rfl rfl rfl rfl rfl sz44 rfl (.t4 .nil) .z<|e_p (zb rfl)<|zh<|zc<|ze<|za<|e_ru (zd 1 ty44 rfl rfl (.t4 .nil))<|zL rfl rfl (.c rfl .n) ce22 (zac (w:=w) (h:=h) (m:=m) (p:=p) (n:=n) (cap:=cap) (l:=l) (hn:=ass)) (.c (j:=3) rfl .n)<|e_p (zb rfl)<|zh<|zc<|ze<|ze<|za<|e_mv rfl<|e_p (zra rfl rfl)<|zh<|zc<|zA rfl (fun h32=> ?_) (fun h32=> ?_)
   ·
    have hrok:Bl.rok w h m l:=Bl.c0.1 h32
    have e7:(if Bl.rok w h m l then Rd.ckC x1 x2 cx cy w h else 1:Int)=Rd.ckC x1 x2 cx cy w h:=by exact if_pos hrok
    rw [e7]
    rw [if_pos hrok] at hco
    refine za<|e_ru (zd 2 ty30 rfl rfl (.t8 (.t2 .nil)))<|e_p (zg yd rfl sz3 rfl rfl)<|e_ru (zf 1 ty3 rfl rfl rfl)<|e_p (zg yd rfl sz3 rfl rfl)<|e_ru (zf 1 ty3 rfl rfl rfl)<|zL rfl rfl (.c rfl (.c rfl (.c rfl .n))) ce16 (zse (cx:=cx) (cy:=cy) (u1:=u1) (v1:=v1) (x1:=x1) (u2:=u2) (v2:=v2) (x2:=x2) (w:=w) (h:=h) (hq1:=by first|omega|rfl|assumption|decide) (hq2:=by first|omega|rfl|assumption|decide)) (.c (j:=1) rfl (.c (j:=2) rfl .n))<|e_p (zb rfl)<|zh<|zc<|ze<|ze<|za<|e_mv rfl<|e_p (zva rfl rfl)<|zh<|zc<|zA rfl (fun h40=> ?_) (fun h40=> ?_)
    ·
     have hoc:oc=[]:=hco.2 h40
     refine zBa (X:=Unit) (fun x=>True) (fun x=>[(4,.bool true),(6,ya yb (Rd.ckC x1 x2 cx cy w h)),(5,yc (some ⟨b6,0,none⟩)),(3,yc (some ⟨b2,0,none⟩)),(2,yc (some ⟨b1,0,none⟩))]) (fun x=>[boxA b6 44 [ya yb (if (Rd.ckC x1 x2 cx cy w h)=0 then w else 0),ya yb (if (Rd.ckC x1 x2 cx cy w h)=0 then h else 0),ya yb (if (Rd.ckC x1 x2 cx cy w h)=0 then m else 0),.slice p34 (oc.length) c35],boxA b2 44 [ya yb w,ya yb h,ya yb m,.slice p n cap],boxA b1 30 [ya yb cx,ya yb cy,u1.b,u1.l,v1.b,v1.l,u2.b,u2.l,v2.b,v2.l]]) (fun x=>[slF (rI .i64) p34 c35 oc,eF u1 v1 x1,eF u2 v2 x2,slF (rI .i64) p cap l]) ?_ ?_
     ·
      refine za<|e_mv rfl<|e_mv rfl<|e_p (zra rfl rfl) ?_
      rw [show (decide ((Rd.ckC x1 x2 cx cy w h)=(Rd.ckC x1 x2 cx cy w h)))=true from by exact decide_eq_true rfl]
      refine e_mv rfl<|e_ru (zd 0 ty44 rfl rfl (.t4 .nil))<|zL rfl rfl (.c rfl .n) ce23 (zZd (w:=(if (Rd.ckC x1 x2 cx cy w h)=0 then w else 0)) (h:=(if (Rd.ckC x1 x2 cx cy w h)=0 then h else 0)) (m:=(if (Rd.ckC x1 x2 cx cy w h)=0 then m else 0)) (p:=p34) (n:=oc.length) (cap:=c35)) (.n) ?_
      rw [show (decide ((if (Rd.ckC x1 x2 cx cy w h)=0 then w else 0)=0∧(if (Rd.ckC x1 x2 cx cy w h)=0 then h else 0)=0∧(if (Rd.ckC x1 x2 cx cy w h)=0 then m else 0)=0∧oc.length=0))=true from by exact decide_eq_true ⟨by first|rfl|exact if_neg h40,by first|rfl|exact if_neg h40,by first|rfl|exact if_neg h40,by rw [hoc];rfl⟩]
      refine e_p (zk rfl rfl)<|e_p (zb rfl)<|zh ?_
      exact zca () (show True from by first|trivial|omega|simp_all) ((.of rfl):SubM _ _) (ho:=((.of [0,0,0] rfl):PickO _ _ _)) ((.of [0,1,2,3] rfl):SelR _ _ _)
     ·
      rintro ⟨⟩ -
      try dsimp only
      refine zD<|zn ?_
      exact zy yf () trivial (zo rfl) rfl (ho:=(.n:PickO _ _ _)) (.n:SelR _ _ _)
    ·
     have hk0:Rd.ckC x1 x2 cx cy w h=0:=Decidable.not_not.1 h40
     obtain ⟨hcc,hcr,hca⟩:=Rd.ckC_ok hk0
     have hro:=hrok
     unfold Bl.rok at hro
     have hce:=hcr.1
     unfold Rd.cent at hce
     have hb9:=Bl.mul_b (x:=w) (y:=h) (m:=64) (n:=64) om om
     have e8:oc=(Rd.out l (Rd.cor (x1.getD 0) (x2.getD 0) cx cy ((w:Int).toNat) m l)):=by exact hco.1 hk0
     subst e8
     have e9:(if (Rd.ckC x1 x2 cx cy w h)=0 then w else 0:Int)=w:=by exact if_pos hk0
     rw [e9]
     have e10:(if (Rd.ckC x1 x2 cx cy w h)=0 then h else 0:Int)=h:=by exact if_pos hk0
     rw [e10]
     have e11:(if (Rd.ckC x1 x2 cx cy w h)=0 then m else 0:Int)=m:=by exact if_pos hk0
     rw [e11]
     have e12:(Rd.ckC x1 x2 cx cy w h:Int)=0:=by exact hk0
     rw [e12]
     refine zTb (qF x1.isSome u1 v1 (x1.getD 0)) (eF_weak 1 rfl)<|zTb (qF x2.isSome u2 v2 (x2.getD 0)) (eF_weak 3 rfl) ?_
     have e13:x1.isSome=true:=by exact hcc.1
     rw [e13]
     have e14:x2.isSome=true:=by exact hcc.2
     rw [e14]
     obtain ⟨wn,e15⟩:∃q:Nat,w=(q:Int):=⟨w.toNat,by omega⟩
     subst e15
     have e16:((((wn:Nat):Int):Int).toNat:Nat)=wn:=by rfl
     rw [e16]
     have hnat:l.length=wn*h.toNat:=Rd.nat_of hro.2.2.2.1 om
     refine zw<|zc<|ze<|zBa (X:=Unit) (fun x=>True) (fun x=>[(75,.bool false),(5,yc (some ⟨b6,0,none⟩)),(4,.bool false),(3,yc (some ⟨b2,0,none⟩)),(2,yc (some ⟨b1,0,none⟩))]) (fun x=>[boxA b6 44 [ya yb ((wn:Nat):Int),ya yb h,ya yb m,.slice p34 ((Rd.out l (Rd.cor (x1.getD 0) (x2.getD 0) cx cy wn m l)).length) c35],boxA b2 44 [ya yb ((wn:Nat):Int),ya yb h,ya yb m,.slice p n cap],boxA b1 30 [ya yb cx,ya yb cy,u1.b,u1.l,v1.b,v1.l,u2.b,u2.l,v2.b,v2.l]]) (fun x=>[qF true u2 v2 (x2.getD 0),qF true u1 v1 (x1.getD 0),slF (rI .i64) p34 c35 (Rd.out l (Rd.cor (x1.getD 0) (x2.getD 0) cx cy wn m l)),eF u1 v1 x1,eF u2 v2 x2,slF (rI .i64) p cap l]) ?_ ?_
     ·
      refine za<|e_mv rfl<|e_p (zva rfl rfl)<|e_mv rfl<|e_ru (zd 0 ty44 rfl rfl (.t4 .nil))<|zL rfl rfl (.c rfl .n) ce22 (zac (w:=((wn:Nat):Int)) (h:=h) (m:=m) (p:=p34) (n:=(Rd.out l (Rd.cor (x1.getD 0) (x2.getD 0) cx cy wn m l)).length) (cap:=c35) (l:=(Rd.out l (Rd.cor (x1.getD 0) (x2.getD 0) cx cy wn m l))) (hn:=by first|omega|rfl|assumption|decide)) (.c (j:=2) rfl .n) ?_
      have e17:(if Bl.rok ((wn:Nat):Int) h m (Rd.out l (Rd.cor (x1.getD 0) (x2.getD 0) cx cy wn m l)) then 0 else 1:Int)=0:=by exact if_pos (Rd.rok_out hrok (fun i hi=>Rd.gr_range _ om))
      rw [e17]
      refine e_p (zva rfl rfl)<|e_p (zk rfl rfl)<|e_mv rfl<|e_p (zg yd rfl sz3 rfl rfl)<|e_ru (zf 0 ty3 rfl rfl rfl)<|e_p (zg yd rfl sz3 rfl rfl)<|e_ru (zf 1 ty3 rfl rfl rfl)<|e_p (zva rfl rfl) ?_
      rw [show (decide (((wn:Nat):Int)≠((wn:Nat):Int)))=false from by exact decide_eq_false (fun k=>k rfl)]
      refine e_p (zk rfl rfl)<|e_mv rfl<|e_p (zg yd rfl sz3 rfl rfl)<|e_ru (zf 0 ty3 rfl rfl rfl)<|e_p (zg yd rfl sz3 rfl rfl)<|e_ru (zf 1 ty3 rfl rfl rfl)<|e_p (zva rfl rfl) ?_
      rw [show (decide (h≠h))=false from by exact decide_eq_false (fun k=>k rfl)]
      refine e_p (zk rfl rfl)<|e_mv rfl<|e_p (zg yd rfl sz3 rfl rfl)<|e_ru (zf 0 ty3 rfl rfl rfl)<|e_p (zg yd rfl sz3 rfl rfl)<|e_ru (zf 1 ty3 rfl rfl rfl)<|e_p (zva rfl rfl) ?_
      rw [show (decide (m≠m))=false from by exact decide_eq_false (fun k=>k rfl)]
      refine e_p (zk rfl rfl)<|zh ?_
      exact zca () (show True from by first|trivial|omega|simp_all) ((.of rfl):SubM _ _) (ho:=((.of [0,0,0] rfl):PickO _ _ _)) ((.of [0,1,2,3,4,5] rfl):SelR _ _ _)
     ·
      rintro ⟨⟩ -
      try dsimp only
      refine zza rfl rfl<|zw<|zc<|ze<|ze<|za<|e_p (zg yd rfl sz42 rfl rfl)<|e_ru (zf 1 ty42 rfl rfl rfl)<|e_p (zG ye rfl)<|e_mv rfl<|zh<|zc<|zv<|zha (X:=Nat) (fun x:Nat=>x≤n) (fun x=>[(79,ya yb ((x:Nat):Int)),(78,ya yb ((n:Nat):Int)),(77,.slice p n cap),(5,yc (some ⟨b6,0,none⟩)),(3,yc (some ⟨b2,0,none⟩)),(2,yc (some ⟨b1,0,none⟩))]) (fun x=>[boxA b6 44 [ya yb ((wn:Nat):Int),ya yb h,ya yb m,.slice p34 ((Rd.out l (Rd.cor (x1.getD 0) (x2.getD 0) cx cy wn m l)).length) c35],boxA b2 44 [ya yb ((wn:Nat):Int),ya yb h,ya yb m,.slice p n cap],boxA b1 30 [ya yb cx,ya yb cy,u1.b,u1.l,v1.b,v1.l,u2.b,u2.l,v2.b,v2.l]]) (fun x=>[qF true u2 v2 (x2.getD 0),qF true u1 v1 (x1.getD 0),slF (rI .i64) p34 c35 (Rd.out l (Rd.cor (x1.getD 0) (x2.getD 0) cx cy wn m l)),eF u1 v1 x1,eF u2 v2 x2,slF (rI .i64) p cap l]) (fun x:Nat=>n - x) 0 (show 0≤n from by exact Nat.zero_le _) ((.e rfl (by first|rfl|(congr 1;omega)|simp_all) (.of rfl)):SubM _ _) (ho:=((.of [0,0,0] rfl):PickO _ _ _)) ((.of [0,1,2,3,4,5] rfl):SelR _ _ _) ?_
      rintro i hI
      replace hI:i≤n:=hI
      try dsimp only
      refine ze<|za<|e_p (zS rfl rfl)<|zh<|zc<|ze<|zA rfl (fun h18=> ?_) (fun h18=> ?_)
      ·
       have hix:=Rd.xy_of (w:=wn) (h:=h.toNat) (i:=i) om (by rw [← hnat];omega)
       have hz1:(0:Int)≤((i%wn:Nat):Int):=Int.natCast_nonneg _
       have hz2:(0:Int)≤((i / wn:Nat):Int):=Int.natCast_nonneg _
       have hgi:=hca (i / wn) om (i%wn) om
       have hgq:=Rd.gn_hq (x:=((i%wn:Nat):Int)) (y:=((i / wn:Nat):Int)) hcr.1 om om hq1 hq2
       have hpx:¬(l.getD i 0<0∨m<l.getD i 0):=fun k=>hro.2.2.2.2 ⟨_,Big.getD_mem om,k⟩
       have hpq:=Big.hq_64 (z:=l.getD i 0) om om
       have hmq:=Big.hq_mul ((l.getD i 0:Int):Rat) (Rd.gn (x1.getD 0) (x2.getD 0) cx cy ((i%wn:Nat):Int) ((i / wn:Nat):Int))
       have hgr:=Rd.gr_range (((l.getD i 0:Int):Rat)*Rd.gn (x1.getD 0) (x2.getD 0) cx cy ((i%wn:Nat):Int) ((i / wn:Nat):Int)) (show 0≤m by omega)
       have hd1:=Rd.dq (n:=(Rd.gr (((l.getD i 0:Int):Rat)*Rd.gn (x1.getD 0) (x2.getD 0) cx cy ((i%wn:Nat):Int) ((i / wn:Nat):Int)) m)) (d:=1) om om om
       have hs1:=Big.hq_sub (Rat.divInt (Rd.gr (((l.getD i 0:Int):Rat)*Rd.gn (x1.getD 0) (x2.getD 0) cx cy ((i%wn:Nat):Int) ((i / wn:Nat):Int)) m) 1) (((l.getD i 0:Int):Rat)*Rd.gn (x1.getD 0) (x2.getD 0) cx cy ((i%wn:Nat):Int) ((i / wn:Nat):Int))
       have hs2:=Big.hq_qabs (Rat.divInt (Rd.gr (((l.getD i 0:Int):Rat)*Rd.gn (x1.getD 0) (x2.getD 0) cx cy ((i%wn:Nat):Int) ((i / wn:Nat):Int)) m) 1 - (((l.getD i 0:Int):Rat)*Rd.gn (x1.getD 0) (x2.getD 0) cx cy ((i%wn:Nat):Int) ((i / wn:Nat):Int)))
       have hs3:Big.hq (Rat.divInt 1 2)=1:=by decide +kernel
       have hd9:=Rd.dq (n:=l.getD i 0) (d:=1) om om om
       have hol:=Rd.out_len l (Rd.cor (x1.getD 0) (x2.getD 0) cx cy wn m l)
       refine zw<|zc<|ze<|zv<|ze<|za<|e_mv rfl<|zY (x0:=(l.getD i 0)) 5 i rfl ye sz3 rfl rfl rfl cbo rfl rfl (gD (d:=0) om) (fun b19 o20 hok21=> ?_)
       replace hok21:=zV.1 hok21
       refine e_ru (zj (j:=0) 0 ty3 rfl rfl rfl rfl)<|e_p (zb rfl)<|e_p (zb rfl)<|zh<|zc<|ze<|zZ (OW:=[]) (O:=[boxA b6 44 [ya yb ((wn:Nat):Int),ya yb h,ya yb m,.slice p34 ((Rd.out l (Rd.cor (x1.getD 0) (x2.getD 0) cx cy wn m l)).length) c35],boxA b2 44 [ya yb ((wn:Nat):Int),ya yb h,ya yb m,.slice p n cap],boxA b1 30 [ya yb cx,ya yb cy,u1.b,u1.l,v1.b,v1.l,u2.b,u2.l,v2.b,v2.l]]) 14 mixed (.then (.block (.then (.then (.block (.then .ret)))))) kr<|e_dm 0 rfl rfl rfl<|e_u 2 rfl rfl (zd 2 ty30 rfl rfl (.t8 (.t2 .nil)))<|e_dm 3 rfl rfl rfl<|e_pv 4 rfl rfl (zg yd rfl sz3 rfl rfl)<|e_u 5 rfl rfl (zf 1 ty3 rfl rfl rfl)<|e_pv 6 rfl rfl (zab (z:=(((i%wn):Nat):Int)) rfl rfl om (remN om om))<|e_dm 7 rfl rfl rfl<|e_pv 8 rfl rfl (zg yd rfl sz3 rfl rfl)<|e_u 9 rfl rfl (zf 1 ty3 rfl rfl rfl)<|e_pv 10 rfl rfl (zTa (z:=(((i / wn):Nat):Int)) rfl rfl om (by rw [quoN (z:=(((i / wn):Nat):Int)) om om];exact w64 om))<|zhd (m':=[(94,ya yb (((i / wn):Nat):Int)),(90,ya yb (((i%wn):Nat):Int)),(86,.agg #[ya yb cx,ya yb cy,u1.b,u1.l,v1.b,v1.l,u2.b,u2.l,v2.b,v2.l]),(84,ya yb (l.getD i 0)),(8,ya yb ((i:Nat):Int)),(79,ya yb ((i:Nat):Int)),(78,ya yb ((n:Nat):Int)),(77,.slice p n cap),(5,yc (some ⟨b6,0,none⟩)),(3,yc (some ⟨b2,0,none⟩)),(2,yc (some ⟨b1,0,none⟩))]) (R':=[qF true u2 v2 (x2.getD 0),qF true u1 v1 (x1.getD 0),slF (rI .i64) p34 c35 (Rd.out l (Rd.cor (x1.getD 0) (x2.getD 0) cx cy wn m l)),eF u1 v1 x1,eF u2 v2 x2,slF (rI .i64) p cap l]) ((.of rfl):SubM _ _) (List.Perm.refl _) (List.Perm.refl _) ((.of [1,2,3,4,5,6] rfl):SelR _ _ _)<|zqa (X:=Wd×Wd×Wd×Wd×Wd×Wd×Nat) (k':=0) (L':=(lb 15 32767)) (fun (u1_1,u1_2,u11_1,u11_2,u12_1,u12_2,u13_1)=>([(10,yc (some ⟨u13_1,0,none⟩)),(8,ya yb ((i:Nat):Int)),(79,ya yb ((i:Nat):Int)),(78,ya yb ((n:Nat):Int)),(77,.slice p n cap),(5,yc (some ⟨b6,0,none⟩)),(3,yc (some ⟨b2,0,none⟩)),(2,yc (some ⟨b1,0,none⟩))],[boxA u13_1 28 (cw [u12_1,u12_2])],[boxA b6 44 [ya yb ((wn:Nat):Int),ya yb h,ya yb m,.slice p34 ((Rd.out l (Rd.cor (x1.getD 0) (x2.getD 0) cx cy wn m l)).length) c35],boxA b2 44 [ya yb ((wn:Nat):Int),ya yb h,ya yb m,.slice p n cap],boxA b1 30 [ya yb cx,ya yb cy,u1.b,u1.l,v1.b,v1.l,u2.b,u2.l,v2.b,v2.l]],[qF true u12_1 u12_2 ((Rat.divInt (l.getD i 0) 1)*(Rd.gn (x1.getD 0) (x2.getD 0) cx cy (((i%wn):Nat):Int) (((i / wn):Nat):Int))),qF true u11_1 u11_2 (Rd.gn (x1.getD 0) (x2.getD 0) cx cy (((i%wn):Nat):Int) (((i / wn):Nat):Int)),qF true u1_1 u1_2 (Rat.divInt (l.getD i 0) 1),qF true u2 v2 (x2.getD 0),qF true u1 v1 (x1.getD 0),slF (rI .i64) p34 c35 (Rd.out l (Rd.cor (x1.getD 0) (x2.getD 0) cx cy wn m l)),eF u1 v1 x1,eF u2 v2 x2,slF (rI .i64) p cap l])) ?_ (fun hD0=> ?_)
       ·
        rintro ⟨u1_1,u1_2,u11_1,u11_2,u12_1,u12_2,u13_1⟩
        dsimp only [cw]
        refine zX kr<|zc<|ze ?_
        have e22:(Rat.divInt (l.getD i 0) 1:Rat)=((l.getD i 0:Int):Rat):=by exact (Rd.int_div _).symm
        rw [e22]
        refine za<|e_p (zg yd rfl sz42 rfl rfl)<|e_ru (zf 1 ty42 rfl rfl rfl)<|e_mv rfl<|zY (x0:=((Rd.out l (Rd.cor (x1.getD 0) (x2.getD 0) cx cy wn m l)).getD i 0)) 5 i rfl ye sz3 rfl rfl rfl cbo rfl rfl (gD (d:=0) om) (fun b23 o24 hok25=> ?_)
        replace hok25:=zV.1 hok25
        refine e_ru (zj (j:=0) 0 ty3 rfl rfl rfl rfl) ?_
        have e26:((Rd.out l (Rd.cor (x1.getD 0) (x2.getD 0) cx cy wn m l)).getD i 0:Int)=Rd.gr (((l.getD i 0:Int):Rat)*Rd.gn (x1.getD 0) (x2.getD 0) cx cy ((i%wn:Nat):Int) ((i / wn:Nat):Int)) m:=by exact Rd.out_get om
        rw [e26]
        refine e_p (zb rfl)<|zh<|zc<|ze<|ze<|za<|e_mv rfl<|e_ru (zd 0 ty28 rfl rfl (.t4 .nil))<|e_p (zg yd rfl sz3 rfl rfl)<|e_ru (zf 2 ty3 rfl rfl rfl)<|zL rfl rfl (.c rfl (.c rfl .n)) ce26 (zte (u1:=u12_1) (v1:=u12_2) (q1:=((l.getD i 0:Int):Rat)*(Rd.gn (x1.getD 0) (x2.getD 0) cx cy (((i%wn):Nat):Int) (((i / wn):Nat):Int))) (mm:=m) (hl:=by first|omega|rfl|assumption|decide) (hm:=by first|omega|rfl|assumption|decide)) (.c (j:=1) rfl .n)<|e_p (zva rfl rfl)<|zh<|zc<|zA rfl (fun h107=> ?_) (fun h107=> ?_)
        ·
         exact absurd rfl h107
        ·
         refine zw<|zc<|ze<|zZ (OW:=[]) (O:=[boxA u13_1 28 (cw [u12_1,u12_2]),boxA b6 44 [ya yb ((wn:Nat):Int),ya yb h,ya yb m,.slice p34 ((Rd.out l (Rd.cor (x1.getD 0) (x2.getD 0) cx cy wn m l)).length) c35],boxA b2 44 [ya yb ((wn:Nat):Int),ya yb h,ya yb m,.slice p n cap],boxA b1 30 [ya yb cx,ya yb cy,u1.b,u1.l,v1.b,v1.l,u2.b,u2.l,v2.b,v2.l]]) 6 mixed (.then (.block (.then (.then (.block (.then .ret)))))) kr<|e_dm 0 rfl rfl rfl<|e_u 2 rfl rfl (zd 0 ty28 rfl rfl (.t4 .nil))<|zhd (m':=[(110,.agg (cw [u12_1,u12_2]).toArray),(108,ya yb (Rd.gr (((l.getD i 0:Int):Rat)*Rd.gn (x1.getD 0) (x2.getD 0) cx cy ((i%wn:Nat):Int) ((i / wn:Nat):Int)) m)),(11,ya yb (Rd.gr (((l.getD i 0:Int):Rat)*Rd.gn (x1.getD 0) (x2.getD 0) cx cy ((i%wn:Nat):Int) ((i / wn:Nat):Int)) m)),(79,ya yb ((i:Nat):Int)),(78,ya yb ((n:Nat):Int)),(77,.slice p n cap),(5,yc (some ⟨b6,0,none⟩)),(3,yc (some ⟨b2,0,none⟩)),(2,yc (some ⟨b1,0,none⟩))]) (R':=[qF true u12_1 u12_2 (((l.getD i 0:Int):Rat)*(Rd.gn (x1.getD 0) (x2.getD 0) cx cy (((i%wn):Nat):Int) (((i / wn):Nat):Int))),qF true u11_1 u11_2 (Rd.gn (x1.getD 0) (x2.getD 0) cx cy (((i%wn):Nat):Int) (((i / wn):Nat):Int)),qF true u1_1 u1_2 ((l.getD i 0:Int):Rat),qF true u2 v2 (x2.getD 0),qF true u1 v1 (x1.getD 0),slF (rI .i64) p34 c35 (Rd.out l (Rd.cor (x1.getD 0) (x2.getD 0) cx cy wn m l)),eF u1 v1 x1,eF u2 v2 x2,slF (rI .i64) p cap l]) ((.of rfl):SubM _ _) (List.Perm.refl _) (List.Perm.refl _) ((.of [1,2,3,4,5,6,7,8,9] rfl):SelR _ _ _)<|zqa (X:=Wd×Wd×Wd×Wd×Wd×Wd×Nat) (k':=0) (L':=(lb 7 127)) (fun (u1_1r2,u1_2r2,u3_1r2,u3_2r2,u4_1r2,u4_2r2,u5_1r2)=>([(12,yc (some ⟨u5_1r2,0,none⟩)),(11,ya yb (Rd.gr (((l.getD i 0:Int):Rat)*Rd.gn (x1.getD 0) (x2.getD 0) cx cy ((i%wn:Nat):Int) ((i / wn:Nat):Int)) m)),(79,ya yb ((i:Nat):Int)),(78,ya yb ((n:Nat):Int)),(77,.slice p n cap),(5,yc (some ⟨b6,0,none⟩)),(3,yc (some ⟨b2,0,none⟩)),(2,yc (some ⟨b1,0,none⟩))],[boxA u5_1r2 28 (cw [u4_1r2,u4_2r2])],[boxA u13_1 28 (cw [u12_1,u12_2]),boxA b6 44 [ya yb ((wn:Nat):Int),ya yb h,ya yb m,.slice p34 ((Rd.out l (Rd.cor (x1.getD 0) (x2.getD 0) cx cy wn m l)).length) c35],boxA b2 44 [ya yb ((wn:Nat):Int),ya yb h,ya yb m,.slice p n cap],boxA b1 30 [ya yb cx,ya yb cy,u1.b,u1.l,v1.b,v1.l,u2.b,u2.l,v2.b,v2.l]],[qF true u4_1r2 u4_2r2 (Big.qabs ((Rat.divInt (Rd.gr (((l.getD i 0:Int):Rat)*Rd.gn (x1.getD 0) (x2.getD 0) cx cy ((i%wn:Nat):Int) ((i / wn:Nat):Int)) m) 1) - (((l.getD i 0:Int):Rat)*(Rd.gn (x1.getD 0) (x2.getD 0) cx cy (((i%wn):Nat):Int) (((i / wn):Nat):Int))))),qF true u3_1r2 u3_2r2 ((Rat.divInt (Rd.gr (((l.getD i 0:Int):Rat)*Rd.gn (x1.getD 0) (x2.getD 0) cx cy ((i%wn:Nat):Int) ((i / wn:Nat):Int)) m) 1) - (((l.getD i 0:Int):Rat)*(Rd.gn (x1.getD 0) (x2.getD 0) cx cy (((i%wn):Nat):Int) (((i / wn):Nat):Int)))),qF true u1_1r2 u1_2r2 (Rat.divInt (Rd.gr (((l.getD i 0:Int):Rat)*Rd.gn (x1.getD 0) (x2.getD 0) cx cy ((i%wn:Nat):Int) ((i / wn:Nat):Int)) m) 1),qF true u12_1 u12_2 (((l.getD i 0:Int):Rat)*(Rd.gn (x1.getD 0) (x2.getD 0) cx cy (((i%wn):Nat):Int) (((i / wn):Nat):Int))),qF true u11_1 u11_2 (Rd.gn (x1.getD 0) (x2.getD 0) cx cy (((i%wn):Nat):Int) (((i / wn):Nat):Int)),qF true u1_1 u1_2 ((l.getD i 0:Int):Rat),qF true u2 v2 (x2.getD 0),qF true u1 v1 (x1.getD 0),slF (rI .i64) p34 c35 (Rd.out l (Rd.cor (x1.getD 0) (x2.getD 0) cx cy wn m l)),eF u1 v1 x1,eF u2 v2 x2,slF (rI .i64) p cap l])) ?_ (fun hD0=> ?_)
         ·
          rintro ⟨u1_1r2,u1_2r2,u3_1r2,u3_2r2,u4_1r2,u4_2r2,u5_1r2⟩
          dsimp only [cw]
          refine zX kr<|zc<|zBa (X:=Unit) (fun x=>True) (fun x=>[(126,.bool (decide (((0<(Rd.gr (((l.getD i 0:Int):Rat)*Rd.gn (x1.getD 0) (x2.getD 0) cx cy ((i%wn:Nat):Int) ((i / wn:Nat):Int)) m))∧((Rd.gr (((l.getD i 0:Int):Rat)*Rd.gn (x1.getD 0) (x2.getD 0) cx cy ((i%wn:Nat):Int) ((i / wn:Nat):Int)) m)<m))∧(0<Big.sgq ((Big.qabs ((Rat.divInt (Rd.gr (((l.getD i 0:Int):Rat)*Rd.gn (x1.getD 0) (x2.getD 0) cx cy ((i%wn:Nat):Int) ((i / wn:Nat):Int)) m) 1) - (((l.getD i 0:Int):Rat)*(Rd.gn (x1.getD 0) (x2.getD 0) cx cy (((i%wn):Nat):Int) (((i / wn):Nat):Int))))) - (Rat.divInt 1 2)))))),(79,ya yb ((i:Nat):Int)),(78,ya yb ((n:Nat):Int)),(77,.slice p n cap),(5,yc (some ⟨b6,0,none⟩)),(3,yc (some ⟨b2,0,none⟩)),(2,yc (some ⟨b1,0,none⟩))]) (fun x=>[boxA u5_1r2 28 (cw [u4_1r2,u4_2r2]),boxA u13_1 28 (cw [u12_1,u12_2]),boxA b6 44 [ya yb ((wn:Nat):Int),ya yb h,ya yb m,.slice p34 ((Rd.out l (Rd.cor (x1.getD 0) (x2.getD 0) cx cy wn m l)).length) c35],boxA b2 44 [ya yb ((wn:Nat):Int),ya yb h,ya yb m,.slice p n cap],boxA b1 30 [ya yb cx,ya yb cy,u1.b,u1.l,v1.b,v1.l,u2.b,u2.l,v2.b,v2.l]]) (fun x=>[qF true u4_1r2 u4_2r2 (Big.qabs ((Rat.divInt (Rd.gr (((l.getD i 0:Int):Rat)*Rd.gn (x1.getD 0) (x2.getD 0) cx cy ((i%wn:Nat):Int) ((i / wn:Nat):Int)) m) 1) - (((l.getD i 0:Int):Rat)*(Rd.gn (x1.getD 0) (x2.getD 0) cx cy (((i%wn):Nat):Int) (((i / wn):Nat):Int))))),qF true u3_1r2 u3_2r2 ((Rat.divInt (Rd.gr (((l.getD i 0:Int):Rat)*Rd.gn (x1.getD 0) (x2.getD 0) cx cy ((i%wn:Nat):Int) ((i / wn:Nat):Int)) m) 1) - (((l.getD i 0:Int):Rat)*(Rd.gn (x1.getD 0) (x2.getD 0) cx cy (((i%wn):Nat):Int) (((i / wn):Nat):Int)))),qF true u1_1r2 u1_2r2 (Rat.divInt (Rd.gr (((l.getD i 0:Int):Rat)*Rd.gn (x1.getD 0) (x2.getD 0) cx cy ((i%wn:Nat):Int) ((i / wn:Nat):Int)) m) 1),qF true u12_1 u12_2 (((l.getD i 0:Int):Rat)*(Rd.gn (x1.getD 0) (x2.getD 0) cx cy (((i%wn):Nat):Int) (((i / wn):Nat):Int))),qF true u11_1 u11_2 (Rd.gn (x1.getD 0) (x2.getD 0) cx cy (((i%wn):Nat):Int) (((i / wn):Nat):Int)),qF true u1_1 u1_2 ((l.getD i 0:Int):Rat),qF true u2 v2 (x2.getD 0),qF true u1 v1 (x1.getD 0),slF (rI .i64) p34 c35 (Rd.out l (Rd.cor (x1.getD 0) (x2.getD 0) cx cy wn m l)),eF u1 v1 x1,eF u2 v2 x2,slF (rI .i64) p cap l]) ?_ ?_
          ·
           refine zZ (OW:=[]) (O:=[boxA u5_1r2 28 (cw [u4_1r2,u4_2r2]),boxA u13_1 28 (cw [u12_1,u12_2]),boxA b6 44 [ya yb ((wn:Nat):Int),ya yb h,ya yb m,.slice p34 ((Rd.out l (Rd.cor (x1.getD 0) (x2.getD 0) cx cy wn m l)).length) c35],boxA b2 44 [ya yb ((wn:Nat):Int),ya yb h,ya yb m,.slice p n cap],boxA b1 30 [ya yb cx,ya yb cy,u1.b,u1.l,v1.b,v1.l,u2.b,u2.l,v2.b,v2.l]]) 100000 mixed (.then (.block (.then (.then (.block (.then .ret)))))) kr<|e_dm 0 rfl rfl rfl<|e_pv 1 rfl rfl (zka rfl rfl)<|zMb 2 rfl rfl kr kr rfl rfl (zU rfl) (fun h27=> ?_) (fun h27=> ?_)
           ·
            refine e_dm 3 rfl rfl rfl<|e_pv 4 rfl rfl (zg yd rfl sz3 rfl rfl)<|e_u 5 rfl rfl (zf 3 ty3 rfl rfl rfl)<|e_pv 6 rfl rfl (zS rfl rfl)<|e_pv 7 rfl rfl (zk rfl rfl)<|zMb 8 rfl rfl kr kr rfl rfl (zU rfl) (fun h28=> ?_) (fun h28=> ?_)
            ·
             refine e_u 9 rfl rfl (zd 0 ty28 rfl rfl (.t4 .nil))<|e_one 10 (zu rfl rfl rfl rfl (.c rfl (.c rfl .n)) ce25 (zya (z1:=1) (z2:=2) (hz1:=by first|omega|rfl|assumption|decide) (hz2:=by first|omega|rfl|assumption|decide) (hy:=by first|omega|rfl|assumption|decide)) (.n) ?_)
             rintro ⟨w329,w430⟩ -
             dsimp only [aq,nq,cq]
             refine e_one 11 (zGa rfl rfl rfl rfl (.c rfl (.c rfl .n)) ce29 (zSa (k1:=true) (u1:=u4_1r2) (v1:=u4_2r2) (q1:=(Big.qabs ((Rat.divInt (Rd.gr (((l.getD i 0:Int):Rat)*Rd.gn (x1.getD 0) (x2.getD 0) cx cy ((i%wn:Nat):Int) ((i / wn:Nat):Int)) m) 1) - (((l.getD i 0:Int):Rat)*(Rd.gn (x1.getD 0) (x2.getD 0) cx cy (((i%wn):Nat):Int) (((i / wn):Nat):Int)))))) (k2:=true) (u2:=w329) (v2:=w430) (q2:=Rat.divInt 1 2) (hl:=by first|omega|rfl|assumption|decide)) (.c (j:=1) rfl (.c (j:=0) rfl .n)) ?_)
             refine e_pv 12 rfl rfl (zka rfl rfl)<|e_pv 13 rfl rfl (zk rfl rfl)<|zX kr ?_
             exact zca () (show True from by first|trivial|omega|simp_all) ((.e rfl (congrArg Value.bool cbu) (.of rfl)):SubM _ _) (ho:=((.of [0,0,0,0,0] rfl):PickO _ _ _)) ((.of [1,2,3,4,5,6,7,8,9,10,11,12] rfl):SelR _ _ _)
            ·
             refine e_skip 9 rfl rfl<|e_skip 10 rfl rfl<|e_skip 11 rfl rfl<|e_skip 12 rfl rfl<|e_pv 13 rfl rfl (zk rfl rfl)<|zX kr ?_
             exact zca () (show True from by first|trivial|omega|simp_all) ((.e rfl (congrArg Value.bool cbu) (.of rfl)):SubM _ _) (ho:=((.of [0,0,0,0,0] rfl):PickO _ _ _)) ((.of [0,1,2,3,4,5,6,7,8,9,10,11] rfl):SelR _ _ _)
           ·
            refine e_skip 3 rfl rfl<|e_skip 4 rfl rfl<|e_skip 5 rfl rfl<|e_skip 6 rfl rfl<|e_pv 7 rfl rfl (zk rfl rfl)<|e_dm 8 rfl rfl rfl<|e_skip 9 rfl rfl<|e_skip 10 rfl rfl<|e_skip 11 rfl rfl<|e_skip 12 rfl rfl<|e_pv 13 rfl rfl (zk rfl rfl)<|zX kr ?_
            exact zca () (show True from by first|trivial|omega|simp_all) ((.e rfl (congrArg Value.bool cbu) (.of rfl)):SubM _ _) (ho:=((.of [0,0,0,0,0] rfl):PickO _ _ _)) ((.of [0,1,2,3,4,5,6,7,8,9,10,11] rfl):SelR _ _ _)
          ·
           rintro ⟨⟩ -
           try dsimp only [cw]
           refine zA rfl (fun h126=> ?_) (fun h126=> ?_)
           ·
            exact absurd h126.2 (Rd.near_half h126.1.1 h126.1.2)
           ·
            refine zw<|zN<|zc<|za<|e_p (zH (z:=(((i+1):Nat):Int)) rfl rfl (w64 om))<|e_mv rfl<|zh<|zda (i+1) (show (i+1)≤n from by show i+1≤n;omega) (by show n - (i+1)<n - i;omega) ((.of rfl):SubM _ _) (ho:=((.of [2,2,2] rfl):PickO _ _ _)) ((.of [6,7,8,9,10,11] rfl):SelR _ _ _)
         refine zqa (X:=Wd×Wd×Wd×Wd×Wd×Wd×Nat) (k':=1) (L':=(lb 7 63)) (fun (u1_1r2,u1_2r2,u3_1r2,u3_2r2,u4_1r2,u4_2r2,u5_1r2)=>([(12,yc (some ⟨u5_1r2,0,none⟩)),(112,.agg (cw [u4_1r2,u4_2r2]).toArray),(11,ya yb (Rd.gr (((l.getD i 0:Int):Rat)*Rd.gn (x1.getD 0) (x2.getD 0) cx cy ((i%wn:Nat):Int) ((i / wn:Nat):Int)) m)),(79,ya yb ((i:Nat):Int)),(78,ya yb ((n:Nat):Int)),(77,.slice p n cap),(5,yc (some ⟨b6,0,none⟩)),(3,yc (some ⟨b2,0,none⟩)),(2,yc (some ⟨b1,0,none⟩))],[boxA u5_1r2 28 (cw [wz,wz])],[boxA u13_1 28 (cw [u12_1,u12_2]),boxA b6 44 [ya yb ((wn:Nat):Int),ya yb h,ya yb m,.slice p34 ((Rd.out l (Rd.cor (x1.getD 0) (x2.getD 0) cx cy wn m l)).length) c35],boxA b2 44 [ya yb ((wn:Nat):Int),ya yb h,ya yb m,.slice p n cap],boxA b1 30 [ya yb cx,ya yb cy,u1.b,u1.l,v1.b,v1.l,u2.b,u2.l,v2.b,v2.l]],[qF true u4_1r2 u4_2r2 (Big.qabs ((Rat.divInt (Rd.gr (((l.getD i 0:Int):Rat)*Rd.gn (x1.getD 0) (x2.getD 0) cx cy ((i%wn:Nat):Int) ((i / wn:Nat):Int)) m) 1) - (((l.getD i 0:Int):Rat)*(Rd.gn (x1.getD 0) (x2.getD 0) cx cy (((i%wn):Nat):Int) (((i / wn):Nat):Int))))),qF true u3_1r2 u3_2r2 ((Rat.divInt (Rd.gr (((l.getD i 0:Int):Rat)*Rd.gn (x1.getD 0) (x2.getD 0) cx cy ((i%wn:Nat):Int) ((i / wn:Nat):Int)) m) 1) - (((l.getD i 0:Int):Rat)*(Rd.gn (x1.getD 0) (x2.getD 0) cx cy (((i%wn):Nat):Int) (((i / wn):Nat):Int)))),qF true u1_1r2 u1_2r2 (Rat.divInt (Rd.gr (((l.getD i 0:Int):Rat)*Rd.gn (x1.getD 0) (x2.getD 0) cx cy ((i%wn:Nat):Int) ((i / wn:Nat):Int)) m) 1),qF true u12_1 u12_2 (((l.getD i 0:Int):Rat)*(Rd.gn (x1.getD 0) (x2.getD 0) cx cy (((i%wn):Nat):Int) (((i / wn):Nat):Int))),qF true u11_1 u11_2 (Rd.gn (x1.getD 0) (x2.getD 0) cx cy (((i%wn):Nat):Int) (((i / wn):Nat):Int)),qF true u1_1 u1_2 ((l.getD i 0:Int):Rat),qF true u2 v2 (x2.getD 0),qF true u1 v1 (x1.getD 0),slF (rI .i64) p34 c35 (Rd.out l (Rd.cor (x1.getD 0) (x2.getD 0) cx cy wn m l)),eF u1 v1 x1,eF u2 v2 x2,slF (rI .i64) p cap l])) ?_ (fun hD1=> ?_)
         ·
          rintro ⟨u1_1r2,u1_2r2,u3_1r2,u3_2r2,u4_1r2,u4_2r2,u5_1r2⟩
          dsimp only [cw]
          refine zib 6 kr ?_
          ·
           refine zC kr rfl rfl rfl rfl rfl sz28 rfl (.t4 .nil) ?_
           exact zba (hD0 (u1_1r2,u1_2r2,u3_1r2,u3_2r2,u4_1r2,u4_2r2,u5_1r2)) kr ((.of rfl):SubM _ _) .rfl .rfl ((.of [0,1,2,3,4,5,6,7,8,9,10,11] rfl):SelR _ _ _)
         refine zqa (X:=Wd×Wd×Wd×Wd×Wd×Wd) (k':=2) (L':=(lb 7 31)) (fun (u1_1r2,u1_2r2,u3_1r2,u3_2r2,u4_1r2,u4_2r2)=>([(112,.agg (cw [u4_1r2,u4_2r2]).toArray),(11,ya yb (Rd.gr (((l.getD i 0:Int):Rat)*Rd.gn (x1.getD 0) (x2.getD 0) cx cy ((i%wn:Nat):Int) ((i / wn:Nat):Int)) m)),(79,ya yb ((i:Nat):Int)),(78,ya yb ((n:Nat):Int)),(77,.slice p n cap),(5,yc (some ⟨b6,0,none⟩)),(3,yc (some ⟨b2,0,none⟩)),(2,yc (some ⟨b1,0,none⟩))],[],[boxA u13_1 28 (cw [u12_1,u12_2]),boxA b6 44 [ya yb ((wn:Nat):Int),ya yb h,ya yb m,.slice p34 ((Rd.out l (Rd.cor (x1.getD 0) (x2.getD 0) cx cy wn m l)).length) c35],boxA b2 44 [ya yb ((wn:Nat):Int),ya yb h,ya yb m,.slice p n cap],boxA b1 30 [ya yb cx,ya yb cy,u1.b,u1.l,v1.b,v1.l,u2.b,u2.l,v2.b,v2.l]],[qF true u4_1r2 u4_2r2 (Big.qabs ((Rat.divInt (Rd.gr (((l.getD i 0:Int):Rat)*Rd.gn (x1.getD 0) (x2.getD 0) cx cy ((i%wn:Nat):Int) ((i / wn:Nat):Int)) m) 1) - (((l.getD i 0:Int):Rat)*(Rd.gn (x1.getD 0) (x2.getD 0) cx cy (((i%wn):Nat):Int) (((i / wn):Nat):Int))))),qF true u3_1r2 u3_2r2 ((Rat.divInt (Rd.gr (((l.getD i 0:Int):Rat)*Rd.gn (x1.getD 0) (x2.getD 0) cx cy ((i%wn:Nat):Int) ((i / wn:Nat):Int)) m) 1) - (((l.getD i 0:Int):Rat)*(Rd.gn (x1.getD 0) (x2.getD 0) cx cy (((i%wn):Nat):Int) (((i / wn):Nat):Int)))),qF true u1_1r2 u1_2r2 (Rat.divInt (Rd.gr (((l.getD i 0:Int):Rat)*Rd.gn (x1.getD 0) (x2.getD 0) cx cy ((i%wn:Nat):Int) ((i / wn:Nat):Int)) m) 1),qF true u12_1 u12_2 (((l.getD i 0:Int):Rat)*(Rd.gn (x1.getD 0) (x2.getD 0) cx cy (((i%wn):Nat):Int) (((i / wn):Nat):Int))),qF true u11_1 u11_2 (Rd.gn (x1.getD 0) (x2.getD 0) cx cy (((i%wn):Nat):Int) (((i / wn):Nat):Int)),qF true u1_1 u1_2 ((l.getD i 0:Int):Rat),qF true u2 v2 (x2.getD 0),qF true u1 v1 (x1.getD 0),slF (rI .i64) p34 c35 (Rd.out l (Rd.cor (x1.getD 0) (x2.getD 0) cx cy wn m l)),eF u1 v1 x1,eF u2 v2 x2,slF (rI .i64) p cap l])) ?_ (fun hD2=> ?_)
         ·
          rintro ⟨u1_1r2,u1_2r2,u3_1r2,u3_2r2,u4_1r2,u4_2r2⟩
          dsimp only [cw]
          refine zib 5 kr ?_
          ·
           refine zHa rfl rfl rfl rfl (zt zr28 rfl) (fun u5_1r2 _=> ?_)
           exact zba (hD1 (u1_1r2,u1_2r2,u3_1r2,u3_2r2,u4_1r2,u4_2r2,u5_1r2)) kr ((.of rfl):SubM _ _) .rfl .rfl ((.of [0,1,2,3,4,5,6,7,8,9,10,11] rfl):SelR _ _ _)
         refine zqa (X:=Wd×Wd×Wd×Wd×Nat) (k':=2) (L':=(lb 7 47)) (fun (u1_1r2,u1_2r2,u3_1r2,u3_2r2,u5_1r2)=>([(12,yc (some ⟨u5_1r2,0,none⟩)),(111,.agg (cw [u3_1r2,u3_2r2]).toArray),(11,ya yb (Rd.gr (((l.getD i 0:Int):Rat)*Rd.gn (x1.getD 0) (x2.getD 0) cx cy ((i%wn:Nat):Int) ((i / wn:Nat):Int)) m)),(79,ya yb ((i:Nat):Int)),(78,ya yb ((n:Nat):Int)),(77,.slice p n cap),(5,yc (some ⟨b6,0,none⟩)),(3,yc (some ⟨b2,0,none⟩)),(2,yc (some ⟨b1,0,none⟩))],[boxA u5_1r2 28 (cw [wz,wz])],[boxA u13_1 28 (cw [u12_1,u12_2]),boxA b6 44 [ya yb ((wn:Nat):Int),ya yb h,ya yb m,.slice p34 ((Rd.out l (Rd.cor (x1.getD 0) (x2.getD 0) cx cy wn m l)).length) c35],boxA b2 44 [ya yb ((wn:Nat):Int),ya yb h,ya yb m,.slice p n cap],boxA b1 30 [ya yb cx,ya yb cy,u1.b,u1.l,v1.b,v1.l,u2.b,u2.l,v2.b,v2.l]],[qF true u3_1r2 u3_2r2 ((Rat.divInt (Rd.gr (((l.getD i 0:Int):Rat)*Rd.gn (x1.getD 0) (x2.getD 0) cx cy ((i%wn:Nat):Int) ((i / wn:Nat):Int)) m) 1) - (((l.getD i 0:Int):Rat)*(Rd.gn (x1.getD 0) (x2.getD 0) cx cy (((i%wn):Nat):Int) (((i / wn):Nat):Int)))),qF true u1_1r2 u1_2r2 (Rat.divInt (Rd.gr (((l.getD i 0:Int):Rat)*Rd.gn (x1.getD 0) (x2.getD 0) cx cy ((i%wn:Nat):Int) ((i / wn:Nat):Int)) m) 1),qF true u12_1 u12_2 (((l.getD i 0:Int):Rat)*(Rd.gn (x1.getD 0) (x2.getD 0) cx cy (((i%wn):Nat):Int) (((i / wn):Nat):Int))),qF true u11_1 u11_2 (Rd.gn (x1.getD 0) (x2.getD 0) cx cy (((i%wn):Nat):Int) (((i / wn):Nat):Int)),qF true u1_1 u1_2 ((l.getD i 0:Int):Rat),qF true u2 v2 (x2.getD 0),qF true u1 v1 (x1.getD 0),slF (rI .i64) p34 c35 (Rd.out l (Rd.cor (x1.getD 0) (x2.getD 0) cx cy wn m l)),eF u1 v1 x1,eF u2 v2 x2,slF (rI .i64) p cap l])) ?_ (fun hD3=> ?_)
         ·
          rintro ⟨u1_1r2,u1_2r2,u3_1r2,u3_2r2,u5_1r2⟩
          dsimp only [cw]
          refine zib 4 kr ?_
          ·
           refine zu rfl rfl rfl rfl (.c rfl .n) ce27 (zYd (k1:=true) (u1:=u3_1r2) (v1:=u3_2r2) (q1:=(Rat.divInt (Rd.gr (((l.getD i 0:Int):Rat)*Rd.gn (x1.getD 0) (x2.getD 0) cx cy ((i%wn:Nat):Int) ((i / wn:Nat):Int)) m) 1) - (((l.getD i 0:Int):Rat)*(Rd.gn (x1.getD 0) (x2.getD 0) cx cy (((i%wn):Nat):Int) (((i / wn):Nat):Int)))) (hl:=by first|omega|rfl|assumption|decide)) (.c (j:=0) rfl .n) ?_
           rintro ⟨u4_1r2,u4_2r2⟩ -
           dsimp only [aq,nq,cq]
           exact zba (hD1 (u1_1r2,u1_2r2,u3_1r2,u3_2r2,u4_1r2,u4_2r2,u5_1r2)) kr ((.of rfl):SubM _ _) .rfl .rfl ((.of [0,1,2,3,4,5,6,7,8,9,10,11] rfl):SelR _ _ _)
         refine zqa (X:=Wd×Wd×Wd×Wd) (k':=3) (L':=(lb 7 15)) (fun (u1_1r2,u1_2r2,u3_1r2,u3_2r2)=>([(111,.agg (cw [u3_1r2,u3_2r2]).toArray),(11,ya yb (Rd.gr (((l.getD i 0:Int):Rat)*Rd.gn (x1.getD 0) (x2.getD 0) cx cy ((i%wn:Nat):Int) ((i / wn:Nat):Int)) m)),(79,ya yb ((i:Nat):Int)),(78,ya yb ((n:Nat):Int)),(77,.slice p n cap),(5,yc (some ⟨b6,0,none⟩)),(3,yc (some ⟨b2,0,none⟩)),(2,yc (some ⟨b1,0,none⟩))],[],[boxA u13_1 28 (cw [u12_1,u12_2]),boxA b6 44 [ya yb ((wn:Nat):Int),ya yb h,ya yb m,.slice p34 ((Rd.out l (Rd.cor (x1.getD 0) (x2.getD 0) cx cy wn m l)).length) c35],boxA b2 44 [ya yb ((wn:Nat):Int),ya yb h,ya yb m,.slice p n cap],boxA b1 30 [ya yb cx,ya yb cy,u1.b,u1.l,v1.b,v1.l,u2.b,u2.l,v2.b,v2.l]],[qF true u3_1r2 u3_2r2 ((Rat.divInt (Rd.gr (((l.getD i 0:Int):Rat)*Rd.gn (x1.getD 0) (x2.getD 0) cx cy ((i%wn:Nat):Int) ((i / wn:Nat):Int)) m) 1) - (((l.getD i 0:Int):Rat)*(Rd.gn (x1.getD 0) (x2.getD 0) cx cy (((i%wn):Nat):Int) (((i / wn):Nat):Int)))),qF true u1_1r2 u1_2r2 (Rat.divInt (Rd.gr (((l.getD i 0:Int):Rat)*Rd.gn (x1.getD 0) (x2.getD 0) cx cy ((i%wn:Nat):Int) ((i / wn:Nat):Int)) m) 1),qF true u12_1 u12_2 (((l.getD i 0:Int):Rat)*(Rd.gn (x1.getD 0) (x2.getD 0) cx cy (((i%wn):Nat):Int) (((i / wn):Nat):Int))),qF true u11_1 u11_2 (Rd.gn (x1.getD 0) (x2.getD 0) cx cy (((i%wn):Nat):Int) (((i / wn):Nat):Int)),qF true u1_1 u1_2 ((l.getD i 0:Int):Rat),qF true u2 v2 (x2.getD 0),qF true u1 v1 (x1.getD 0),slF (rI .i64) p34 c35 (Rd.out l (Rd.cor (x1.getD 0) (x2.getD 0) cx cy wn m l)),eF u1 v1 x1,eF u2 v2 x2,slF (rI .i64) p cap l])) ?_ (fun hD4=> ?_)
         ·
          rintro ⟨u1_1r2,u1_2r2,u3_1r2,u3_2r2⟩
          dsimp only [cw]
          refine zQb 4 5 kr ?_ ?_
          ·
           refine zu rfl rfl rfl rfl (.c rfl .n) ce27 (zYd (k1:=true) (u1:=u3_1r2) (v1:=u3_2r2) (q1:=(Rat.divInt (Rd.gr (((l.getD i 0:Int):Rat)*Rd.gn (x1.getD 0) (x2.getD 0) cx cy ((i%wn:Nat):Int) ((i / wn:Nat):Int)) m) 1) - (((l.getD i 0:Int):Rat)*(Rd.gn (x1.getD 0) (x2.getD 0) cx cy (((i%wn):Nat):Int) (((i / wn):Nat):Int)))) (hl:=by first|omega|rfl|assumption|decide)) (.c (j:=0) rfl .n) ?_
           rintro ⟨u4_1r2,u4_2r2⟩ -
           dsimp only [aq,nq,cq]
           exact zba (hD2 (u1_1r2,u1_2r2,u3_1r2,u3_2r2,u4_1r2,u4_2r2)) kr ((.of rfl):SubM _ _) .rfl .rfl ((.of [0,1,2,3,4,5,6,7,8,9,10,11] rfl):SelR _ _ _)
          ·
           refine zHa rfl rfl rfl rfl (zt zr28 rfl) (fun u5_1r2 _=> ?_)
           exact zba (hD3 (u1_1r2,u1_2r2,u3_1r2,u3_2r2,u5_1r2)) kr ((.of rfl):SubM _ _) .rfl .rfl ((.of [0,1,2,3,4,5,6,7,8,9,10] rfl):SelR _ _ _)
         refine zqa (X:=Wd×Wd×Nat) (k':=3) (L':=(lb 7 39)) (fun (u1_1r2,u1_2r2,u5_1r2)=>([(12,yc (some ⟨u5_1r2,0,none⟩)),(109,.agg (cw [u1_1r2,u1_2r2]).toArray),(110,.agg (cw [u12_1,u12_2]).toArray),(11,ya yb (Rd.gr (((l.getD i 0:Int):Rat)*Rd.gn (x1.getD 0) (x2.getD 0) cx cy ((i%wn:Nat):Int) ((i / wn:Nat):Int)) m)),(79,ya yb ((i:Nat):Int)),(78,ya yb ((n:Nat):Int)),(77,.slice p n cap),(5,yc (some ⟨b6,0,none⟩)),(3,yc (some ⟨b2,0,none⟩)),(2,yc (some ⟨b1,0,none⟩))],[boxA u5_1r2 28 (cw [wz,wz])],[boxA u13_1 28 (cw [u12_1,u12_2]),boxA b6 44 [ya yb ((wn:Nat):Int),ya yb h,ya yb m,.slice p34 ((Rd.out l (Rd.cor (x1.getD 0) (x2.getD 0) cx cy wn m l)).length) c35],boxA b2 44 [ya yb ((wn:Nat):Int),ya yb h,ya yb m,.slice p n cap],boxA b1 30 [ya yb cx,ya yb cy,u1.b,u1.l,v1.b,v1.l,u2.b,u2.l,v2.b,v2.l]],[qF true u1_1r2 u1_2r2 (Rat.divInt (Rd.gr (((l.getD i 0:Int):Rat)*Rd.gn (x1.getD 0) (x2.getD 0) cx cy ((i%wn:Nat):Int) ((i / wn:Nat):Int)) m) 1),qF true u12_1 u12_2 (((l.getD i 0:Int):Rat)*(Rd.gn (x1.getD 0) (x2.getD 0) cx cy (((i%wn):Nat):Int) (((i / wn):Nat):Int))),qF true u11_1 u11_2 (Rd.gn (x1.getD 0) (x2.getD 0) cx cy (((i%wn):Nat):Int) (((i / wn):Nat):Int)),qF true u1_1 u1_2 ((l.getD i 0:Int):Rat),qF true u2 v2 (x2.getD 0),qF true u1 v1 (x1.getD 0),slF (rI .i64) p34 c35 (Rd.out l (Rd.cor (x1.getD 0) (x2.getD 0) cx cy wn m l)),eF u1 v1 x1,eF u2 v2 x2,slF (rI .i64) p cap l])) ?_ (fun hD5=> ?_)
         ·
          rintro ⟨u1_1r2,u1_2r2,u5_1r2⟩
          dsimp only [cw]
          refine zib 3 kr ?_
          ·
           refine zu rfl rfl rfl rfl (.c rfl (.c rfl .n)) ce28 (zVc (k1:=true) (u1:=u1_1r2) (v1:=u1_2r2) (q1:=Rat.divInt (Rd.gr (((l.getD i 0:Int):Rat)*Rd.gn (x1.getD 0) (x2.getD 0) cx cy ((i%wn:Nat):Int) ((i / wn:Nat):Int)) m) 1) (k2:=true) (u2:=u12_1) (v2:=u12_2) (q2:=((l.getD i 0:Int):Rat)*(Rd.gn (x1.getD 0) (x2.getD 0) cx cy (((i%wn):Nat):Int) (((i / wn):Nat):Int))) (hl:=by first|omega|rfl|assumption|decide)) (.c (j:=0) rfl (.c (j:=1) rfl .n)) ?_
           rintro ⟨u3_1r2,u3_2r2⟩ -
           dsimp only [aq,nq,cq]
           exact zba (hD3 (u1_1r2,u1_2r2,u3_1r2,u3_2r2,u5_1r2)) kr ((.of rfl):SubM _ _) .rfl .rfl ((.of [0,1,2,3,4,5,6,7,8,9,10] rfl):SelR _ _ _)
         refine zqa (X:=Wd×Wd) (k':=4) (L':=(lb 7 7)) (fun (u1_1r2,u1_2r2)=>([(109,.agg (cw [u1_1r2,u1_2r2]).toArray),(110,.agg (cw [u12_1,u12_2]).toArray),(11,ya yb (Rd.gr (((l.getD i 0:Int):Rat)*Rd.gn (x1.getD 0) (x2.getD 0) cx cy ((i%wn:Nat):Int) ((i / wn:Nat):Int)) m)),(79,ya yb ((i:Nat):Int)),(78,ya yb ((n:Nat):Int)),(77,.slice p n cap),(5,yc (some ⟨b6,0,none⟩)),(3,yc (some ⟨b2,0,none⟩)),(2,yc (some ⟨b1,0,none⟩))],[],[boxA u13_1 28 (cw [u12_1,u12_2]),boxA b6 44 [ya yb ((wn:Nat):Int),ya yb h,ya yb m,.slice p34 ((Rd.out l (Rd.cor (x1.getD 0) (x2.getD 0) cx cy wn m l)).length) c35],boxA b2 44 [ya yb ((wn:Nat):Int),ya yb h,ya yb m,.slice p n cap],boxA b1 30 [ya yb cx,ya yb cy,u1.b,u1.l,v1.b,v1.l,u2.b,u2.l,v2.b,v2.l]],[qF true u1_1r2 u1_2r2 (Rat.divInt (Rd.gr (((l.getD i 0:Int):Rat)*Rd.gn (x1.getD 0) (x2.getD 0) cx cy ((i%wn:Nat):Int) ((i / wn:Nat):Int)) m) 1),qF true u12_1 u12_2 (((l.getD i 0:Int):Rat)*(Rd.gn (x1.getD 0) (x2.getD 0) cx cy (((i%wn):Nat):Int) (((i / wn):Nat):Int))),qF true u11_1 u11_2 (Rd.gn (x1.getD 0) (x2.getD 0) cx cy (((i%wn):Nat):Int) (((i / wn):Nat):Int)),qF true u1_1 u1_2 ((l.getD i 0:Int):Rat),qF true u2 v2 (x2.getD 0),qF true u1 v1 (x1.getD 0),slF (rI .i64) p34 c35 (Rd.out l (Rd.cor (x1.getD 0) (x2.getD 0) cx cy wn m l)),eF u1 v1 x1,eF u2 v2 x2,slF (rI .i64) p cap l])) ?_ (fun hD6=> ?_)
         ·
          rintro ⟨u1_1r2,u1_2r2⟩
          dsimp only [cw]
          refine zQb 3 5 kr ?_ ?_
          ·
           refine zu rfl rfl rfl rfl (.c rfl (.c rfl .n)) ce28 (zVc (k1:=true) (u1:=u1_1r2) (v1:=u1_2r2) (q1:=Rat.divInt (Rd.gr (((l.getD i 0:Int):Rat)*Rd.gn (x1.getD 0) (x2.getD 0) cx cy ((i%wn:Nat):Int) ((i / wn:Nat):Int)) m) 1) (k2:=true) (u2:=u12_1) (v2:=u12_2) (q2:=((l.getD i 0:Int):Rat)*(Rd.gn (x1.getD 0) (x2.getD 0) cx cy (((i%wn):Nat):Int) (((i / wn):Nat):Int))) (hl:=by first|omega|rfl|assumption|decide)) (.c (j:=0) rfl (.c (j:=1) rfl .n)) ?_
           rintro ⟨u3_1r2,u3_2r2⟩ -
           dsimp only [aq,nq,cq]
           exact zba (hD4 (u1_1r2,u1_2r2,u3_1r2,u3_2r2)) kr ((.of rfl):SubM _ _) .rfl .rfl ((.of [0,1,2,3,4,5,6,7,8,9,10] rfl):SelR _ _ _)
          ·
           refine zHa rfl rfl rfl rfl (zt zr28 rfl) (fun u5_1r2 _=> ?_)
           exact zba (hD5 (u1_1r2,u1_2r2,u5_1r2)) kr ((.of rfl):SubM _ _) .rfl .rfl ((.of [0,1,2,3,4,5,6,7,8,9] rfl):SelR _ _ _)
         refine zqa (X:=Nat) (k':=4) (L':=(lb 7 37)) (fun u5_1r2=>([(12,yc (some ⟨u5_1r2,0,none⟩)),(110,.agg (cw [u12_1,u12_2]).toArray),(108,ya yb (Rd.gr (((l.getD i 0:Int):Rat)*Rd.gn (x1.getD 0) (x2.getD 0) cx cy ((i%wn:Nat):Int) ((i / wn:Nat):Int)) m)),(11,ya yb (Rd.gr (((l.getD i 0:Int):Rat)*Rd.gn (x1.getD 0) (x2.getD 0) cx cy ((i%wn:Nat):Int) ((i / wn:Nat):Int)) m)),(79,ya yb ((i:Nat):Int)),(78,ya yb ((n:Nat):Int)),(77,.slice p n cap),(5,yc (some ⟨b6,0,none⟩)),(3,yc (some ⟨b2,0,none⟩)),(2,yc (some ⟨b1,0,none⟩))],[boxA u5_1r2 28 (cw [wz,wz])],[boxA u13_1 28 (cw [u12_1,u12_2]),boxA b6 44 [ya yb ((wn:Nat):Int),ya yb h,ya yb m,.slice p34 ((Rd.out l (Rd.cor (x1.getD 0) (x2.getD 0) cx cy wn m l)).length) c35],boxA b2 44 [ya yb ((wn:Nat):Int),ya yb h,ya yb m,.slice p n cap],boxA b1 30 [ya yb cx,ya yb cy,u1.b,u1.l,v1.b,v1.l,u2.b,u2.l,v2.b,v2.l]],[qF true u12_1 u12_2 (((l.getD i 0:Int):Rat)*(Rd.gn (x1.getD 0) (x2.getD 0) cx cy (((i%wn):Nat):Int) (((i / wn):Nat):Int))),qF true u11_1 u11_2 (Rd.gn (x1.getD 0) (x2.getD 0) cx cy (((i%wn):Nat):Int) (((i / wn):Nat):Int)),qF true u1_1 u1_2 ((l.getD i 0:Int):Rat),qF true u2 v2 (x2.getD 0),qF true u1 v1 (x1.getD 0),slF (rI .i64) p34 c35 (Rd.out l (Rd.cor (x1.getD 0) (x2.getD 0) cx cy wn m l)),eF u1 v1 x1,eF u2 v2 x2,slF (rI .i64) p cap l])) ?_ (fun hD7=> ?_)
         ·
          rintro u5_1r2
          dsimp only [cw]
          refine zib 1 kr ?_
          ·
           refine zu rfl rfl rfl rfl (.c rfl (.c rfl .n)) ce25 (zya (z1:=(Rd.gr (((l.getD i 0:Int):Rat)*Rd.gn (x1.getD 0) (x2.getD 0) cx cy ((i%wn:Nat):Int) ((i / wn:Nat):Int)) m)) (z2:=1) (hz1:=by first|omega|rfl|assumption|decide) (hz2:=by first|omega|rfl|assumption|decide) (hy:=by first|omega|rfl|assumption|decide)) (.n) ?_
           rintro ⟨u1_1r2,u1_2r2⟩ -
           dsimp only [aq,nq,cq]
           exact zba (hD5 (u1_1r2,u1_2r2,u5_1r2)) kr ((.of rfl):SubM _ _) .rfl .rfl ((.of [0,1,2,3,4,5,6,7,8,9] rfl):SelR _ _ _)
         refine zQb 1 5 kr ?_ ?_
         ·
          refine zu rfl rfl rfl rfl (.c rfl (.c rfl .n)) ce25 (zya (z1:=(Rd.gr (((l.getD i 0:Int):Rat)*Rd.gn (x1.getD 0) (x2.getD 0) cx cy ((i%wn:Nat):Int) ((i / wn:Nat):Int)) m)) (z2:=1) (hz1:=by first|omega|rfl|assumption|decide) (hz2:=by first|omega|rfl|assumption|decide) (hy:=by first|omega|rfl|assumption|decide)) (.n) ?_
          rintro ⟨u1_1r2,u1_2r2⟩ -
          dsimp only [aq,nq,cq]
          exact zba (hD6 (u1_1r2,u1_2r2)) kr ((.of rfl):SubM _ _) .rfl .rfl ((.of [0,1,2,3,4,5,6,7,8,9] rfl):SelR _ _ _)
         ·
          refine zHa rfl rfl rfl rfl (zt zr28 rfl) (fun u5_1r2 _=> ?_)
          exact zba (hD7 u5_1r2) kr ((.of rfl):SubM _ _) .rfl .rfl ((.of [0,1,2,3,4,5,6,7,8] rfl):SelR _ _ _)
       refine zqa (X:=Wd×Wd×Wd×Wd×Wd×Wd×Nat) (k':=1) (L':=(lb 15 16383)) (fun (u1_1,u1_2,u11_1,u11_2,u12_1,u12_2,u13_1)=>([(10,yc (some ⟨u13_1,0,none⟩)),(96,.agg (cw [u12_1,u12_2]).toArray),(8,ya yb ((i:Nat):Int)),(79,ya yb ((i:Nat):Int)),(78,ya yb ((n:Nat):Int)),(77,.slice p n cap),(5,yc (some ⟨b6,0,none⟩)),(3,yc (some ⟨b2,0,none⟩)),(2,yc (some ⟨b1,0,none⟩))],[boxA u13_1 28 (cw [wz,wz])],[boxA b6 44 [ya yb ((wn:Nat):Int),ya yb h,ya yb m,.slice p34 ((Rd.out l (Rd.cor (x1.getD 0) (x2.getD 0) cx cy wn m l)).length) c35],boxA b2 44 [ya yb ((wn:Nat):Int),ya yb h,ya yb m,.slice p n cap],boxA b1 30 [ya yb cx,ya yb cy,u1.b,u1.l,v1.b,v1.l,u2.b,u2.l,v2.b,v2.l]],[qF true u12_1 u12_2 ((Rat.divInt (l.getD i 0) 1)*(Rd.gn (x1.getD 0) (x2.getD 0) cx cy (((i%wn):Nat):Int) (((i / wn):Nat):Int))),qF true u11_1 u11_2 (Rd.gn (x1.getD 0) (x2.getD 0) cx cy (((i%wn):Nat):Int) (((i / wn):Nat):Int)),qF true u1_1 u1_2 (Rat.divInt (l.getD i 0) 1),qF true u2 v2 (x2.getD 0),qF true u1 v1 (x1.getD 0),slF (rI .i64) p34 c35 (Rd.out l (Rd.cor (x1.getD 0) (x2.getD 0) cx cy wn m l)),eF u1 v1 x1,eF u2 v2 x2,slF (rI .i64) p cap l])) ?_ (fun hD1=> ?_)
       ·
        rintro ⟨u1_1,u1_2,u11_1,u11_2,u12_1,u12_2,u13_1⟩
        dsimp only [cw]
        refine zib 14 kr ?_
        ·
         refine zC kr rfl rfl rfl rfl rfl sz28 rfl (.t4 .nil) ?_
         exact zba (hD0 (u1_1,u1_2,u11_1,u11_2,u12_1,u12_2,u13_1)) kr ((.of rfl):SubM _ _) .rfl .rfl ((.of [0,1,2,3,4,5,6,7,8] rfl):SelR _ _ _)
       refine zqa (X:=Wd×Wd×Wd×Wd×Wd×Wd) (k':=2) (L':=(lb 15 8191)) (fun (u1_1,u1_2,u11_1,u11_2,u12_1,u12_2)=>([(96,.agg (cw [u12_1,u12_2]).toArray),(8,ya yb ((i:Nat):Int)),(79,ya yb ((i:Nat):Int)),(78,ya yb ((n:Nat):Int)),(77,.slice p n cap),(5,yc (some ⟨b6,0,none⟩)),(3,yc (some ⟨b2,0,none⟩)),(2,yc (some ⟨b1,0,none⟩))],[],[boxA b6 44 [ya yb ((wn:Nat):Int),ya yb h,ya yb m,.slice p34 ((Rd.out l (Rd.cor (x1.getD 0) (x2.getD 0) cx cy wn m l)).length) c35],boxA b2 44 [ya yb ((wn:Nat):Int),ya yb h,ya yb m,.slice p n cap],boxA b1 30 [ya yb cx,ya yb cy,u1.b,u1.l,v1.b,v1.l,u2.b,u2.l,v2.b,v2.l]],[qF true u12_1 u12_2 ((Rat.divInt (l.getD i 0) 1)*(Rd.gn (x1.getD 0) (x2.getD 0) cx cy (((i%wn):Nat):Int) (((i / wn):Nat):Int))),qF true u11_1 u11_2 (Rd.gn (x1.getD 0) (x2.getD 0) cx cy (((i%wn):Nat):Int) (((i / wn):Nat):Int)),qF true u1_1 u1_2 (Rat.divInt (l.getD i 0) 1),qF true u2 v2 (x2.getD 0),qF true u1 v1 (x1.getD 0),slF (rI .i64) p34 c35 (Rd.out l (Rd.cor (x1.getD 0) (x2.getD 0) cx cy wn m l)),eF u1 v1 x1,eF u2 v2 x2,slF (rI .i64) p cap l])) ?_ (fun hD2=> ?_)
       ·
        rintro ⟨u1_1,u1_2,u11_1,u11_2,u12_1,u12_2⟩
        dsimp only [cw]
        refine zib 13 kr ?_
        ·
         refine zHa rfl rfl rfl rfl (zt zr28 rfl) (fun u13_1 _=> ?_)
         exact zba (hD1 (u1_1,u1_2,u11_1,u11_2,u12_1,u12_2,u13_1)) kr ((.of rfl):SubM _ _) .rfl .rfl ((.of [0,1,2,3,4,5,6,7,8] rfl):SelR _ _ _)
       refine zqa (X:=Wd×Wd×Wd×Wd×Nat) (k':=2) (L':=(lb 15 12287)) (fun (u1_1,u1_2,u11_1,u11_2,u13_1)=>([(10,yc (some ⟨u13_1,0,none⟩)),(95,.agg (cw [u11_1,u11_2]).toArray),(85,.agg (cw [u1_1,u1_2]).toArray),(8,ya yb ((i:Nat):Int)),(79,ya yb ((i:Nat):Int)),(78,ya yb ((n:Nat):Int)),(77,.slice p n cap),(5,yc (some ⟨b6,0,none⟩)),(3,yc (some ⟨b2,0,none⟩)),(2,yc (some ⟨b1,0,none⟩))],[boxA u13_1 28 (cw [wz,wz])],[boxA b6 44 [ya yb ((wn:Nat):Int),ya yb h,ya yb m,.slice p34 ((Rd.out l (Rd.cor (x1.getD 0) (x2.getD 0) cx cy wn m l)).length) c35],boxA b2 44 [ya yb ((wn:Nat):Int),ya yb h,ya yb m,.slice p n cap],boxA b1 30 [ya yb cx,ya yb cy,u1.b,u1.l,v1.b,v1.l,u2.b,u2.l,v2.b,v2.l]],[qF true u11_1 u11_2 (Rd.gn (x1.getD 0) (x2.getD 0) cx cy (((i%wn):Nat):Int) (((i / wn):Nat):Int)),qF true u1_1 u1_2 (Rat.divInt (l.getD i 0) 1),qF true u2 v2 (x2.getD 0),qF true u1 v1 (x1.getD 0),slF (rI .i64) p34 c35 (Rd.out l (Rd.cor (x1.getD 0) (x2.getD 0) cx cy wn m l)),eF u1 v1 x1,eF u2 v2 x2,slF (rI .i64) p cap l])) ?_ (fun hD3=> ?_)
       ·
        rintro ⟨u1_1,u1_2,u11_1,u11_2,u13_1⟩
        dsimp only [cw]
        refine zib 12 kr ?_
        ·
         refine zu rfl rfl rfl rfl (.c rfl (.c rfl .n)) ce24 (zlb (u1:=u1_1) (v1:=u1_2) (q1:=Rat.divInt (l.getD i 0) 1) (u2:=u11_1) (v2:=u11_2) (q2:=(Rd.gn (x1.getD 0) (x2.getD 0) cx cy (((i%wn):Nat):Int) (((i / wn):Nat):Int))) (hl:=by first|omega|rfl|assumption|decide)) (.c (j:=1) rfl (.c (j:=0) rfl .n)) ?_
         rintro ⟨u12_1,u12_2⟩ -
         dsimp only [aq,nq,cq]
         exact zba (hD1 (u1_1,u1_2,u11_1,u11_2,u12_1,u12_2,u13_1)) kr ((.of rfl):SubM _ _) .rfl .rfl ((.of [0,1,2,3,4,5,6,7,8] rfl):SelR _ _ _)
       refine zqa (X:=Wd×Wd×Wd×Wd) (k':=3) (L':=(lb 15 4095)) (fun (u1_1,u1_2,u11_1,u11_2)=>([(95,.agg (cw [u11_1,u11_2]).toArray),(85,.agg (cw [u1_1,u1_2]).toArray),(8,ya yb ((i:Nat):Int)),(79,ya yb ((i:Nat):Int)),(78,ya yb ((n:Nat):Int)),(77,.slice p n cap),(5,yc (some ⟨b6,0,none⟩)),(3,yc (some ⟨b2,0,none⟩)),(2,yc (some ⟨b1,0,none⟩))],[],[boxA b6 44 [ya yb ((wn:Nat):Int),ya yb h,ya yb m,.slice p34 ((Rd.out l (Rd.cor (x1.getD 0) (x2.getD 0) cx cy wn m l)).length) c35],boxA b2 44 [ya yb ((wn:Nat):Int),ya yb h,ya yb m,.slice p n cap],boxA b1 30 [ya yb cx,ya yb cy,u1.b,u1.l,v1.b,v1.l,u2.b,u2.l,v2.b,v2.l]],[qF true u11_1 u11_2 (Rd.gn (x1.getD 0) (x2.getD 0) cx cy (((i%wn):Nat):Int) (((i / wn):Nat):Int)),qF true u1_1 u1_2 (Rat.divInt (l.getD i 0) 1),qF true u2 v2 (x2.getD 0),qF true u1 v1 (x1.getD 0),slF (rI .i64) p34 c35 (Rd.out l (Rd.cor (x1.getD 0) (x2.getD 0) cx cy wn m l)),eF u1 v1 x1,eF u2 v2 x2,slF (rI .i64) p cap l])) ?_ (fun hD4=> ?_)
       ·
        rintro ⟨u1_1,u1_2,u11_1,u11_2⟩
        dsimp only [cw]
        refine zQb 12 13 kr ?_ ?_
        ·
         refine zu rfl rfl rfl rfl (.c rfl (.c rfl .n)) ce24 (zlb (u1:=u1_1) (v1:=u1_2) (q1:=Rat.divInt (l.getD i 0) 1) (u2:=u11_1) (v2:=u11_2) (q2:=(Rd.gn (x1.getD 0) (x2.getD 0) cx cy (((i%wn):Nat):Int) (((i / wn):Nat):Int))) (hl:=by first|omega|rfl|assumption|decide)) (.c (j:=1) rfl (.c (j:=0) rfl .n)) ?_
         rintro ⟨u12_1,u12_2⟩ -
         dsimp only [aq,nq,cq]
         exact zba (hD2 (u1_1,u1_2,u11_1,u11_2,u12_1,u12_2)) kr ((.of rfl):SubM _ _) .rfl .rfl ((.of [0,1,2,3,4,5,6,7,8] rfl):SelR _ _ _)
        ·
         refine zHa rfl rfl rfl rfl (zt zr28 rfl) (fun u13_1 _=> ?_)
         exact zba (hD3 (u1_1,u1_2,u11_1,u11_2,u13_1)) kr ((.of rfl):SubM _ _) .rfl .rfl ((.of [0,1,2,3,4,5,6,7] rfl):SelR _ _ _)
       refine zqa (X:=Wd×Wd×Nat) (k':=3) (L':=(lb 15 10239)) (fun (u1_1,u1_2,u13_1)=>([(10,yc (some ⟨u13_1,0,none⟩)),(85,.agg (cw [u1_1,u1_2]).toArray),(94,ya yb (((i / wn):Nat):Int)),(90,ya yb (((i%wn):Nat):Int)),(86,.agg #[ya yb cx,ya yb cy,u1.b,u1.l,v1.b,v1.l,u2.b,u2.l,v2.b,v2.l]),(8,ya yb ((i:Nat):Int)),(79,ya yb ((i:Nat):Int)),(78,ya yb ((n:Nat):Int)),(77,.slice p n cap),(5,yc (some ⟨b6,0,none⟩)),(3,yc (some ⟨b2,0,none⟩)),(2,yc (some ⟨b1,0,none⟩))],[boxA u13_1 28 (cw [wz,wz])],[boxA b6 44 [ya yb ((wn:Nat):Int),ya yb h,ya yb m,.slice p34 ((Rd.out l (Rd.cor (x1.getD 0) (x2.getD 0) cx cy wn m l)).length) c35],boxA b2 44 [ya yb ((wn:Nat):Int),ya yb h,ya yb m,.slice p n cap],boxA b1 30 [ya yb cx,ya yb cy,u1.b,u1.l,v1.b,v1.l,u2.b,u2.l,v2.b,v2.l]],[qF true u1_1 u1_2 (Rat.divInt (l.getD i 0) 1),qF true u2 v2 (x2.getD 0),qF true u1 v1 (x1.getD 0),slF (rI .i64) p34 c35 (Rd.out l (Rd.cor (x1.getD 0) (x2.getD 0) cx cy wn m l)),eF u1 v1 x1,eF u2 v2 x2,slF (rI .i64) p cap l])) ?_ (fun hD5=> ?_)
       ·
        rintro ⟨u1_1,u1_2,u13_1⟩
        dsimp only [cw]
        refine zib 11 kr ?_
        ·
         refine zu rfl rfl rfl rfl (.c rfl (.c rfl (.c rfl .n))) ce19 (zYc (cx:=cx) (cy:=cy) (u1:=u1) (v1:=v1) (q1:=(x1.getD 0)) (u2:=u2) (v2:=v2) (q2:=(x2.getD 0)) (x9:=(((i%wn):Nat):Int)) (y9:=(((i / wn):Nat):Int)) (hce:=by first|omega|rfl|assumption|decide) (hxy:=by first|omega|rfl|assumption|decide) (hqA:=by first|omega|rfl|assumption|decide) (hqB:=by first|omega|rfl|assumption|decide)) (.c (j:=2) rfl (.c (j:=1) rfl .n)) ?_
         rintro ⟨u11_1,u11_2⟩ -
         dsimp only [aq,nq,cq]
         exact zba (hD3 (u1_1,u1_2,u11_1,u11_2,u13_1)) kr ((.of rfl):SubM _ _) .rfl .rfl ((.of [0,1,2,3,4,5,6,7] rfl):SelR _ _ _)
       refine zqa (X:=Wd×Wd) (k':=4) (L':=(lb 15 2047)) (fun (u1_1,u1_2)=>([(85,.agg (cw [u1_1,u1_2]).toArray),(94,ya yb (((i / wn):Nat):Int)),(90,ya yb (((i%wn):Nat):Int)),(86,.agg #[ya yb cx,ya yb cy,u1.b,u1.l,v1.b,v1.l,u2.b,u2.l,v2.b,v2.l]),(8,ya yb ((i:Nat):Int)),(79,ya yb ((i:Nat):Int)),(78,ya yb ((n:Nat):Int)),(77,.slice p n cap),(5,yc (some ⟨b6,0,none⟩)),(3,yc (some ⟨b2,0,none⟩)),(2,yc (some ⟨b1,0,none⟩))],[],[boxA b6 44 [ya yb ((wn:Nat):Int),ya yb h,ya yb m,.slice p34 ((Rd.out l (Rd.cor (x1.getD 0) (x2.getD 0) cx cy wn m l)).length) c35],boxA b2 44 [ya yb ((wn:Nat):Int),ya yb h,ya yb m,.slice p n cap],boxA b1 30 [ya yb cx,ya yb cy,u1.b,u1.l,v1.b,v1.l,u2.b,u2.l,v2.b,v2.l]],[qF true u1_1 u1_2 (Rat.divInt (l.getD i 0) 1),qF true u2 v2 (x2.getD 0),qF true u1 v1 (x1.getD 0),slF (rI .i64) p34 c35 (Rd.out l (Rd.cor (x1.getD 0) (x2.getD 0) cx cy wn m l)),eF u1 v1 x1,eF u2 v2 x2,slF (rI .i64) p cap l])) ?_ (fun hD6=> ?_)
       ·
        rintro ⟨u1_1,u1_2⟩
        dsimp only [cw]
        refine zQb 11 13 kr ?_ ?_
        ·
         refine zu rfl rfl rfl rfl (.c rfl (.c rfl (.c rfl .n))) ce19 (zYc (cx:=cx) (cy:=cy) (u1:=u1) (v1:=v1) (q1:=(x1.getD 0)) (u2:=u2) (v2:=v2) (q2:=(x2.getD 0)) (x9:=(((i%wn):Nat):Int)) (y9:=(((i / wn):Nat):Int)) (hce:=by first|omega|rfl|assumption|decide) (hxy:=by first|omega|rfl|assumption|decide) (hqA:=by first|omega|rfl|assumption|decide) (hqB:=by first|omega|rfl|assumption|decide)) (.c (j:=2) rfl (.c (j:=1) rfl .n)) ?_
         rintro ⟨u11_1,u11_2⟩ -
         dsimp only [aq,nq,cq]
         exact zba (hD4 (u1_1,u1_2,u11_1,u11_2)) kr ((.of rfl):SubM _ _) .rfl .rfl ((.of [0,1,2,3,4,5,6,7] rfl):SelR _ _ _)
        ·
         refine zHa rfl rfl rfl rfl (zt zr28 rfl) (fun u13_1 _=> ?_)
         exact zba (hD5 (u1_1,u1_2,u13_1)) kr ((.of rfl):SubM _ _) .rfl .rfl ((.of [0,1,2,3,4,5,6] rfl):SelR _ _ _)
       refine zqa (X:=Nat) (k':=4) (L':=(lb 15 10237)) (fun u13_1=>([(10,yc (some ⟨u13_1,0,none⟩)),(94,ya yb (((i / wn):Nat):Int)),(90,ya yb (((i%wn):Nat):Int)),(86,.agg #[ya yb cx,ya yb cy,u1.b,u1.l,v1.b,v1.l,u2.b,u2.l,v2.b,v2.l]),(84,ya yb (l.getD i 0)),(8,ya yb ((i:Nat):Int)),(79,ya yb ((i:Nat):Int)),(78,ya yb ((n:Nat):Int)),(77,.slice p n cap),(5,yc (some ⟨b6,0,none⟩)),(3,yc (some ⟨b2,0,none⟩)),(2,yc (some ⟨b1,0,none⟩))],[boxA u13_1 28 (cw [wz,wz])],[boxA b6 44 [ya yb ((wn:Nat):Int),ya yb h,ya yb m,.slice p34 ((Rd.out l (Rd.cor (x1.getD 0) (x2.getD 0) cx cy wn m l)).length) c35],boxA b2 44 [ya yb ((wn:Nat):Int),ya yb h,ya yb m,.slice p n cap],boxA b1 30 [ya yb cx,ya yb cy,u1.b,u1.l,v1.b,v1.l,u2.b,u2.l,v2.b,v2.l]],[qF true u2 v2 (x2.getD 0),qF true u1 v1 (x1.getD 0),slF (rI .i64) p34 c35 (Rd.out l (Rd.cor (x1.getD 0) (x2.getD 0) cx cy wn m l)),eF u1 v1 x1,eF u2 v2 x2,slF (rI .i64) p cap l])) ?_ (fun hD7=> ?_)
       ·
        rintro u13_1
        dsimp only [cw]
        refine zib 1 kr ?_
        ·
         refine zu rfl rfl rfl rfl (.c rfl (.c rfl .n)) ce25 (zya (z1:=(l.getD i 0)) (z2:=1) (hz1:=by first|omega|rfl|assumption|decide) (hz2:=by first|omega|rfl|assumption|decide) (hy:=by first|omega|rfl|assumption|decide)) (.n) ?_
         rintro ⟨u1_1,u1_2⟩ -
         dsimp only [aq,nq,cq]
         exact zba (hD5 (u1_1,u1_2,u13_1)) kr ((.of rfl):SubM _ _) .rfl .rfl ((.of [0,1,2,3,4,5,6] rfl):SelR _ _ _)
       refine zQb 1 13 kr ?_ ?_
       ·
        refine zu rfl rfl rfl rfl (.c rfl (.c rfl .n)) ce25 (zya (z1:=(l.getD i 0)) (z2:=1) (hz1:=by first|omega|rfl|assumption|decide) (hz2:=by first|omega|rfl|assumption|decide) (hy:=by first|omega|rfl|assumption|decide)) (.n) ?_
        rintro ⟨u1_1,u1_2⟩ -
        dsimp only [aq,nq,cq]
        exact zba (hD6 (u1_1,u1_2)) kr ((.of rfl):SubM _ _) .rfl .rfl ((.of [0,1,2,3,4,5,6] rfl):SelR _ _ _)
       ·
        refine zHa rfl rfl rfl rfl (zt zr28 rfl) (fun u13_1 _=> ?_)
        exact zba (hD7 u13_1) kr ((.of rfl):SubM _ _) .rfl .rfl ((.of [0,1,2,3,4,5] rfl):SelR _ _ _)
      ·
       refine zfa<|zi<|zi<|zr<|zc<|ze<|za<|e_p (zb rfl)<|zh<|zc<|zD ?_
       exact zy yf () trivial (zo rfl) rfl (ho:=(.n:PickO _ _ _)) (.n:SelR _ _ _)
   ·
    have hno:¬Bl.rok w h m l:=fun k=>h32 (if_pos k)
    rw [if_neg hno] at hco
    have e31:(if (if Bl.rok w h m l then Rd.ckC x1 x2 cx cy w h else 1)=0 then w else 0:Int)=(0:Int):=by rw [if_neg hno];exact if_neg dd
    rw [e31]
    have e32:(if (if Bl.rok w h m l then Rd.ckC x1 x2 cx cy w h else 1)=0 then h else 0:Int)=(0:Int):=by rw [if_neg hno];exact if_neg dd
    rw [e32]
    have e33:(if (if Bl.rok w h m l then Rd.ckC x1 x2 cx cy w h else 1)=0 then m else 0:Int)=(0:Int):=by rw [if_neg hno];exact if_neg dd
    rw [e33]
    have e34:(if Bl.rok w h m l then Rd.ckC x1 x2 cx cy w h else 1:Int)=1:=by exact if_neg hno
    rw [e34]
    have e35:(if Bl.rok w h m l then 0 else 1:Int)=1:=by exact if_neg hno
    rw [e35]
    have hoc:oc=[]:=hco.2 dd
    refine zw<|zc<|ze<|ze<|za<|e_mv rfl<|e_p (zva rfl rfl)<|zh<|zc<|zpd rfl rfl<|zBa (X:=Unit) (fun x=>True) (fun x=>[(4,.bool true),(6,ya yb 1),(5,yc (some ⟨b6,0,none⟩)),(3,yc (some ⟨b2,0,none⟩)),(2,yc (some ⟨b1,0,none⟩))]) (fun x=>[boxA b6 44 [ya yb (0:Int),ya yb (0:Int),ya yb (0:Int),.slice p34 (oc.length) c35],boxA b2 44 [ya yb w,ya yb h,ya yb m,.slice p n cap],boxA b1 30 [ya yb cx,ya yb cy,u1.b,u1.l,v1.b,v1.l,u2.b,u2.l,v2.b,v2.l]]) (fun x=>[slF (rI .i64) p34 c35 oc,eF u1 v1 x1,eF u2 v2 x2,slF (rI .i64) p cap l]) ?_ ?_
    ·
     refine za<|e_mv rfl<|e_mv rfl<|e_p (zra rfl rfl)<|e_mv rfl<|e_ru (zd 0 ty44 rfl rfl (.t4 .nil))<|zL rfl rfl (.c rfl .n) ce23 (zZd (w:=(0:Int)) (h:=(0:Int)) (m:=(0:Int)) (p:=p34) (n:=oc.length) (cap:=c35)) (.n) ?_
     rw [show (decide ((0:Int)=0∧(0:Int)=0∧(0:Int)=0∧oc.length=0))=true from by exact decide_eq_true ⟨by first|rfl|exact if_neg h40,by first|rfl|exact if_neg h40,by first|rfl|exact if_neg h40,by rw [hoc];rfl⟩]
     refine e_p (zk rfl rfl)<|e_p (zb rfl)<|zh ?_
     exact zca () (show True from by first|trivial|omega|simp_all) ((.of rfl):SubM _ _) (ho:=((.of [0,0,0] rfl):PickO _ _ _)) ((.of [0,1,2,3] rfl):SelR _ _ _)
    ·
     rintro ⟨⟩ -
     try dsimp only
     refine zD<|zn ?_
     exact zy yf () trivial (zo rfl) rfl (ho:=(.n:PickO _ _ _)) (.n:SelR _ _ _)
end Go.Proofs.YtkohlohbogpooaaGreat.Sp
namespace Go.Proofs.YtkohlohbogpooaaGreat.Sp
open Go
set_option linter.unusedVariables false
theorem eF_of {g:Hp} {s t:Bool} {p1 p2:Option Addr} {c1 c2:Nat} {la lb:List Int} (ha:Sl (rI .u32) g p1 c1 la) (hb:Sl (rI .u32) g p2 c2 lb) (k1:la.length≤1099511627776) (k2:lb.length≤1099511627776):
    (eF ⟨s,p1,la.length,c1⟩ ⟨t,p2,lb.length,c2⟩ (qo ((s,la),(t,lb)))).on g:=⟨((s,la),(t,lb)),⟨rfl,rfl,k1,ha⟩,⟨rfl,rfl,k2,hb⟩,rfl⟩
theorem mz_raw1 {x:(Bool×List Int)×(Bool×List Int)} {n:Nat} (h:(fun z:(Bool×List Int)×(Bool×List Int)=>(fun z:Bool×List Int=>(fun _:Bool=>1) z.1+mzL (fun _:Int=>1) z.2) z.1+(fun z:Bool×List Int=>(fun _:Bool=>1) z.1+mzL (fun _:Int=>1) z.2) z.2) x≤n):x.1.2.length≤n∧x.2.2.length≤n:=by
  have q1:=mzL_len (mz:=fun _:Int=>1) (l:=x.1.2) (fun _=>Nat.le_refl 1)
  have q2:=mzL_len (mz:=fun _:Int=>1) (l:=x.2.2) (fun _=>Nat.le_refl 1)
  simp only at h
  omega
end Go.Proofs.YtkohlohbogpooaaGreat.Sp
