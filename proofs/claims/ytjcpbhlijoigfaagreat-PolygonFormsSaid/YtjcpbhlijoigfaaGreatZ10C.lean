/- Lemmas on the walk and plain lemmas that the claim of this folder uses; each states its own conditions. Lines were printed by a program of ours. -/
import Derived.Test.YtjcpbhlijoigfaaGreatZ10B
set_option linter.unusedVariables false
set_option linter.unusedSimpArgs false
set_option linter.unusedSectionVars false
open Go.Proofs.Tryz renaming underlying22 → ya, underlying98 → yb, underlying96 → yc, underlying30 → yd, prog → ye, underlying95 → yf, results15 → yg, results76 → yh, underlying54 → yi, results16 → yj, results17 → yk, results53 → yl
namespace Go.Proofs.YtjcpbhlijoigfaaGreat.Sp
open Go
set_option linter.unusedVariables false
set_option maxRecDepth 100000
set_option maxHeartbeats 8000000
theorem zyb {p:Option Addr} {n:Nat} {cap:Nat} {l:List Pg.P2} (hn:l.length=n):Con ye 15 [.slice p n cap] [] [slF (rI2 .i64) p cap l] (Y:=Unit) (fun y=>True) (fun y=> .int .i64 (Pg.ck l)) (fun y=>[]) (fun y=>[]):=by
 refine zm Tryz.func15 rfl rfl rfl (fun c=> ?_)
 show RunC _ _ _ _ _ [(0,.slice p n cap)] [] [slF (rI2 .i64) p cap l]
 refine zba 0 rfl (fun hL0=> ?_)
 refine zg<|za<|e_p (zb rfl)<|zh<|zd<|zg<|za<|e_mv rfl<|e_p (zN ya rfl)<|e_p (zb rfl)<|zh<|zd<|zg<|zEa (X:=Unit) (fun x=>True) (fun x=>[(18,.bool (decide ((((n:Nat):Int)<3)∨(64<((n:Nat):Int))))),(3,.int .i64 ((n:Nat):Int)),(2,.int .i64 0),(0,.slice p n cap)]) (fun x=>[]) (fun x=>[slF (rI2 .i64) p cap l]) ?_ ?_
 ·
  refine za<|e_mv rfl<|e_p (zY rfl rfl)<|zaa rfl rfl (zX rfl) (fun h1=> ?_) (fun h1=> ?_)
  ·
   refine e_no<|e_no<|e_p (zo rfl rfl)<|zh ?_
   exact zga () (show True from by first|trivial|omega|simp_all) ((.e rfl (congrArg Value.bool cbu) (.of rfl)):SubM _ _) (ho:=(.n:PickO _ _ _)) ((.c (j:=0) rfl .n):SelR _ _ _)
  ·
   refine e_mv rfl<|e_p (zAa rfl rfl)<|e_p (zo rfl rfl)<|zh ?_
   exact zga () (show True from by first|trivial|omega|simp_all) ((.e rfl (congrArg Value.bool cbu) (.of rfl)):SubM _ _) (ho:=(.n:PickO _ _ _)) ((.c (j:=0) rfl .n):SelR _ _ _)
 ·
  rintro ⟨⟩ -
  try dsimp only
  refine zC rfl (fun hlim=> ?_) (fun hlim=> ?_)
  ·
   refine zg<|za<|e_p (zb rfl)<|zh<|zd<|zH<|zi ?_
   exact zy yg () trivial (zl rfl) (by rw [Pg.ck_lim om]) (ho:=(.n:PickO _ _ _)) (.n:SelR _ _ _)
  ·
   have hlm:¬(l.length<3∨64<l.length):=by omega
   refine zA<|zd<|zg<|zg<|za<|e_mv rfl<|e_p (zN ya rfl)<|e_mv rfl<|zh<|zd<|zB<|zka (X:=Nat) (fun x:Nat=>x≤n∧Pg.ck1 (l.take x) (l.drop x)=Pg.ck1 [] l) (fun x=>[(21,.int .i64 ((x:Nat):Int)),(20,.int .i64 ((n:Nat):Int)),(19,.slice p n cap),(3,.int .i64 ((n:Nat):Int)),(0,.slice p n cap)]) (fun x=>[]) (fun x=>[slF (rI2 .i64) p cap l]) (fun x:Nat=>n - x) 0 (show 0≤n∧Pg.ck1 (l.take 0) (l.drop 0)=Pg.ck1 [] l from by exact ⟨Nat.zero_le _,rfl⟩) ((.e rfl (by first|rfl|(congr 1;omega)|simp_all) (.of rfl)):SubM _ _) (ho:=(.n:PickO _ _ _)) ((.c (j:=0) rfl .n):SelR _ _ _) ?_
   rintro i hI
   replace hI:i≤n∧Pg.ck1 (l.take i) (l.drop i)=Pg.ck1 [] l:=hI
   try dsimp only
   obtain ⟨hi,hck⟩:=hI
   refine zg<|za<|e_p (zY rfl rfl)<|zh<|zd<|zg<|zC rfl (fun h2=> ?_) (fun h2=> ?_)
   ·
    have hnp:0<n:=by omega
    have hg64: -9223372036854775808≤0:=by omega
    refine zA<|zd<|zg<|zB<|zg<|za<|e_mv rfl<|zP (x0:=(l.getD i (0,0))) 0 i rfl ya sz30 rfl rfl rfl cbs rfl rfl (gD (d:=(0,0)) om) (fun b3 o4 hok5=> ?_)
    obtain ⟨hok5x,hok5y⟩:=hok5
    replace hok5x:=zD.1 hok5x
    replace hok5y:=zD.1 hok5y
    refine e_ru (zq (j:=0) 0 ty30 rfl rfl rfl (.t2 .nil))<|zM rfl rfl (zn zr30 rfl) (fun b6=> ?_)
    refine e_p (zb rfl)<|zk 0 rfl rfl rfl rfl rfl sz30 rfl (.t2 .nil) .z<|zh<|zd<|zg<|zg<|za<|e_ru (zc 0 ty30 rfl rfl (.t2 .nil))<|zL rfl rfl (.c rfl .n) ce46 (zmc (ex:=(l.getD i (0,0)).1) (ey:=(l.getD i (0,0)).2) (hwex:=cbo) (hwey:=cbo)) (.n)<|zh<|zd<|zob rfl (fun hfar=> ?_) (fun hfar=> ?_)
    ·
     refine zg<|za<|e_p (zb rfl)<|zh<|zd<|zH<|zi<|zp<|zi<|zi<|zp<|zi ?_
     exact zy yg () trivial (zl rfl) (by rw [Pg.ck_one hlm (by rw [← hck,Pg.ck1_far om hfar];decide),←hck,Pg.ck1_far om hfar]) (ho:=(.n:PickO _ _ _)) (.n:SelR _ _ _)
    ·
     refine zA<|zd<|zg<|zW (OW:=[]) (O:=[boxA b6 30 [.int .i64 ((l.getD i (0,0)).1),.int .i64 ((l.getD i (0,0)).2)]]) 100000 mixed (.then (.block (.then (.then (.block (.then .ret)))))) kr<|e_dm 0 rfl rfl rfl<|e_dm 1 rfl rfl rfl<|e_pv 2 rfl rfl (zwb (hi:=i) ya sz30 rfl (.s rfl) (.inr ⟨_,rfl⟩) om)<|zKb (zjc 1 rfl i om) (fun _ _=> ?_)
     refine e_u 3 rfl rfl (zc 0 ty30 rfl rfl (.t2 .nil))<|e_one 4 (zpa rfl rfl rfl rfl (.c rfl (.c rfl .n)) ce49 (zyg (p:=p) (n:=i) (cap:=cap) (l:=(l.take i)) (ex:=(l.getD i (0,0)).1) (ey:=(l.getD i (0,0)).2) (hn:=by first|rfl|assumption|(rw [List.length_take];omega))) (.c (j:=0) rfl .n) ?_)
     refine zT kr<|zd<|zC rfl (fun hdup=> ?_) (fun hdup=> ?_)
     ·
      refine zg<|za<|e_p (zb rfl)<|zh<|zd<|zH<|zp<|zi<|zi<|zp<|zi ?_
      exact zy yg () trivial (zl rfl) (by rw [Pg.ck_one hlm (by rw [← hck,Pg.ck1_dup om hfar hdup];decide),←hck,Pg.ck1_dup om hfar hdup]) (ho:=(.n:PickO _ _ _)) (.n:SelR _ _ _)
     ·
      refine zA<|zO<|zd<|za<|e_p (zI (z:=(((i+1):Nat):Int)) rfl rfl (w64 om))<|e_mv rfl<|zh<|zda (i+1) (show (i+1)≤n∧Pg.ck1 (l.take (i+1)) (l.drop (i+1))=Pg.ck1 [] l from by exact ⟨by omega,(Pg.ck1_go om hfar hdup).trans hck⟩) (by show n - (i+1)<n - i;omega) ((.of rfl):SubM _ _) (ho:=(.n:PickO _ _ _)) ((.c (j:=2) rfl .n):SelR _ _ _)
   ·
    have hz1:Pg.ck1 [] l=0:=by rw [← hck];exact Pg.ck1_end om
    have hrng:=Pg.ck1_zero hz1
    refine zja<|zj<|zj<|zt<|zd<|zg<|zg<|za<|e_mv rfl<|e_p (zN ya rfl)<|e_mv rfl<|zh<|zd<|zB<|zka (X:=Nat) (fun x:Nat=>x≤n∧∀w,w<x→Pg.smI n l w) (fun x=>[(36,.int .i64 ((x:Nat):Int)),(35,.int .i64 ((n:Nat):Int)),(3,.int .i64 ((n:Nat):Int)),(0,.slice p n cap)]) (fun x=>[]) (fun x=>[slF (rI2 .i64) p cap l]) (fun x:Nat=>n - x) 0 (show 0≤n∧∀w,w<0→Pg.smI n l w from by exact ⟨Nat.zero_le _,fun w h=>by omega⟩) ((.e rfl (by first|rfl|(congr 1;omega)|simp_all) (.of rfl)):SubM _ _) (ho:=(.n:PickO _ _ _)) ((.c (j:=0) rfl .n):SelR _ _ _) ?_
    rintro k hI
    replace hI:k≤n∧∀w,w<k→Pg.smI n l w:=hI
    try dsimp only
    obtain ⟨hk,hall⟩:=hI
    refine zg<|za<|e_p (zY rfl rfl)<|zh<|zd<|zg<|zC rfl (fun h7=> ?_) (fun h7=> ?_)
    ·
     have hm1:(k+1)%n<n:=Nat.mod_lt _ om
     have hm2:(k+2)%n<n:=Nat.mod_lt _ om
     have hg0:Pg.inR (l.getD k (0,0)):=Pg.Ok.gt hrng om
     have hg1:Pg.inR (l.getD ((k+1)%n) (0,0)):=Pg.Ok.gt hrng (by rw [hn];exact Nat.mod_lt _ om)
     have hg2:Pg.inR (l.getD ((k+2)%n) (0,0)):=Pg.Ok.gt hrng (by rw [hn];exact Nat.mod_lt _ om)
     refine zA<|zd<|zg<|zB<|zg<|za<|e_mv rfl<|e_p (zb rfl)<|zh<|zd<|zg<|zW (OW:=[]) (O:=[]) 21 mixed (.then (.block (.then (.then (.block (.then .ret)))))) kr<|e_dm 0 rfl rfl rfl<|e_dm 1 rfl rfl rfl<|zZ (x0:=(l.getD k (0,0))) 2 rfl rfl kr kr 0 k rfl ya sz30 rfl rfl rfl cbs rfl rfl (gD (d:=(0,0)) om) (fun b8 o9 hok10=> ?_)
     obtain ⟨hok10x,hok10y⟩:=hok10
     replace hok10x:=zD.1 hok10x
     replace hok10y:=zD.1 hok10y
     refine e_u 3 rfl rfl (zq (j:=0) 0 ty30 rfl rfl rfl (.t2 .nil))<|e_dm 4 rfl rfl rfl<|e_dm 5 rfl rfl rfl<|e_pv 6 rfl rfl (zI (z:=(((k+1):Nat):Int)) rfl rfl (w64 om))<|e_dm 7 rfl rfl rfl<|e_pv 8 rfl rfl (zwa (z:=((((k+1)%n):Nat):Int)) rfl rfl om (remN om om))<|zZ (x0:=(l.getD ((k+1)%n) (0,0))) 9 rfl rfl kr kr 1 ((k+1)%n) rfl ya sz30 rfl rfl rfl cbs rfl rfl (gD (d:=(0,0)) om) (fun b11 o12 hok13=> ?_)
     obtain ⟨hok13x,hok13y⟩:=hok13
     replace hok13x:=zD.1 hok13x
     replace hok13y:=zD.1 hok13y
     refine e_u 10 rfl rfl (zq (j:=0) 0 ty30 rfl rfl rfl (.t2 .nil))<|e_dm 11 rfl rfl rfl<|e_dm 12 rfl rfl rfl<|e_pv 13 rfl rfl (zI (z:=(((k+2):Nat):Int)) rfl rfl (w64 om))<|e_dm 14 rfl rfl rfl<|e_pv 15 rfl rfl (zwa (z:=((((k+2)%n):Nat):Int)) rfl rfl om (remN om om))<|zZ (x0:=(l.getD ((k+2)%n) (0,0))) 16 rfl rfl kr kr 2 ((k+2)%n) rfl ya sz30 rfl rfl rfl cbs rfl rfl (gD (d:=(0,0)) om) (fun b14 o15 hok16=> ?_)
     obtain ⟨hok16x,hok16y⟩:=hok16
     replace hok16x:=zD.1 hok16x
     replace hok16y:=zD.1 hok16y
     refine e_u 17 rfl rfl (zq (j:=0) 0 ty30 rfl rfl rfl (.t2 .nil))<|zUc (m':=[(56,.agg #[.int .i64 ((l.getD ((k+2)%n) (0,0)).1),.int .i64 ((l.getD ((k+2)%n) (0,0)).2)]),(49,.agg #[.int .i64 ((l.getD ((k+1)%n) (0,0)).1),.int .i64 ((l.getD ((k+1)%n) (0,0)).2)]),(42,.agg #[.int .i64 ((l.getD k (0,0)).1),.int .i64 ((l.getD k (0,0)).2)]),(6,.int .i64 ((k:Nat):Int)),(36,.int .i64 ((k:Nat):Int)),(35,.int .i64 ((n:Nat):Int)),(3,.int .i64 ((n:Nat):Int)),(0,.slice p n cap)]) (R':=[slF (rI2 .i64) p cap l]) ((.of rfl):SubM _ _) (List.Perm.refl _) (List.Perm.refl _) ((.c (j:=3) rfl .n):SelR _ _ _) ?_
     obtain ⟨qd1,hqd1⟩:∃z:Int,z=(l.getD ((k+2)%n) (0,0)).1:=⟨_,rfl⟩
     rw [← hqd1]
     obtain ⟨qd2,hqd2⟩:∃z:Int,z=(l.getD ((k+2)%n) (0,0)).2:=⟨_,rfl⟩
     rw [← hqd2]
     obtain ⟨qd3,hqd3⟩:∃z:Int,z=(l.getD ((k+1)%n) (0,0)).1:=⟨_,rfl⟩
     rw [← hqd3]
     obtain ⟨qd4,hqd4⟩:∃z:Int,z=(l.getD ((k+1)%n) (0,0)).2:=⟨_,rfl⟩
     rw [← hqd4]
     refine zna (X:=Nat×Nat×Nat) (k':=0) (L':=(lb 24 16777215)) (fun (u18_1,u19_1,u20_1)=>([(9,.pointer (some ⟨u20_1,0,none⟩)),(8,.pointer (some ⟨u19_1,0,none⟩)),(7,.pointer (some ⟨u18_1,0,none⟩)),(6,.int .i64 ((k:Nat):Int)),(36,.int .i64 ((k:Nat):Int)),(35,.int .i64 ((n:Nat):Int)),(3,.int .i64 ((n:Nat):Int)),(0,.slice p n cap)],[boxA u20_1 30 [.int .i64 qd1,.int .i64 qd2],boxA u19_1 30 [.int .i64 qd3,.int .i64 qd4],boxA u18_1 30 [.int .i64 ((l.getD k (0,0)).1),.int .i64 ((l.getD k (0,0)).2)]],[],[slF (rI2 .i64) p cap l])) ?_ (fun hD0=> ?_)
     ·
      rintro ⟨u18_1,u19_1,u20_1⟩
      dsimp only
      refine zT kr ?_
      subst hqd1 hqd2 hqd3 hqd4
      refine zd<|zg<|zEa (X:=Unit) (fun x=>True) (fun x=>[(66,.bool (decide ((Pg.onS (((l.getD k (0,0)).1),((l.getD k (0,0)).2)) (((l.getD ((k+1)%n) (0,0)).1),((l.getD ((k+1)%n) (0,0)).2)) (((l.getD ((k+2)%n) (0,0)).1),((l.getD ((k+2)%n) (0,0)).2)))∨(Pg.onS (((l.getD ((k+1)%n) (0,0)).1),((l.getD ((k+1)%n) (0,0)).2)) (((l.getD ((k+2)%n) (0,0)).1),((l.getD ((k+2)%n) (0,0)).2)) (((l.getD k (0,0)).1),((l.getD k (0,0)).2)))))),(8,.pointer (some ⟨u19_1,0,none⟩)),(7,.pointer (some ⟨u18_1,0,none⟩)),(6,.int .i64 ((k:Nat):Int)),(36,.int .i64 ((k:Nat):Int)),(35,.int .i64 ((n:Nat):Int)),(3,.int .i64 ((n:Nat):Int)),(0,.slice p n cap)]) (fun x=>[boxA u20_1 30 [.int .i64 ((l.getD ((k+2)%n) (0,0)).1),.int .i64 ((l.getD ((k+2)%n) (0,0)).2)],boxA u19_1 30 [.int .i64 ((l.getD ((k+1)%n) (0,0)).1),.int .i64 ((l.getD ((k+1)%n) (0,0)).2)],boxA u18_1 30 [.int .i64 ((l.getD k (0,0)).1),.int .i64 ((l.getD k (0,0)).2)]]) (fun x=>[slF (rI2 .i64) p cap l]) ?_ ?_
      ·
       refine za<|e_ru (zc 2 ty30 rfl rfl (.t2 .nil))<|e_ru (zc 1 ty30 rfl rfl (.t2 .nil))<|e_ru (zc 0 ty30 rfl rfl (.t2 .nil))<|zL rfl rfl (.c rfl (.c rfl (.c rfl .n))) ce50 (zbc (ex:=(l.getD k (0,0)).1) (ey:=(l.getD k (0,0)).2) (fx:=((l.getD ((k+1)%n) (0,0)).1)) (fy:=((l.getD ((k+1)%n) (0,0)).2)) (gx:=((l.getD ((k+2)%n) (0,0)).1)) (gy:=((l.getD ((k+2)%n) (0,0)).2)) (hre:=cbo) (hrf:=cbo) (hrg:=cbo)) (.n)<|zaa rfl rfl (zX rfl) (fun h17=> ?_) (fun h17=> ?_)
       ·
        refine e_no<|e_no<|e_no<|e_no<|e_p (zo rfl rfl)<|zh ?_
        exact zga () (show True from by first|trivial|omega|simp_all) ((.e rfl (congrArg Value.bool cbu) (.of rfl)):SubM _ _) (ho:=((.of [0,0,0] rfl):PickO _ _ _)) ((.c (j:=0) rfl .n):SelR _ _ _)
       ·
        refine e_ru (zc 1 ty30 rfl rfl (.t2 .nil))<|e_ru (zc 0 ty30 rfl rfl (.t2 .nil))<|e_ru (zc 2 ty30 rfl rfl (.t2 .nil))<|zL rfl rfl (.c rfl (.c rfl (.c rfl .n))) ce50 (zbc (ex:=((l.getD ((k+1)%n) (0,0)).1)) (ey:=((l.getD ((k+1)%n) (0,0)).2)) (fx:=((l.getD ((k+2)%n) (0,0)).1)) (fy:=((l.getD ((k+2)%n) (0,0)).2)) (gx:=(l.getD k (0,0)).1) (gy:=(l.getD k (0,0)).2) (hre:=cbo) (hrf:=cbo) (hrg:=cbo)) (.n)<|e_p (zo rfl rfl)<|zh ?_
        exact zga () (show True from by first|trivial|omega|simp_all) ((.e rfl (congrArg Value.bool cbu) (.of rfl)):SubM _ _) (ho:=((.of [0,0,0] rfl):PickO _ _ _)) ((.c (j:=0) rfl .n):SelR _ _ _)
      ·
       rintro ⟨⟩ -
       try dsimp only
       refine zC rfl (fun hA=> ?_) (fun hA=> ?_)
       ·
        refine zg<|za<|e_p (zb rfl)<|zh<|zd<|zH<|zi<|zp<|zi<|zi<|zp<|zi ?_
        exact zy yg () trivial (zl rfl) (by rw [Pg.ck_two hlm hz1 (fun h=>((Pg.smp_n hn).1 h k om).1 hA)]) (ho:=(.n:PickO _ _ _)) (.n:SelR _ _ _)
       ·
        refine zA<|zd<|zg<|za<|e_mv rfl<|e_p (zI (z:=(((k+2):Nat):Int)) rfl rfl (w64 om))<|e_p (zb rfl)<|zh<|zd<|zB<|zka (X:=Nat) (fun x:Nat=>k+2≤x∧∀w,w<x→¬Pg.smB n l k w) (fun x=>[(10,.int .i64 ((x:Nat):Int)),(8,.pointer (some ⟨u19_1,0,none⟩)),(7,.pointer (some ⟨u18_1,0,none⟩)),(6,.int .i64 ((k:Nat):Int)),(36,.int .i64 ((k:Nat):Int)),(35,.int .i64 ((n:Nat):Int)),(3,.int .i64 ((n:Nat):Int)),(0,.slice p n cap)]) (fun x=>[boxA u20_1 30 [.int .i64 ((l.getD ((k+2)%n) (0,0)).1),.int .i64 ((l.getD ((k+2)%n) (0,0)).2)],boxA u19_1 30 [.int .i64 ((l.getD ((k+1)%n) (0,0)).1),.int .i64 ((l.getD ((k+1)%n) (0,0)).2)],boxA u18_1 30 [.int .i64 ((l.getD k (0,0)).1),.int .i64 ((l.getD k (0,0)).2)]]) (fun x=>[slF (rI2 .i64) p cap l]) (fun x:Nat=>n - x) (k+2) (show k+2≤(k+2)∧∀w,w<(k+2)→¬Pg.smB n l k w from by exact ⟨Nat.le_refl _,fun w hw hb=>by have:=hb.1;omega⟩) ((.of rfl):SubM _ _) (ho:=((.of [0,0,0] rfl):PickO _ _ _)) ((.c (j:=0) rfl .n):SelR _ _ _) ?_
        rintro j hJ
        replace hJ:k+2≤j∧∀w,w<j→¬Pg.smB n l k w:=hJ
        try dsimp only
        obtain ⟨hj2,hB2⟩:=hJ
        refine zg<|zg<|za<|e_mv rfl<|e_mv rfl<|e_p (zY rfl rfl)<|zh<|zd<|zC rfl (fun h18=> ?_) (fun h18=> ?_)
        ·
         have hm3:(j+1)%n<n:=Nat.mod_lt _ om
         obtain ⟨hg3,hg4⟩:Pg.inR (l.getD j (0,0))∧Pg.inR (l.getD ((j+1)%n) (0,0)):=⟨Pg.Ok.gt hrng om,Pg.Ok.gt hrng (by rw [hn];exact Nat.mod_lt _ om)⟩
         refine zA<|zd<|zg<|zB<|zEa (X:=Unit) (fun x=>True) (fun x=>[(95,.bool (decide ((((((j+1)%n):Nat):Int)≠((k:Nat):Int))∧(Pg.mt (((l.getD k (0,0)).1),((l.getD k (0,0)).2)) (((l.getD ((k+1)%n) (0,0)).1),((l.getD ((k+1)%n) (0,0)).2)) (((l.getD j (0,0)).1),((l.getD j (0,0)).2)) (((l.getD ((j+1)%n) (0,0)).1),((l.getD ((j+1)%n) (0,0)).2)))))),(10,.int .i64 ((j:Nat):Int)),(8,.pointer (some ⟨u19_1,0,none⟩)),(7,.pointer (some ⟨u18_1,0,none⟩)),(6,.int .i64 ((k:Nat):Int)),(36,.int .i64 ((k:Nat):Int)),(35,.int .i64 ((n:Nat):Int)),(3,.int .i64 ((n:Nat):Int)),(0,.slice p n cap)]) (fun x=>[boxA u20_1 30 [.int .i64 ((l.getD ((k+2)%n) (0,0)).1),.int .i64 ((l.getD ((k+2)%n) (0,0)).2)],boxA u19_1 30 [.int .i64 ((l.getD ((k+1)%n) (0,0)).1),.int .i64 ((l.getD ((k+1)%n) (0,0)).2)],boxA u18_1 30 [.int .i64 ((l.getD k (0,0)).1),.int .i64 ((l.getD k (0,0)).2)]]) (fun x=>[slF (rI2 .i64) p cap l]) ?_ ?_
         ·
          refine zW (OW:=[]) (O:=[boxA u20_1 30 [.int .i64 ((l.getD ((k+2)%n) (0,0)).1),.int .i64 ((l.getD ((k+2)%n) (0,0)).2)],boxA u19_1 30 [.int .i64 ((l.getD ((k+1)%n) (0,0)).1),.int .i64 ((l.getD ((k+1)%n) (0,0)).2)],boxA u18_1 30 [.int .i64 ((l.getD k (0,0)).1),.int .i64 ((l.getD k (0,0)).2)]]) 100000 mixed (.then (.block (.then (.then (.block (.block (.then (.then (.block (.then .ret)))))))))) kr<|e_dm 0 rfl rfl rfl<|e_pv 1 rfl rfl (zI (z:=(((j+1):Nat):Int)) rfl rfl (w64 om))<|e_dm 2 rfl rfl rfl<|e_pv 3 rfl rfl (zwa (z:=((((j+1)%n):Nat):Int)) rfl rfl om (remN om om))<|e_dm 4 rfl rfl rfl<|e_pv 5 rfl rfl (zMa rfl rfl)<|zDb 6 rfl rfl kr kr rfl rfl (zX rfl) (fun h19=> ?_) (fun h19=> ?_)
          ·
           refine e_u 7 rfl rfl (zc 2 ty30 rfl rfl (.t2 .nil))<|e_u 8 rfl rfl (zc 1 ty30 rfl rfl (.t2 .nil))<|e_dm 9 rfl rfl rfl<|e_dm 10 rfl rfl rfl<|zZ (x0:=(l.getD j (0,0))) 11 rfl rfl kr kr 0 j rfl ya sz30 rfl rfl rfl cbs rfl rfl (gD (d:=(0,0)) om) (fun b20 o21 hok22=> ?_)
           obtain ⟨hok22x,hok22y⟩:=hok22
           replace hok22x:=zD.1 hok22x
           replace hok22y:=zD.1 hok22y
           refine e_u 12 rfl rfl (zq (j:=0) 0 ty30 rfl rfl rfl (.t2 .nil))<|e_dm 13 rfl rfl rfl<|e_dm 14 rfl rfl rfl<|e_pv 15 rfl rfl (zI (z:=(((j+1):Nat):Int)) rfl rfl (w64 om))<|e_dm 16 rfl rfl rfl<|e_pv 17 rfl rfl (zwa (z:=((((j+1)%n):Nat):Int)) rfl rfl om (remN om om))<|zZ (x0:=(l.getD ((j+1)%n) (0,0))) 18 rfl rfl kr kr 1 ((j+1)%n) rfl ya sz30 rfl rfl rfl cbs rfl rfl (gD (d:=(0,0)) om) (fun b23 o24 hok25=> ?_)
           obtain ⟨hok25x,hok25y⟩:=hok25
           replace hok25x:=zD.1 hok25x
           replace hok25y:=zD.1 hok25y
           refine e_u 19 rfl rfl (zq (j:=0) 0 ty30 rfl rfl rfl (.t2 .nil))<|e_one 20 (zpa rfl rfl rfl rfl (.c rfl (.c rfl (.c rfl (.c rfl .n)))) ce51 (zyf (ex:=(l.getD k (0,0)).1) (ey:=(l.getD k (0,0)).2) (fx:=((l.getD ((k+1)%n) (0,0)).1)) (fy:=((l.getD ((k+1)%n) (0,0)).2)) (gx:=(l.getD j (0,0)).1) (gy:=(l.getD j (0,0)).2) (hx:=(l.getD ((j+1)%n) (0,0)).1) (hy:=(l.getD ((j+1)%n) (0,0)).2) (hre:=cbo) (hrf:=cbo) (hrg:=cbo) (hrh:=cbo)) (.n) ?_)
           refine e_pv 21 rfl rfl (zo rfl rfl)<|zT kr ?_
           exact zga () (show True from by first|trivial|omega|simp_all) ((.e rfl (congrArg Value.bool cbu) (.of rfl)):SubM _ _) (ho:=((.of [0,0,0] rfl):PickO _ _ _)) ((.c (j:=2) rfl .n):SelR _ _ _)
          ·
           refine e_skip 7 rfl rfl<|e_skip 8 rfl rfl<|e_skip 9 rfl rfl<|e_skip 10 rfl rfl<|e_skip 11 rfl rfl<|e_skip 12 rfl rfl<|e_skip 13 rfl rfl<|e_skip 14 rfl rfl<|e_skip 15 rfl rfl<|e_skip 16 rfl rfl<|e_skip 17 rfl rfl<|e_skip 18 rfl rfl<|e_skip 19 rfl rfl<|e_skip 20 rfl rfl<|e_pv 21 rfl rfl (zo rfl rfl)<|zT kr ?_
           exact zga () (show True from by first|trivial|omega|simp_all) ((.e rfl (congrArg Value.bool cbu) (.of rfl)):SubM _ _) (ho:=((.of [0,0,0] rfl):PickO _ _ _)) ((.c (j:=0) rfl .n):SelR _ _ _)
         ·
          rintro ⟨⟩ -
          try dsimp only
          refine zC rfl (fun hB=> ?_) (fun hB=> ?_)
          ·
           refine zg<|za<|e_p (zb rfl)<|zh<|zd<|zH<|zp<|zi<|zi<|zp<|zp<|zi<|zi<|zp<|zi ?_
           exact zy yg () trivial (zl rfl) (by rw [Pg.ck_two hlm hz1 (fun h=>((Pg.smp_n hn).1 h k om).2 j om ⟨by omega,by omega,hB.2⟩)]) (ho:=(.n:PickO _ _ _)) (.n:SelR _ _ _)
          ·
           refine zA<|zO<|zd<|za<|e_mv rfl<|e_p (zI (z:=(((j+1):Nat):Int)) rfl rfl (w64 om))<|e_p (zb rfl)<|zh<|zda (j+1) (show k+2≤(j+1)∧∀w,w<(j+1)→¬Pg.smB n l k w from by exact ⟨by omega,Ms.all_lt_succ hB2 (fun hb=>hB ⟨by have:=hb.2.1;omega,hb.2.2⟩)⟩) (by show n - (j+1)<n - j;omega) ((.of rfl):SubM _ _) (ho:=((.of [0,0,0] rfl):PickO _ _ _)) ((.c (j:=0) rfl .n):SelR _ _ _)
        ·
         refine zja<|zj<|zj<|zt<|zO<|zd<|za<|e_p (zI (z:=(((k+1):Nat):Int)) rfl rfl (w64 om))<|e_mv rfl<|zh<|zda (k+1) (show (k+1)≤n∧∀w,w<(k+1)→Pg.smI n l w from by exact ⟨by omega,Ms.all_lt_succ hall ⟨hA,fun w hw=>hB2 w om⟩⟩) (by show n - (k+1)<n - k;omega) ((.of rfl):SubM _ _) (ho:=(.n:PickO _ _ _)) ((.c (j:=0) rfl .n):SelR _ _ _)
     refine zna (X:=Nat×Nat×Nat) (k':=1) (L':=(lb 24 8388607)) (fun (u18_1,u19_1,u20_1)=>([(9,.pointer (some ⟨u20_1,0,none⟩)),(8,.pointer (some ⟨u19_1,0,none⟩)),(7,.pointer (some ⟨u18_1,0,none⟩)),(56,.agg #[.int .i64 qd1,.int .i64 qd2]),(6,.int .i64 ((k:Nat):Int)),(36,.int .i64 ((k:Nat):Int)),(35,.int .i64 ((n:Nat):Int)),(3,.int .i64 ((n:Nat):Int)),(0,.slice p n cap)],[boxA u19_1 30 [.int .i64 qd3,.int .i64 qd4],boxA u18_1 30 [.int .i64 ((l.getD k (0,0)).1),.int .i64 ((l.getD k (0,0)).2)],boxA u20_1 30 [.int .i64 0,.int .i64 0]],[],[slF (rI2 .i64) p cap l])) ?_ (fun hD1=> ?_)
     ·
      rintro ⟨u18_1,u19_1,u20_1⟩
      dsimp only
      refine zUa 23 kr ?_
      ·
       refine zNb (zca (i:=2) rfl)<|zv kr rfl rfl rfl rfl rfl sz30 rfl (.t2 .nil) ?_
       exact zU (hD0 (u18_1,u19_1,u20_1)) kr ((.of rfl):SubM _ _) .rfl .rfl ((.c (j:=0) rfl .n):SelR _ _ _)
     refine zna (X:=Nat×Nat×Nat) (k':=2) (L':=(lb 24 4194303)) (fun (u18_1,u19_1,u20_1)=>([(9,.pointer (some ⟨u20_1,0,none⟩)),(8,.pointer (some ⟨u19_1,0,none⟩)),(7,.pointer (some ⟨u18_1,0,none⟩)),(56,.agg #[.int .i64 qd1,.int .i64 qd2]),(49,.agg #[.int .i64 qd3,.int .i64 qd4]),(6,.int .i64 ((k:Nat):Int)),(36,.int .i64 ((k:Nat):Int)),(35,.int .i64 ((n:Nat):Int)),(3,.int .i64 ((n:Nat):Int)),(0,.slice p n cap)],[boxA u18_1 30 [.int .i64 ((l.getD k (0,0)).1),.int .i64 ((l.getD k (0,0)).2)],boxA u20_1 30 [.int .i64 0,.int .i64 0],boxA u19_1 30 [.int .i64 0,.int .i64 0]],[],[slF (rI2 .i64) p cap l])) ?_ (fun hD2=> ?_)
     ·
      rintro ⟨u18_1,u19_1,u20_1⟩
      dsimp only
      refine zUa 22 kr ?_
      ·
       refine zNb (zca (i:=2) rfl)<|zv kr rfl rfl rfl rfl rfl sz30 rfl (.t2 .nil) ?_
       exact zU (hD1 (u18_1,u19_1,u20_1)) kr ((.of rfl):SubM _ _) .rfl .rfl ((.c (j:=0) rfl .n):SelR _ _ _)
     refine zna (X:=Nat×Nat×Nat) (k':=3) (L':=(lb 24 2097151)) (fun (u18_1,u19_1,u20_1)=>([(9,.pointer (some ⟨u20_1,0,none⟩)),(8,.pointer (some ⟨u19_1,0,none⟩)),(7,.pointer (some ⟨u18_1,0,none⟩)),(56,.agg #[.int .i64 qd1,.int .i64 qd2]),(49,.agg #[.int .i64 qd3,.int .i64 qd4]),(42,.agg #[.int .i64 ((l.getD k (0,0)).1),.int .i64 ((l.getD k (0,0)).2)]),(6,.int .i64 ((k:Nat):Int)),(36,.int .i64 ((k:Nat):Int)),(35,.int .i64 ((n:Nat):Int)),(3,.int .i64 ((n:Nat):Int)),(0,.slice p n cap)],[boxA u20_1 30 [.int .i64 0,.int .i64 0],boxA u19_1 30 [.int .i64 0,.int .i64 0],boxA u18_1 30 [.int .i64 0,.int .i64 0]],[],[slF (rI2 .i64) p cap l])) ?_ (fun hD3=> ?_)
     ·
      rintro ⟨u18_1,u19_1,u20_1⟩
      dsimp only
      refine zUa 21 kr ?_
      ·
       refine zNb (zca (i:=2) rfl)<|zv kr rfl rfl rfl rfl rfl sz30 rfl (.t2 .nil) ?_
       exact zU (hD2 (u18_1,u19_1,u20_1)) kr ((.of rfl):SubM _ _) .rfl .rfl ((.c (j:=0) rfl .n):SelR _ _ _)
     refine zna (X:=Nat×Nat) (k':=4) (L':=(lb 24 1048575)) (fun (u18_1,u19_1)=>([(8,.pointer (some ⟨u19_1,0,none⟩)),(7,.pointer (some ⟨u18_1,0,none⟩)),(56,.agg #[.int .i64 qd1,.int .i64 qd2]),(49,.agg #[.int .i64 qd3,.int .i64 qd4]),(42,.agg #[.int .i64 ((l.getD k (0,0)).1),.int .i64 ((l.getD k (0,0)).2)]),(6,.int .i64 ((k:Nat):Int)),(36,.int .i64 ((k:Nat):Int)),(35,.int .i64 ((n:Nat):Int)),(3,.int .i64 ((n:Nat):Int)),(0,.slice p n cap)],[boxA u19_1 30 [.int .i64 0,.int .i64 0],boxA u18_1 30 [.int .i64 0,.int .i64 0]],[],[slF (rI2 .i64) p cap l])) ?_ (fun hD4=> ?_)
     ·
      rintro ⟨u18_1,u19_1⟩
      dsimp only
      refine zUa 20 kr ?_
      ·
       refine zta rfl rfl rfl rfl (zn zr30 rfl) (fun u20_1 _=> ?_)
       exact zU (hD3 (u18_1,u19_1,u20_1)) kr ((.of rfl):SubM _ _) .rfl .rfl ((.c (j:=0) rfl .n):SelR _ _ _)
     refine zna (X:=Nat×Nat) (k':=4) (L':=(lb 24 1572863)) (fun (u18_1,u20_1)=>([(9,.pointer (some ⟨u20_1,0,none⟩)),(7,.pointer (some ⟨u18_1,0,none⟩)),(56,.agg #[.int .i64 qd1,.int .i64 qd2]),(49,.agg #[.int .i64 qd3,.int .i64 qd4]),(42,.agg #[.int .i64 ((l.getD k (0,0)).1),.int .i64 ((l.getD k (0,0)).2)]),(6,.int .i64 ((k:Nat):Int)),(36,.int .i64 ((k:Nat):Int)),(35,.int .i64 ((n:Nat):Int)),(3,.int .i64 ((n:Nat):Int)),(0,.slice p n cap)],[boxA u20_1 30 [.int .i64 0,.int .i64 0],boxA u18_1 30 [.int .i64 0,.int .i64 0]],[],[slF (rI2 .i64) p cap l])) ?_ (fun hD5=> ?_)
     ·
      rintro ⟨u18_1,u20_1⟩
      dsimp only
      refine zUa 19 kr ?_
      ·
       refine zta rfl rfl rfl rfl (zn zr30 rfl) (fun u19_1 _=> ?_)
       exact zU (hD3 (u18_1,u19_1,u20_1)) kr ((.of rfl):SubM _ _) (zDa 1 rfl (zDa 0 rfl (zDa 0 rfl .nil))) .rfl ((.c (j:=0) rfl .n):SelR _ _ _)
     refine zna (X:=Nat×Nat) (k':=4) (L':=(lb 24 1835007)) (fun (u19_1,u20_1)=>([(9,.pointer (some ⟨u20_1,0,none⟩)),(8,.pointer (some ⟨u19_1,0,none⟩)),(56,.agg #[.int .i64 qd1,.int .i64 qd2]),(49,.agg #[.int .i64 qd3,.int .i64 qd4]),(42,.agg #[.int .i64 ((l.getD k (0,0)).1),.int .i64 ((l.getD k (0,0)).2)]),(6,.int .i64 ((k:Nat):Int)),(36,.int .i64 ((k:Nat):Int)),(35,.int .i64 ((n:Nat):Int)),(3,.int .i64 ((n:Nat):Int)),(0,.slice p n cap)],[boxA u20_1 30 [.int .i64 0,.int .i64 0],boxA u19_1 30 [.int .i64 0,.int .i64 0]],[],[slF (rI2 .i64) p cap l])) ?_ (fun hD6=> ?_)
     ·
      rintro ⟨u19_1,u20_1⟩
      dsimp only
      refine zUa 18 kr ?_
      ·
       refine zta rfl rfl rfl rfl (zn zr30 rfl) (fun u18_1 _=> ?_)
       exact zU (hD3 (u18_1,u19_1,u20_1)) kr ((.of rfl):SubM _ _) (zDa 1 rfl (zDa 1 rfl (zDa 0 rfl .nil))) .rfl ((.c (j:=0) rfl .n):SelR _ _ _)
     refine zna (X:=Nat) (k':=5) (L':=(lb 24 524287)) (fun u18_1=>([(7,.pointer (some ⟨u18_1,0,none⟩)),(56,.agg #[.int .i64 qd1,.int .i64 qd2]),(49,.agg #[.int .i64 qd3,.int .i64 qd4]),(42,.agg #[.int .i64 ((l.getD k (0,0)).1),.int .i64 ((l.getD k (0,0)).2)]),(6,.int .i64 ((k:Nat):Int)),(36,.int .i64 ((k:Nat):Int)),(35,.int .i64 ((n:Nat):Int)),(3,.int .i64 ((n:Nat):Int)),(0,.slice p n cap)],[boxA u18_1 30 [.int .i64 0,.int .i64 0]],[],[slF (rI2 .i64) p cap l])) ?_ (fun hD7=> ?_)
     ·
      rintro u18_1
      dsimp only
      refine zLb 19 20 kr ?_ ?_
      ·
       refine zta rfl rfl rfl rfl (zn zr30 rfl) (fun u19_1 _=> ?_)
       exact zU (hD4 (u18_1,u19_1)) kr ((.of rfl):SubM _ _) .rfl .rfl ((.c (j:=0) rfl .n):SelR _ _ _)
      ·
       refine zta rfl rfl rfl rfl (zn zr30 rfl) (fun u20_1 _=> ?_)
       exact zU (hD5 (u18_1,u20_1)) kr ((.of rfl):SubM _ _) .rfl .rfl ((.c (j:=0) rfl .n):SelR _ _ _)
     refine zna (X:=Nat) (k':=5) (L':=(lb 24 786431)) (fun u19_1=>([(8,.pointer (some ⟨u19_1,0,none⟩)),(56,.agg #[.int .i64 qd1,.int .i64 qd2]),(49,.agg #[.int .i64 qd3,.int .i64 qd4]),(42,.agg #[.int .i64 ((l.getD k (0,0)).1),.int .i64 ((l.getD k (0,0)).2)]),(6,.int .i64 ((k:Nat):Int)),(36,.int .i64 ((k:Nat):Int)),(35,.int .i64 ((n:Nat):Int)),(3,.int .i64 ((n:Nat):Int)),(0,.slice p n cap)],[boxA u19_1 30 [.int .i64 0,.int .i64 0]],[],[slF (rI2 .i64) p cap l])) ?_ (fun hD8=> ?_)
     ·
      rintro u19_1
      dsimp only
      refine zLb 18 20 kr ?_ ?_
      ·
       refine zta rfl rfl rfl rfl (zn zr30 rfl) (fun u18_1 _=> ?_)
       exact zU (hD4 (u18_1,u19_1)) kr ((.of rfl):SubM _ _) (zDa 1 rfl (zDa 0 rfl .nil)) .rfl ((.c (j:=0) rfl .n):SelR _ _ _)
      ·
       refine zta rfl rfl rfl rfl (zn zr30 rfl) (fun u20_1 _=> ?_)
       exact zU (hD6 (u19_1,u20_1)) kr ((.of rfl):SubM _ _) .rfl .rfl ((.c (j:=0) rfl .n):SelR _ _ _)
     refine zna (X:=Nat) (k':=5) (L':=(lb 24 1310719)) (fun u20_1=>([(9,.pointer (some ⟨u20_1,0,none⟩)),(56,.agg #[.int .i64 qd1,.int .i64 qd2]),(49,.agg #[.int .i64 qd3,.int .i64 qd4]),(42,.agg #[.int .i64 ((l.getD k (0,0)).1),.int .i64 ((l.getD k (0,0)).2)]),(6,.int .i64 ((k:Nat):Int)),(36,.int .i64 ((k:Nat):Int)),(35,.int .i64 ((n:Nat):Int)),(3,.int .i64 ((n:Nat):Int)),(0,.slice p n cap)],[boxA u20_1 30 [.int .i64 0,.int .i64 0]],[],[slF (rI2 .i64) p cap l])) ?_ (fun hD9=> ?_)
     ·
      rintro u20_1
      dsimp only
      refine zLb 18 19 kr ?_ ?_
      ·
       refine zta rfl rfl rfl rfl (zn zr30 rfl) (fun u18_1 _=> ?_)
       exact zU (hD5 (u18_1,u20_1)) kr ((.of rfl):SubM _ _) (zDa 1 rfl (zDa 0 rfl .nil)) .rfl ((.c (j:=0) rfl .n):SelR _ _ _)
      ·
       refine zta rfl rfl rfl rfl (zn zr30 rfl) (fun u19_1 _=> ?_)
       exact zU (hD6 (u19_1,u20_1)) kr ((.of rfl):SubM _ _) (zDa 1 rfl (zDa 0 rfl .nil)) .rfl ((.c (j:=0) rfl .n):SelR _ _ _)
     refine zud 18 19 20 kr ?_ ?_ ?_
     ·
      refine zta rfl rfl rfl rfl (zn zr30 rfl) (fun u18_1 _=> ?_)
      exact zU (hD7 u18_1) kr ((.of rfl):SubM _ _) .rfl .rfl ((.c (j:=0) rfl .n):SelR _ _ _)
     ·
      refine zta rfl rfl rfl rfl (zn zr30 rfl) (fun u19_1 _=> ?_)
      exact zU (hD8 u19_1) kr ((.of rfl):SubM _ _) .rfl .rfl ((.c (j:=0) rfl .n):SelR _ _ _)
     ·
      refine zta rfl rfl rfl rfl (zn zr30 rfl) (fun u20_1 _=> ?_)
      exact zU (hD9 u20_1) kr ((.of rfl):SubM _ _) .rfl .rfl ((.c (j:=0) rfl .n):SelR _ _ _)
    ·
     refine zja<|zj<|zj<|zt<|zd<|zg<|za<|e_p (zb rfl)<|zh<|zd<|zH ?_
     exact zy yg () trivial (zl rfl) (by rw [Pg.ck_ok hlm hz1 ((Pg.smp_n hn).2 (fun w hw=>hall w om))]) (ho:=(.n:PickO _ _ _)) (.n:SelR _ _ _)
theorem zcc {p:Option Addr} {n:Nat} {cap:Nat} {l:List Pg.P2} (hn:l.length=n) (h64:n≤64) (hrng:∀x∈l,Pg.inR x):Con ye 47 [.slice p n cap] [] [slF (rI2 .i64) p cap l] (Y:=Unit) (fun y=>True) (fun y=> .int .i64 (Pg.db l)) (fun y=>[]) (fun y=>[]):=by
 refine zm Tryz.func47 rfl rfl rfl (fun c=> ?_)
 show RunC _ _ _ _ _ [(0,.slice p n cap)] [] [slF (rI2 .i64) p cap l]
 refine zba 0 rfl (fun hL0=> ?_)
 refine zg<|za<|e_p (zb rfl)<|zh<|zd<|zg<|za<|e_p (zb rfl)<|zh<|zd<|zg<|zg<|za<|e_mv rfl<|e_p (zN ya rfl)<|e_mv rfl<|zh<|zd<|zB<|zka (X:=Nat) (fun x:Nat=>x≤n) (fun x=>[(3,.int .i64 (Pg.dbN n l x)),(9,.int .i64 ((x:Nat):Int)),(8,.int .i64 ((n:Nat):Int)),(7,.slice p n cap),(2,.int .i64 0),(0,.slice p n cap)]) (fun x=>[]) (fun x=>[slF (rI2 .i64) p cap l]) (fun x:Nat=>n - x) 0 (show 0≤n from by exact Nat.zero_le _) ((.e rfl (by first|rfl|(congr 1;omega)|simp_all) (.e rfl (by first|rfl|(congr 1;omega)|simp_all) (.of rfl))):SubM _ _) (ho:=(.n:PickO _ _ _)) ((.c (j:=0) rfl .n):SelR _ _ _) ?_
 rintro k hI
 replace hI:k≤n:=hI
 try dsimp only
 refine zg<|za<|e_p (zY rfl rfl)<|zh<|zd<|zg<|zC rfl (fun h1=> ?_) (fun h1=> ?_)
 ·
  have hm1:(k+1)%n<n:=Nat.mod_lt _ om
  have hg0:Pg.inR (l.getD k (0,0)):=Pg.Ok.gt hrng om
  have hg1:Pg.inR (l.getD ((k+1)%n) (0,0)):=Pg.Ok.gt hrng om
  obtain ⟨hp1,hp2⟩:=Pg.ab hg0 hg1
  have hb1:=Pg.dbN_b hn hrng (i:=k) om
  refine zA<|zd<|zg<|zB<|zg<|za<|e_mv rfl<|zP (x0:=(l.getD k (0,0))) 0 k rfl ya sz30 rfl rfl rfl cbs rfl rfl (gD (d:=(0,0)) om) (fun b2 o3 hok4=> ?_)
  obtain ⟨hok4x,hok4y⟩:=hok4
  replace hok4x:=zD.1 hok4x
  replace hok4y:=zD.1 hok4y
  refine e_ru (zq (j:=0) 0 ty30 rfl rfl rfl (.t2 .nil))<|zM rfl rfl (zn zr30 rfl) (fun b5=> ?_)
  refine e_p (zb rfl)<|zk 0 rfl rfl rfl rfl rfl sz30 rfl (.t2 .nil) .z<|zh<|zd<|zg<|za<|e_mv rfl<|e_mv rfl<|e_p (zI (z:=(((k+1):Nat):Int)) rfl rfl (w64 om))<|e_mv rfl<|e_p (zN ya rfl)<|e_p (zwa (z:=((((k+1)%n):Nat):Int)) rfl rfl om (remN om om))<|zP (x0:=(l.getD ((k+1)%n) (0,0))) 1 ((k+1)%n) rfl ya sz30 rfl rfl rfl cbs rfl rfl (gD (d:=(0,0)) om) (fun b6 o7 hok8=> ?_)
  obtain ⟨hok8x,hok8y⟩:=hok8
  replace hok8x:=zD.1 hok8x
  replace hok8y:=zD.1 hok8y
  refine e_ru (zq (j:=0) 0 ty30 rfl rfl rfl (.t2 .nil))<|zM rfl rfl (zn zr30 rfl) (fun b9=> ?_)
  refine zk 0 rfl rfl rfl rfl rfl sz30 rfl (.t2 .nil) .z<|zh<|zd<|za<|e_mv rfl<|e_p (ze yd rfl sz3 rfl rfl)<|e_ru (zf 1 ty3 rfl rfl rfl)<|e_p (ze yd rfl sz3 rfl rfl)<|e_ru (zf 0 ty3 rfl rfl rfl)<|e_p (zya (z:=((l.getD k (0,0)).1*(l.getD ((k+1)%n) (0,0)).2)) rfl rfl (w64 om))<|e_p (ze yd rfl sz3 rfl rfl)<|e_ru (zf 0 ty3 rfl rfl rfl)<|e_p (ze yd rfl sz3 rfl rfl)<|e_ru (zf 1 ty3 rfl rfl rfl)<|e_p (zya (z:=((l.getD ((k+1)%n) (0,0)).1*(l.getD k (0,0)).2)) rfl rfl (w64 om))<|e_p (zla (z:=(((l.getD k (0,0)).1*(l.getD ((k+1)%n) (0,0)).2) - ((l.getD ((k+1)%n) (0,0)).1*(l.getD k (0,0)).2))) rfl rfl (w64 om))<|e_p (zI (z:=((Pg.dbN n l k)+(((l.getD k (0,0)).1*(l.getD ((k+1)%n) (0,0)).2) - ((l.getD ((k+1)%n) (0,0)).1*(l.getD k (0,0)).2)))) rfl rfl (w64 om))<|e_p (zb rfl)<|zh<|zO<|zd<|za<|e_p (zI (z:=(((k+1):Nat):Int)) rfl rfl (w64 om))<|e_mv rfl<|zh<|zda (k+1) (show (k+1)≤n from by show k+1≤n;omega) (by show n - (k+1)<n - k;omega) ((.e rfl (by first|rfl|(congr 1;omega)|simp_all) (.of rfl)):SubM _ _) (ho:=(.n:PickO _ _ _)) ((.c (j:=2) rfl .n):SelR _ _ _)
 ·
  refine zja<|zj<|zj<|zt<|zd<|zg<|za<|e_mv rfl<|e_p (zb rfl)<|zh<|zd<|zH ?_
  exact zy Tryz.results47 () trivial (zl rfl) (by rw [show k=n by omega,Pg.db,hn]) (ho:=(.n:PickO _ _ _)) (.n:SelR _ _ _)
theorem zbg {p:Option Addr} {n:Nat} {cap:Nat} {l:List Pg.P2} (hn:l.length=n):Con ye 13 [.slice p n cap] [] [slF (rI2 .i64) p cap l] (Y:=Unit) (fun y=>True) (fun y=> .tuple #[.int .i64 (Pg.arV l),.int .i64 (Pg.arC l)]) (fun y=>[]) (fun y=>[]):=by
 refine zm Tryz.func13 rfl rfl rfl (fun c=> ?_)
 show RunC _ _ _ _ _ [(0,.slice p n cap)] [] [slF (rI2 .i64) p cap l]
 refine zba 0 rfl (fun hL0=> ?_)
 refine zg<|za<|e_p (zb rfl)<|e_p (zb rfl)<|zh<|zd<|zg<|zg<|za<|e_mv rfl<|e_p (zN ya rfl)<|e_p (zAa rfl rfl)<|zh<|zd<|zC rfl (fun hlim=> ?_) (fun hlim=> ?_)
 ·
  refine zg<|za<|e_p (zb rfl)<|e_p (zb rfl)<|zh<|zd<|zH<|zi ?_
  obtain ⟨hv1,hv2⟩:=Pg.ar_lim (l:=l) om
  exact zra Tryz.results13 () trivial (zl rfl) (zl rfl) (by rw [hv1,hv2]) (ho:=(.n:PickO _ _ _)) (.n:SelR _ _ _)
 ·
  refine zA<|zd<|zg<|zg<|za<|e_mv rfl<|zL rfl rfl (.c rfl (.c rfl .n)) ce45 (zBf (p:=p) (n:=n) (cap:=cap) (l:=l) (hn:=ass)) (.c (j:=0) rfl .n)<|zh<|zd<|zob rfl (fun hfar=> ?_) (fun hfar=> ?_)
  ·
   refine zg<|za<|e_p (zb rfl)<|e_p (zb rfl)<|zh<|zd<|zH<|zi ?_
   obtain ⟨hv1,hv2⟩:=Pg.ar_far (l:=l) om hfar
   exact zra Tryz.results13 () trivial (zl rfl) (zl rfl) (by rw [hv1,hv2]) (ho:=(.n:PickO _ _ _)) (.n:SelR _ _ _)
  ·
   have hrng:=Pg.any_far (l:=l) (by rw [hfar];decide)
   refine zA<|zd<|zg<|za<|e_mv rfl<|zL rfl rfl (.c rfl .n) ce47 (zcc (p:=p) (n:=n) (cap:=cap) (l:=l) (hn:=ass) (h64:=cbo) (hrng:=cbo)) (.c (j:=0) rfl .n)<|e_p (zb rfl)<|e_p (zb rfl)<|zh<|zd<|zH ?_
   obtain ⟨hv1,hv2⟩:=Pg.ar_ok (l:=l) om (by rw [hfar];decide)
   exact zra Tryz.results13 () trivial (zl rfl) (zl rfl) (by rw [hv1,hv2]) (ho:=(.n:PickO _ _ _)) (.n:SelR _ _ _)
end Go.Proofs.YtjcpbhlijoigfaaGreat.Sp
namespace Go.Proofs.YtjcpbhlijoigfaaGreat.Sp
open Go
set_option linter.unusedVariables false
section
variable {P : Program} {c : Cx} {n : Sz} {Q : Exit → Act → World → Prop} {m : Fm} {O : List As} {R : List Fa} {α : Type} {d : Option Tmp} {ty : TypeId} {ps : String} {af : Array Edge} {gd : Option (Nat × Bool)}
theorem RowOn.drop {T:TypeId} {r:Rp α} {p:Option Addr} {cap:Nat} {l:List α} {g h:Hp} (k:Nat) (hk:k≤l.length) (s:RowOn T r p cap l g h):RowOn T r (newP p cap k r.sz) (cap - k) (l.drop k) g h:=by
  rcases s with ⟨h1,h2,h3,h4⟩|⟨b,off,cells,e1,e2,e3,e4,e5,e6⟩
  · subst h3; simp at hk; subst hk
    exact .inl ⟨by unfold newP;rw [h1];split <;> rfl,by omega,rfl,h4⟩
  · by_cases e : cap = k
    · refine .inr ⟨b, off, cells, by unfold newP; rw [if_pos e, e1], by rw [List.length_drop]; omega, by omega, ?_, e5, fun i x h => ?_⟩
      · rw [e,Nat.sub_self,Nat.zero_mul];omega
      · rw [List.getElem?_drop] at h
        have:=(List.getElem?_eq_some_iff.1 h).1;omega
    · refine .inr ⟨b, off + k * r.sz, cells, ?_, by rw [List.length_drop]; omega, by omega, ?_, e5, fun i x h => ?_⟩
      · unfold newP; rw [if_neg e, e1]
        by_cases z:k*r.sz=0
        · rw [z];simp [Addr.add]
        · simp [Addr.add,z]
      · have : (cap - k) * r.sz + k * r.sz = cap * r.sz := by rw [← Nat.add_mul]; congr 1; omega
        omega
      · rw [List.getElem?_drop] at h
        obtain ⟨γ,a1,a2⟩:=e6 (k+i) x h
        refine ⟨γ,⟨a1.1,fun j v hv=> ?_⟩,a2⟩
        have:=a1.2 j v hv
        rw [Nat.add_mul] at this
        rw [show off+k*r.sz+i*r.sz+j=off+(k*r.sz+i*r.sz)+j by omega];exact this
end
end Go.Proofs.YtjcpbhlijoigfaaGreat.Sp
namespace Go.Proofs.YtjcpbhlijoigfaaGreat.Sp
open Go
set_option linter.unusedVariables false
abbrev Tr:=Option Addr×Nat×Nat
section
variable {P : Program} {c : Cx} {n : Sz} {m : Fm} {O : List As} {R : List Fa} {α : Type} {r : Rp α} {Z : List Tr} {ls : List (List α)} {d : Option Tmp} {ty : TypeId} {ps : String} {af : Array Edge} {gd : Option (Nat × Bool)}
theorem zQ {x:Operand} {b o:Nat} (h:evo m x=some (.pointer (some ⟨b,o,none⟩))):PV P n ⟨d,.nilCheck x,ty,ps,af,gd⟩ m (.pointer (some ⟨b,o,none⟩)):=fun a w f=>by
  simp [execOp,f.ev h]
end
end Go.Proofs.YtjcpbhlijoigfaaGreat.Sp
namespace Go.Proofs.YtjcpbhlijoigfaaGreat.Sp
open Go
set_option linter.unusedVariables false
abbrev nv (x:Nat):Value:= .int .i64 (x:Int)
def rgC (p:Option Addr) (n cap:Nat) (B N:List Nat) (k s:Int):List Value:= .slice p n cap :: (B.map nv++(N.map nv++[.int .i64 k,.int .i64 s]))
section
variable {P : Program} {n : Sz} {m : Fm} {d : Option Tmp} {ty : TypeId} {ps : String} {af : Array Edge} {gd : Option (Nat × Bool)}
theorem zfa {s e:TypeId} {x ix:Operand} {b o len i:Nat} {kk:IntKind} (hu:P.underlying s=some (.array len e)) (ht:(P.info? e).map (·.size)=some 1)
    (h:evo m x=some (.pointer (some ⟨b,o,none⟩))) (hi:evo m ix=some (.int kk (i:Int))) (hl:i<len):PV P n ⟨d,.indexAddr s x ix,ty,ps,af,gd⟩ m (.pointer (some ⟨b,o+i,none⟩)):=zKc hu ht h hi hl (by rw [Nat.mul_one])
end
section
variable {p : Option Addr} {n cap : Nat} {B N : List Nat} {k s : Int} {j x : Nat}
theorem rg_B (hB:B.length=64) (hN:N.length=64) (hj:j<64):(rgC p n cap B N k s)[1+j]? =some (nv (B.getD j 0)):=by
  unfold rgC
  rw [Nat.add_comm,List.getElem?_cons_succ,List.getElem?_append_left (by rw [List.length_map];omega),List.getElem?_map,List.getD_eq_getElem?_getD,List.getElem?_eq_getElem (by omega)]
  rfl
theorem rg_N (hB:B.length=64) (hN:N.length=64) (hj:j<64):(rgC p n cap B N k s)[65+j]? =some (nv (N.getD j 0)):=by
  unfold rgC
  rw [show 65+j=(64+j)+1 by omega,List.getElem?_cons_succ,List.getElem?_append_right (by rw [List.length_map];omega),List.length_map,hB,Nat.add_sub_cancel_left,List.getElem?_append_left (by rw [List.length_map];omega),List.getElem?_map,List.getD_eq_getElem?_getD,List.getElem?_eq_getElem (by omega)]
  rfl
theorem rg_k (hB:B.length=64) (hN:N.length=64):(rgC p n cap B N k s)[129]? =some (.int .i64 k):=by
  unfold rgC
  rw [List.getElem?_cons_succ,List.getElem?_append_right (by rw [List.length_map];omega),List.length_map,hB,List.getElem?_append_right (by rw [List.length_map];omega),List.length_map,hN]
  rfl
theorem rg_s (hB:B.length=64) (hN:N.length=64):(rgC p n cap B N k s)[130]? =some (.int .i64 s):=by
  unfold rgC
  rw [List.getElem?_cons_succ,List.getElem?_append_right (by rw [List.length_map];omega),List.length_map,hB,List.getElem?_append_right (by rw [List.length_map];omega),List.length_map,hN]
  rfl
theorem upd_set {l:List Value} {o:Nat} {v:Value} (h:o<l.length):Upd l o [v] (l.set o v):=by
  refine ⟨h,?_⟩
  rw [List.set_eq_take_append_cons_drop,if_pos h];simp
theorem rg_len (hB:B.length=64) (hN:N.length=64):(rgC p n cap B N k s).length=131:=by unfold rgC;simp [hB,hN]
theorem rg_setB (hB:B.length=64) (hN:N.length=64) (hj:j<64):Upd (rgC p n cap B N k s) (1+j) [nv x] (rgC p n cap (B.set j x) N k s):=by
  have h:=upd_set (l:=rgC p n cap B N k s) (o:=1+j) (v:=nv x) (by rw [rg_len hB hN];omega)
  have e:(rgC p n cap B N k s).set (1+j) (nv x)=rgC p n cap (B.set j x) N k s:=by
    unfold rgC
    rw [Nat.add_comm,List.set_cons_succ,List.set_append_left _ _ (by rw [List.length_map];omega),List.map_set]
  rwa [e] at h
theorem rg_setN (hB:B.length=64) (hN:N.length=64) (hj:j<64):Upd (rgC p n cap B N k s) (65+j) [nv x] (rgC p n cap B (N.set j x) k s):=by
  have h:=upd_set (l:=rgC p n cap B N k s) (o:=65+j) (v:=nv x) (by rw [rg_len hB hN];omega)
  have e:(rgC p n cap B N k s).set (65+j) (nv x)=rgC p n cap B (N.set j x) k s:=by
    unfold rgC
    rw [show 65+j=(64+j)+1 by omega,List.set_cons_succ,List.set_append_right _ _ (by rw [List.length_map];omega),List.length_map,hB,Nat.add_sub_cancel_left,List.set_append_left _ _ (by rw [List.length_map];omega),List.map_set]
  rwa [e] at h
theorem rg_setk {k':Int} (hB:B.length=64) (hN:N.length=64):Upd (rgC p n cap B N k s) 129 [.int .i64 k'] (rgC p n cap B N k' s):=by
  have h:=upd_set (l:=rgC p n cap B N k s) (o:=129) (v:= .int .i64 k') (by rw [rg_len hB hN];omega)
  have e:(rgC p n cap B N k s).set 129 (.int .i64 k')=rgC p n cap B N k' s:=by
    unfold rgC
    rw [List.set_cons_succ,List.set_append_right _ _ (by rw [List.length_map];omega),List.length_map,hB,List.set_append_right _ _ (by rw [List.length_map];omega),List.length_map,hN]
    rfl
  rwa [e] at h
end
theorem rgl {p:Prop} (h:p:=by first|assumption|(simp only [List.length_set];assumption)):p:=h
end Go.Proofs.YtjcpbhlijoigfaaGreat.Sp
namespace Go.Proofs.YtjcpbhlijoigfaaGreat.Sp
open Go
set_option linter.unusedVariables false
set_option maxRecDepth 100000
set_option maxHeartbeats 8000000
theorem zyc {b:Nat} {p:Option Addr} {n:Nat} {cap:Nat} {l:List Pg.P2} {B:List Nat} {N:List Nat} {kk:Int} {s:Int} {L:List Nat} {v:Nat} {i:Nat} (hn:l.length=n) (hg:Pg.Rg n L B N) (hrng:∀x∈l,Pg.inR x) (hs:s=1∨s= -1) (hi:i<L.length) (hv:Pg.nt L i=v):Con ye 82 [.pointer (some ⟨b,0,none⟩),.int .i64 ((v:Nat):Int)] [boxA b 98 (rgC p n cap B N kk s)] [slF (rI2 .i64) p cap l] (Y:=Unit) (fun y=>True) (fun y=> .int .i64 (Pg.corn l s L i)) (fun y=>[boxA b 98 (rgC p n cap B N kk s)]) (fun y=>[]):=by
 refine zm Tryz.func82 rfl rfl rfl (fun c=> ?_)
 show RunC _ _ _ _ _ [(0,.pointer (some ⟨b,0,none⟩)),(1,.int .i64 ((v:Nat):Int))] [boxA b 98 (rgC p n cap B N kk s)] [slF (rI2 .i64) p cap l]
 refine zba 0 rfl (fun hL0=> ?_)
 have hLB:=hg.lb
 have hLN:=hg.ln
 have hn64:=hg.n64
 obtain ⟨hvn,hvN,hvB,hvN2,hvB2⟩:=hg.at hi hv
 have hq0:Pg.inR (l.getD (B.getD v 0) (0,0)):=Pg.Ok.gt hrng om
 have hq1:Pg.inR (l.getD v (0,0)):=Pg.Ok.gt hrng om
 have hq2:Pg.inR (l.getD (N.getD v 0) (0,0)):=Pg.Ok.gt hrng om
 have hsm:=Pg.s_mul (z:=Pg.crs ((l.getD (B.getD v 0) (0,0)).1,(l.getD (B.getD v 0) (0,0)).2) ((l.getD v (0,0)).1,(l.getD v (0,0)).2) ((l.getD (N.getD v 0) (0,0)).1,(l.getD (N.getD v 0) (0,0)).2)) hs
 refine zg<|za<|e_p (zb rfl)<|zh<|zd<|zg<|zW (OW:=[]) (O:=[boxA b 98 (rgC p n cap B N kk s)]) 100000 mixed (.then .ret) kr<|e_dm 0 rfl rfl rfl<|e_pv 1 rfl rfl (zQ rfl)<|e_pv 2 rfl rfl (ze yb rfl sz3 rfl rfl)<|e_u 3 rfl rfl (zf 0 ty3 rfl rfl (rg_s rgl rgl))<|e_dm 4 rfl rfl rfl<|e_pv 5 rfl rfl (zQ rfl)<|e_pv 6 rfl rfl (ze yb rfl sz22 rfl rfl)<|e_u 7 rfl rfl (zf 0 ty22 rfl rfl rfl)<|e_dm 8 rfl rfl rfl<|e_dm 9 rfl rfl rfl<|e_pv 10 rfl rfl (zQ rfl)<|e_pv 11 rfl rfl (ze yb rfl sz96 rfl rfl)<|e_pv 12 rfl rfl (zfa (i:=v) yc sz3 rfl rfl om)<|e_u 13 rfl rfl (zf 0 ty3 rfl rfl (rg_B rgl rgl om))<|zZ (x0:=(l.getD (B.getD v 0) (0,0))) 14 rfl rfl kr kr 0 (B.getD v 0) rfl ya sz30 rfl rfl rfl cbs rfl rfl (gD (d:=(0,0)) om) (fun b1 o2 hok3=> ?_)
 obtain ⟨hok3x,hok3y⟩:=hok3
 replace hok3x:=zD.1 hok3x
 replace hok3y:=zD.1 hok3y
 refine e_u 15 rfl rfl (zq (j:=0) 0 ty30 rfl rfl rfl (.t2 .nil))<|e_dm 16 rfl rfl rfl<|e_pv 17 rfl rfl (zQ rfl)<|e_pv 18 rfl rfl (ze yb rfl sz22 rfl rfl)<|e_u 19 rfl rfl (zf 0 ty22 rfl rfl rfl)<|e_dm 20 rfl rfl rfl<|zZ (x0:=(l.getD v (0,0))) 21 rfl rfl kr kr 1 v rfl ya sz30 rfl rfl rfl cbs rfl rfl (gD (d:=(0,0)) om) (fun b4 o5 hok6=> ?_)
 obtain ⟨hok6x,hok6y⟩:=hok6
 replace hok6x:=zD.1 hok6x
 replace hok6y:=zD.1 hok6y
 refine e_u 22 rfl rfl (zq (j:=0) 0 ty30 rfl rfl rfl (.t2 .nil))<|e_dm 23 rfl rfl rfl<|e_pv 24 rfl rfl (zQ rfl)<|e_pv 25 rfl rfl (ze yb rfl sz22 rfl rfl)<|e_u 26 rfl rfl (zf 0 ty22 rfl rfl rfl)<|e_dm 27 rfl rfl rfl<|e_dm 28 rfl rfl rfl<|e_pv 29 rfl rfl (zQ rfl)<|e_pv 30 rfl rfl (ze yb rfl sz96 rfl rfl)<|e_pv 31 rfl rfl (zfa (i:=v) yc sz3 rfl rfl om)<|e_u 32 rfl rfl (zf 0 ty3 rfl rfl (rg_N rgl rgl om))<|zZ (x0:=(l.getD (N.getD v 0) (0,0))) 33 rfl rfl kr kr 2 (N.getD v 0) rfl ya sz30 rfl rfl rfl cbs rfl rfl (gD (d:=(0,0)) om) (fun b7 o8 hok9=> ?_)
 obtain ⟨hok9x,hok9y⟩:=hok9
 replace hok9x:=zD.1 hok9x
 replace hok9y:=zD.1 hok9y
 refine e_u 34 rfl rfl (zq (j:=0) 0 ty30 rfl rfl rfl (.t2 .nil))<|e_one 35 (zpa rfl rfl rfl rfl (.c rfl (.c rfl (.c rfl .n))) ce54 (zdb (ex:=(l.getD (B.getD v 0) (0,0)).1) (ey:=(l.getD (B.getD v 0) (0,0)).2) (fx:=(l.getD v (0,0)).1) (fy:=(l.getD v (0,0)).2) (gx:=(l.getD (N.getD v 0) (0,0)).1) (gy:=(l.getD (N.getD v 0) (0,0)).2) (hre:=cbo) (hrf:=cbo) (hrg:=cbo)) (.n) ?_)
 refine e_pv 36 rfl rfl (zya (z:=(s*(Pg.crs (((l.getD (B.getD v 0) (0,0)).1),((l.getD (B.getD v 0) (0,0)).2)) (((l.getD v (0,0)).1),((l.getD v (0,0)).2)) (((l.getD (N.getD v 0) (0,0)).1),((l.getD (N.getD v 0) (0,0)).2))).sign)) rfl rfl (w64 om))<|e_pv 37 rfl rfl (zb rfl)<|zT kr<|zd<|zH ?_
 exact zy Tryz.results82 () trivial (zl rfl) (congrArg (Value.int .i64) (by unfold Pg.corn Pg.gt;rw [hv,←hvN,←hvB])) (ho:=((.c (i:=0) rfl .n):PickO _ _ _)) (.n:SelR _ _ _)
theorem zCf {b:Nat} {p:Option Addr} {n:Nat} {cap:Nat} {l:List Pg.P2} {B:List Nat} {N:List Nat} {kk:Int} {s:Int} {L:List Nat} {v:Nat} {i:Nat} (hn:l.length=n) (hg:Pg.Rg n L B N) (hrng:∀x∈l,Pg.inR x) (hs:s=1∨s= -1) (hi:i<L.length) (hv:Pg.nt L i=v) (h2:2≤L.length) (hk0:0≤kk∧kk≤64):Con ye 78 [.pointer (some ⟨b,0,none⟩),.int .i64 ((v:Nat):Int)] [boxA b 98 (rgC p n cap B N kk s)] [slF (rI2 .i64) p cap l] (Y:=Unit) (fun y=>True) (fun y=> .tuple #[]) (fun y=>[boxA b 98 (rgC p n cap (Pg.cutB B N v) (Pg.cutN B N v) (kk - 1) s)]) (fun y=>[]):=by
 refine zm Tryz.func78 rfl rfl rfl (fun c=> ?_)
 show RunC _ _ _ _ _ [(0,.pointer (some ⟨b,0,none⟩)),(1,.int .i64 ((v:Nat):Int))] [boxA b 98 (rgC p n cap B N kk s)] [slF (rI2 .i64) p cap l]
 refine zba 0 rfl (fun hL0=> ?_)
 have hLB:=hg.lb
 have hLN:=hg.ln
 have hn64:=hg.n64
 obtain ⟨hvn,hvN,hvB,hvN2,hvB2⟩:=hg.at hi hv
 have hcv:(Pg.cutN B N v).getD v 0=N.getD v 0:=by have h9:=(hg.cut hi hv h2).ln;exact Pg.cutN_v hg hi hv h2
 have hcv2:(N.set (B.getD v 0) (N.getD v 0)).getD v 0=N.getD v 0:=hcv
 have hcv3:(N.set (B.getD v 0) (N.getD v 0)).getD v 0<64:=by omega
 refine zg<|zW (OW:=[boxA b 98 (rgC p n cap B N kk s)]) (O:=[]) 16 mixed (.then .ret) kr<|e_dm 0 rfl rfl rfl<|e_dm 1 rfl rfl rfl<|e_dm 2 rfl rfl rfl<|e_pv 3 rfl rfl (zQ rfl)<|e_pv 4 rfl rfl (ze yb rfl sz96 rfl rfl)<|e_pv 5 rfl rfl (zfa (i:=v) yc sz3 rfl rfl om)<|e_uw 6 rfl rfl (zf 0 ty3 rfl rfl (rg_B rgl rgl om))<|e_dm 7 rfl rfl rfl<|e_dm 8 rfl rfl rfl<|e_pv 9 rfl rfl (zQ rfl)<|e_pv 10 rfl rfl (ze yb rfl sz96 rfl rfl)<|e_pv 11 rfl rfl (zfa (i:=v) yc sz3 rfl rfl om)<|e_uw 12 rfl rfl (zf 0 ty3 rfl rfl (rg_N rgl rgl om))<|e_pv 13 rfl rfl (zQ rfl)<|e_pv 14 rfl rfl (ze yb rfl sz96 rfl rfl)<|e_pv 15 rfl rfl (zfa (i:=(B.getD v 0)) yc sz3 rfl rfl om)<|e_one 16 (zv kr rfl rfl rfl rfl rfl sz3 rfl (rg_setN (x:=(N.getD v 0)) rgl rgl om) ?_)
 refine zT kr<|zd<|zg<|zW (OW:=[boxA b 98 (rgC p n cap B (N.set (B.getD v 0) (N.getD v 0)) kk s)]) (O:=[]) 16 mixed (.then .ret) kr<|e_dm 0 rfl rfl rfl<|e_dm 1 rfl rfl rfl<|e_dm 2 rfl rfl rfl<|e_pv 3 rfl rfl (zQ rfl)<|e_pv 4 rfl rfl (ze yb rfl sz96 rfl rfl)<|e_pv 5 rfl rfl (zfa (i:=v) yc sz3 rfl rfl om)<|e_uw 6 rfl rfl (zf 0 ty3 rfl rfl (rg_N rgl rgl om))<|e_dm 7 rfl rfl rfl<|e_dm 8 rfl rfl rfl<|e_pv 9 rfl rfl (zQ rfl)<|e_pv 10 rfl rfl (ze yb rfl sz96 rfl rfl)<|e_pv 11 rfl rfl (zfa (i:=v) yc sz3 rfl rfl om)<|e_uw 12 rfl rfl (zf 0 ty3 rfl rfl (rg_B rgl rgl om))<|e_pv 13 rfl rfl (zQ rfl)<|e_pv 14 rfl rfl (ze yb rfl sz96 rfl rfl)<|e_pv 15 rfl rfl (zfa (i:=((N.set (B.getD v 0) (N.getD v 0)).getD v 0)) yc sz3 rfl rfl om)<|e_one 16 (zv kr rfl rfl rfl rfl rfl sz3 rfl (rg_setB (x:=(B.getD v 0)) rgl rgl om) ?_)
 refine zT kr<|zd<|za<|e_mv rfl<|e_p (zQ rfl)<|e_p (ze yb rfl sz3 rfl rfl)<|e_ru (zf 0 ty3 rfl rfl (rg_k rgl rgl))<|e_p (zla (z:=(kk - 1)) rfl rfl (w64 om))<|e_p (zQ rfl)<|e_p (ze yb rfl sz3 rfl rfl)<|zk 0 rfl rfl rfl rfl rfl sz3 rfl (rg_setk rgl rgl) .z<|zh<|p_end ?_
 exact p_ret0 Tryz.results78 () trivial rfl (ho:=((.c (i:=0) rfl .n):PickO _ _ _)) (.n:SelR _ _ _)
theorem zzg {b:Nat} {p:Option Addr} {n:Nat} {cap:Nat} {l:List Pg.P2} {B:List Nat} {N:List Nat} {kk:Int} {s:Int} {L:List Nat} {v:Nat} {i:Nat} (hn:l.length=n) (hg:Pg.Rg n L B N) (hrng:∀x∈l,Pg.inR x) (hs:s=1∨s= -1) (hi:i<L.length) (hv:Pg.nt L i=v) (h3:3≤L.length):Con ye 77 [.pointer (some ⟨b,0,none⟩),.int .i64 ((v:Nat):Int)] [boxA b 98 (rgC p n cap B N kk s)] [slF (rI2 .i64) p cap l] (Y:=Unit) (fun y=>True) (fun y=> .bool (decide (Pg.earI l s L i))) (fun y=>[boxA b 98 (rgC p n cap B N kk s)]) (fun y=>[]):=by
 refine zm Tryz.func77 rfl rfl rfl (fun c=> ?_)
 show RunC _ _ _ _ _ [(0,.pointer (some ⟨b,0,none⟩)),(1,.int .i64 ((v:Nat):Int))] [boxA b 98 (rgC p n cap B N kk s)] [slF (rI2 .i64) p cap l]
 refine zba 0 rfl (fun hL0=> ?_)
 have hLB:=hg.lb
 have hLN:=hg.ln
 have hn64:=hg.n64
 obtain ⟨hvn,hvN,hvB,hvN2,hvB2⟩:=hg.at hi hv
 have hq0:Pg.inR (l.getD (B.getD v 0) (0,0)):=Pg.Ok.gt hrng om
 have hq1:Pg.inR (l.getD v (0,0)):=Pg.Ok.gt hrng om
 have hq2:Pg.inR (l.getD (N.getD v 0) (0,0)):=Pg.Ok.gt hrng om
 have hin3:∀t,Pg.in3I l s L i t↔Pg.in3 s (l.getD (B.getD v 0) (0,0)) (l.getD v (0,0)) (l.getD (N.getD v 0) (0,0)) (l.getD (Pg.nt L ((i+2+t)%L.length)) (0,0)):=fun t=>by unfold Pg.in3I Pg.gt;rw [hv,←hvN,←hvB]
 refine zg<|za<|e_p (zb rfl)<|zh<|zd<|zg<|zg<|za<|e_mv rfl<|e_mv rfl<|zrb (A:=[boxA b 98 (rgC p n cap B N kk s)]) (F:=[]) (first:=[]) (cap:=[]) rfl rfl rfl (.c rfl (.c rfl .n)) ce82 (zyc (b:=b) (p:=p) (n:=n) (cap:=cap) (l:=l) (B:=B) (N:=N) (kk:=kk) (s:=s) (L:=L) (v:=v) (i:=i) (hn:=ass) (hg:=ass) (hrng:=ass) (hs:=ass) (hi:=ass) (hv:=ass)) (.c (j:=0) rfl .n) ?_
 rintro ⟨⟩ -
 dsimp only [aq,nq,cq]
 refine e_p (zVa rfl rfl)<|zh<|zd<|zC rfl (fun hco=> ?_) (fun hco=> ?_)
 ·
  refine zg<|za<|e_p (zb rfl)<|zh<|zd<|zH<|zi ?_
  exact zy Tryz.results77 () trivial (zl rfl) (congrArg Value.bool (decide_eq_false (fun h=>by have:=h.1;omega))) (ho:=((.c (i:=0) rfl .n):PickO _ _ _)) (.n:SelR _ _ _)
 ·
  refine zA<|zd<|zg<|zW (OW:=[]) (O:=[boxA b 98 (rgC p n cap B N kk s)]) 34 mixed (.then .ret) kr<|e_dm 0 rfl rfl rfl<|e_pv 1 rfl rfl (zQ rfl)<|e_pv 2 rfl rfl (ze yb rfl sz22 rfl rfl)<|e_u 3 rfl rfl (zf 0 ty22 rfl rfl rfl)<|e_dm 4 rfl rfl rfl<|e_dm 5 rfl rfl rfl<|e_pv 6 rfl rfl (zQ rfl)<|e_pv 7 rfl rfl (ze yb rfl sz96 rfl rfl)<|e_pv 8 rfl rfl (zfa (i:=v) yc sz3 rfl rfl om)<|e_u 9 rfl rfl (zf 0 ty3 rfl rfl (rg_B rgl rgl om))<|zZ (x0:=(l.getD (B.getD v 0) (0,0))) 10 rfl rfl kr kr 0 (B.getD v 0) rfl ya sz30 rfl rfl rfl cbs rfl rfl (gD (d:=(0,0)) om) (fun b1 o2 hok3=> ?_)
  obtain ⟨hok3x,hok3y⟩:=hok3
  replace hok3x:=zD.1 hok3x
  replace hok3y:=zD.1 hok3y
  refine e_u 11 rfl rfl (zq (j:=0) 0 ty30 rfl rfl rfl (.t2 .nil))<|e_dm 12 rfl rfl rfl<|e_pv 13 rfl rfl (zQ rfl)<|e_pv 14 rfl rfl (ze yb rfl sz22 rfl rfl)<|e_u 15 rfl rfl (zf 0 ty22 rfl rfl rfl)<|e_dm 16 rfl rfl rfl<|zZ (x0:=(l.getD v (0,0))) 17 rfl rfl kr kr 1 v rfl ya sz30 rfl rfl rfl cbs rfl rfl (gD (d:=(0,0)) om) (fun b4 o5 hok6=> ?_)
  obtain ⟨hok6x,hok6y⟩:=hok6
  replace hok6x:=zD.1 hok6x
  replace hok6y:=zD.1 hok6y
  refine e_u 18 rfl rfl (zq (j:=0) 0 ty30 rfl rfl rfl (.t2 .nil))<|e_dm 19 rfl rfl rfl<|e_pv 20 rfl rfl (zQ rfl)<|e_pv 21 rfl rfl (ze yb rfl sz22 rfl rfl)<|e_u 22 rfl rfl (zf 0 ty22 rfl rfl rfl)<|e_dm 23 rfl rfl rfl<|e_dm 24 rfl rfl rfl<|e_pv 25 rfl rfl (zQ rfl)<|e_pv 26 rfl rfl (ze yb rfl sz96 rfl rfl)<|e_pv 27 rfl rfl (zfa (i:=v) yc sz3 rfl rfl om)<|e_u 28 rfl rfl (zf 0 ty3 rfl rfl (rg_N rgl rgl om))<|zZ (x0:=(l.getD (N.getD v 0) (0,0))) 29 rfl rfl kr kr 2 (N.getD v 0) rfl ya sz30 rfl rfl rfl cbs rfl rfl (gD (d:=(0,0)) om) (fun b7 o8 hok9=> ?_)
  obtain ⟨hok9x,hok9y⟩:=hok9
  replace hok9x:=zD.1 hok9x
  replace hok9y:=zD.1 hok9y
  refine e_u 30 rfl rfl (zq (j:=0) 0 ty30 rfl rfl rfl (.t2 .nil))<|zUc (m':=[(44,.agg #[.int .i64 ((l.getD (N.getD v 0) (0,0)).1),.int .i64 ((l.getD (N.getD v 0) (0,0)).2)]),(32,.agg #[.int .i64 ((l.getD v (0,0)).1),.int .i64 ((l.getD v (0,0)).2)]),(25,.agg #[.int .i64 ((l.getD (B.getD v 0) (0,0)).1),.int .i64 ((l.getD (B.getD v 0) (0,0)).2)]),(4,.bool false),(0,.pointer (some ⟨b,0,none⟩)),(1,.int .i64 ((v:Nat):Int))]) (R':=[slF (rI2 .i64) p cap l]) ((.of rfl):SubM _ _) (List.Perm.refl _) (List.Perm.refl _) ((.c (j:=3) rfl .n):SelR _ _ _) ?_
  obtain ⟨qd1,hqd1⟩:∃z:Int,z=(l.getD (N.getD v 0) (0,0)).1:=⟨_,rfl⟩
  rw [← hqd1]
  obtain ⟨qd2,hqd2⟩:∃z:Int,z=(l.getD (N.getD v 0) (0,0)).2:=⟨_,rfl⟩
  rw [← hqd2]
  obtain ⟨qd3,hqd3⟩:∃z:Int,z=(l.getD (B.getD v 0) (0,0)).1:=⟨_,rfl⟩
  rw [← hqd3]
  obtain ⟨qd4,hqd4⟩:∃z:Int,z=(l.getD (B.getD v 0) (0,0)).2:=⟨_,rfl⟩
  rw [← hqd4]
  refine zna (X:=Nat×Nat×Nat) (k':=0) (L':=(lb 37 137438953471)) (fun (u31_1,u32_1,u33_1)=>([(7,.pointer (some ⟨u33_1,0,none⟩)),(6,.pointer (some ⟨u32_1,0,none⟩)),(5,.pointer (some ⟨u31_1,0,none⟩)),(4,.bool false),(0,.pointer (some ⟨b,0,none⟩)),(1,.int .i64 ((v:Nat):Int))],[boxA u33_1 30 [.int .i64 qd1,.int .i64 qd2],boxA u32_1 30 [.int .i64 ((l.getD v (0,0)).1),.int .i64 ((l.getD v (0,0)).2)],boxA u31_1 30 [.int .i64 qd3,.int .i64 qd4]],[boxA b 98 (rgC p n cap B N kk s)],[slF (rI2 .i64) p cap l])) ?_ (fun hD0=> ?_)
  ·
   rintro ⟨u31_1,u32_1,u33_1⟩
   dsimp only
   refine zT kr ?_
   subst hqd1 hqd2 hqd3 hqd4
   refine zd<|zg<|zg<|zW (OW:=[]) (O:=[boxA u33_1 30 [.int .i64 ((l.getD (N.getD v 0) (0,0)).1),.int .i64 ((l.getD (N.getD v 0) (0,0)).2)],boxA u32_1 30 [.int .i64 ((l.getD v (0,0)).1),.int .i64 ((l.getD v (0,0)).2)],boxA u31_1 30 [.int .i64 ((l.getD (B.getD v 0) (0,0)).1),.int .i64 ((l.getD (B.getD v 0) (0,0)).2)],boxA b 98 (rgC p n cap B N kk s)]) 100000 mixed (.then (.then .ret)) kr<|e_dm 0 rfl rfl rfl<|e_dm 1 rfl rfl rfl<|e_dm 2 rfl rfl rfl<|e_pv 3 rfl rfl (zQ rfl)<|e_pv 4 rfl rfl (ze yb rfl sz96 rfl rfl)<|e_pv 5 rfl rfl (zfa (i:=v) yc sz3 rfl rfl om)<|e_u 6 rfl rfl (zf 3 ty3 rfl rfl (rg_N rgl rgl om))<|e_pv 7 rfl rfl (zQ rfl)<|e_pv 8 rfl rfl (ze yb rfl sz96 rfl rfl)<|e_pv 9 rfl rfl (zfa (i:=(N.getD v 0)) yc sz3 rfl rfl om)<|e_u 10 rfl rfl (zf 3 ty3 rfl rfl (rg_N rgl rgl om))<|e_pv 11 rfl rfl (zb rfl)<|zT kr<|zd<|zB<|zka (X:=Nat) (fun x:Nat=>x≤L.length - 3∧∀u,u<x→¬Pg.in3I l s L i u) (fun x=>[(8,.int .i64 (((Pg.nt L ((i+2+x)%L.length)):Nat):Int)),(7,.pointer (some ⟨u33_1,0,none⟩)),(6,.pointer (some ⟨u32_1,0,none⟩)),(5,.pointer (some ⟨u31_1,0,none⟩)),(0,.pointer (some ⟨b,0,none⟩)),(1,.int .i64 ((v:Nat):Int))]) (fun x=>[boxA u33_1 30 [.int .i64 ((l.getD (N.getD v 0) (0,0)).1),.int .i64 ((l.getD (N.getD v 0) (0,0)).2)],boxA u32_1 30 [.int .i64 ((l.getD v (0,0)).1),.int .i64 ((l.getD v (0,0)).2)],boxA u31_1 30 [.int .i64 ((l.getD (B.getD v 0) (0,0)).1),.int .i64 ((l.getD (B.getD v 0) (0,0)).2)],boxA b 98 (rgC p n cap B N kk s)]) (fun x=>[slF (rI2 .i64) p cap l]) (fun x:Nat=>L.length - 3 - x) 0 (show 0≤L.length - 3∧∀u,u<0→¬Pg.in3I l s L i u from by exact ⟨Nat.zero_le _,fun u h=>by omega⟩) ((.e rfl (by rw [hg.nx2 hi hv]) (.of rfl)):SubM _ _) (ho:=((.of [0,0,0,0] rfl):PickO _ _ _)) ((.c (j:=0) rfl .n):SelR _ _ _) ?_
   rintro t hI
   replace hI:t≤L.length - 3∧∀u,u<t→¬Pg.in3I l s L i u:=hI
   try dsimp only
   obtain ⟨ht,hall⟩:=hI
   refine zg<|zg<|za<|e_mv rfl<|e_mv rfl<|e_mv rfl<|e_p (zQ rfl)<|e_p (ze yb rfl sz96 rfl rfl)<|e_p (zfa (i:=v) yc sz3 rfl rfl om)<|e_ru (zf 3 ty3 rfl rfl (rg_B rgl rgl om))<|e_p (zMa rfl rfl)<|zh<|zd<|zC rfl (fun hst=> ?_) (fun hst=> ?_)
   ·
    have htl:t<L.length - 3:=by have h9:=Pg.stop_iff hg hi h3 ht;rw [← hvB] at h9;omega
    have hws:=hg.lt _ (Nat.mod_lt (i+2+t) (show 0<L.length by omega))
    have hwr:Pg.inR (l.getD (Pg.nt L ((i+2+t)%L.length)) (0,0)):=Pg.Ok.gt hrng om
    have hsm0:=Pg.s_mul (z:=Pg.crs ((l.getD (B.getD v 0) (0,0)).1,(l.getD (B.getD v 0) (0,0)).2) ((l.getD v (0,0)).1,(l.getD v (0,0)).2) ((l.getD (Pg.nt L ((i+2+t)%L.length)) (0,0)).1,(l.getD (Pg.nt L ((i+2+t)%L.length)) (0,0)).2)) hs
    have hsm1:=Pg.s_mul (z:=Pg.crs ((l.getD v (0,0)).1,(l.getD v (0,0)).2) ((l.getD (N.getD v 0) (0,0)).1,(l.getD (N.getD v 0) (0,0)).2) ((l.getD (Pg.nt L ((i+2+t)%L.length)) (0,0)).1,(l.getD (Pg.nt L ((i+2+t)%L.length)) (0,0)).2)) hs
    have hsm2:=Pg.s_mul (z:=Pg.crs ((l.getD (N.getD v 0) (0,0)).1,(l.getD (N.getD v 0) (0,0)).2) ((l.getD (B.getD v 0) (0,0)).1,(l.getD (B.getD v 0) (0,0)).2) ((l.getD (Pg.nt L ((i+2+t)%L.length)) (0,0)).1,(l.getD (Pg.nt L ((i+2+t)%L.length)) (0,0)).2)) hs
    refine zA<|zd<|zg<|zB<|zg<|za<|e_mv rfl<|e_p (zQ rfl)<|e_p (ze yb rfl sz22 rfl rfl)<|e_ru (zf 3 ty22 rfl rfl rfl)<|e_mv rfl<|zP (x0:=(l.getD (Pg.nt L ((i+2+t)%L.length)) (0,0))) 0 (Pg.nt L ((i+2+t)%L.length)) rfl ya sz30 rfl rfl rfl cbs rfl rfl (gD (d:=(0,0)) om) (fun b10 o11 hok12=> ?_)
    obtain ⟨hok12x,hok12y⟩:=hok12
    replace hok12x:=zD.1 hok12x
    replace hok12y:=zD.1 hok12y
    refine e_ru (zq (j:=0) 0 ty30 rfl rfl rfl (.t2 .nil))<|zM rfl rfl (zn zr30 rfl) (fun b13=> ?_)
    refine zk 0 rfl rfl rfl rfl rfl sz30 rfl (.t2 .nil) .z<|zh<|zd<|zEa (X:=Unit) (fun x=>True) (fun x=>[(110,.bool (decide (((0≤(s*(Pg.crs (((l.getD (B.getD v 0) (0,0)).1),((l.getD (B.getD v 0) (0,0)).2)) (((l.getD v (0,0)).1),((l.getD v (0,0)).2)) (((l.getD (Pg.nt L ((i+2+t)%L.length)) (0,0)).1),((l.getD (Pg.nt L ((i+2+t)%L.length)) (0,0)).2))).sign))∧(0≤(s*(Pg.crs (((l.getD v (0,0)).1),((l.getD v (0,0)).2)) (((l.getD (N.getD v 0) (0,0)).1),((l.getD (N.getD v 0) (0,0)).2)) (((l.getD (Pg.nt L ((i+2+t)%L.length)) (0,0)).1),((l.getD (Pg.nt L ((i+2+t)%L.length)) (0,0)).2))).sign)))∧(0≤(s*(Pg.crs (((l.getD (N.getD v 0) (0,0)).1),((l.getD (N.getD v 0) (0,0)).2)) (((l.getD (B.getD v 0) (0,0)).1),((l.getD (B.getD v 0) (0,0)).2)) (((l.getD (Pg.nt L ((i+2+t)%L.length)) (0,0)).1),((l.getD (Pg.nt L ((i+2+t)%L.length)) (0,0)).2))).sign))))),(8,.int .i64 (((Pg.nt L ((i+2+t)%L.length)):Nat):Int)),(7,.pointer (some ⟨u33_1,0,none⟩)),(6,.pointer (some ⟨u32_1,0,none⟩)),(5,.pointer (some ⟨u31_1,0,none⟩)),(0,.pointer (some ⟨b,0,none⟩)),(1,.int .i64 ((v:Nat):Int))]) (fun x=>[boxA b13 30 [.int .i64 ((l.getD (Pg.nt L ((i+2+t)%L.length)) (0,0)).1),.int .i64 ((l.getD (Pg.nt L ((i+2+t)%L.length)) (0,0)).2)],boxA u33_1 30 [.int .i64 ((l.getD (N.getD v 0) (0,0)).1),.int .i64 ((l.getD (N.getD v 0) (0,0)).2)],boxA u32_1 30 [.int .i64 ((l.getD v (0,0)).1),.int .i64 ((l.getD v (0,0)).2)],boxA u31_1 30 [.int .i64 ((l.getD (B.getD v 0) (0,0)).1),.int .i64 ((l.getD (B.getD v 0) (0,0)).2)],boxA b 98 (rgC p n cap B N kk s)]) (fun x=>[atF b10 o11 [.int .i64 ((l.getD (Pg.nt L ((i+2+t)%L.length)) (0,0)).1),.int .i64 ((l.getD (Pg.nt L ((i+2+t)%L.length)) (0,0)).2)],slF (rI2 .i64) p cap l]) ?_ ?_
    ·
     refine zW (OW:=[]) (O:=[boxA b13 30 [.int .i64 ((l.getD (Pg.nt L ((i+2+t)%L.length)) (0,0)).1),.int .i64 ((l.getD (Pg.nt L ((i+2+t)%L.length)) (0,0)).2)],boxA u33_1 30 [.int .i64 ((l.getD (N.getD v 0) (0,0)).1),.int .i64 ((l.getD (N.getD v 0) (0,0)).2)],boxA u32_1 30 [.int .i64 ((l.getD v (0,0)).1),.int .i64 ((l.getD v (0,0)).2)],boxA u31_1 30 [.int .i64 ((l.getD (B.getD v 0) (0,0)).1),.int .i64 ((l.getD (B.getD v 0) (0,0)).2)],boxA b 98 (rgC p n cap B N kk s)]) 100000 mixed (.then (.block (.then (.then (.block (.then .ret)))))) kr<|e_dm 0 rfl rfl rfl<|e_pv 1 rfl rfl (zQ rfl)<|e_pv 2 rfl rfl (ze yb rfl sz3 rfl rfl)<|e_u 3 rfl rfl (zf 4 ty3 rfl rfl (rg_s rgl rgl))<|e_u 4 rfl rfl (zc 3 ty30 rfl rfl (.t2 .nil))<|e_u 5 rfl rfl (zc 2 ty30 rfl rfl (.t2 .nil))<|e_u 6 rfl rfl (zc 0 ty30 rfl rfl (.t2 .nil))<|e_one 7 (zpa rfl rfl rfl rfl (.c rfl (.c rfl (.c rfl .n))) ce54 (zdb (ex:=((l.getD (B.getD v 0) (0,0)).1)) (ey:=((l.getD (B.getD v 0) (0,0)).2)) (fx:=(l.getD v (0,0)).1) (fy:=(l.getD v (0,0)).2) (gx:=(l.getD (Pg.nt L ((i+2+t)%L.length)) (0,0)).1) (gy:=(l.getD (Pg.nt L ((i+2+t)%L.length)) (0,0)).2) (hre:=cbo) (hrf:=cbo) (hrg:=cbo)) (.n) ?_)
     refine e_pv 8 rfl rfl (zya (z:=(s*(Pg.crs (((l.getD (B.getD v 0) (0,0)).1),((l.getD (B.getD v 0) (0,0)).2)) (((l.getD v (0,0)).1),((l.getD v (0,0)).2)) (((l.getD (Pg.nt L ((i+2+t)%L.length)) (0,0)).1),((l.getD (Pg.nt L ((i+2+t)%L.length)) (0,0)).2))).sign)) rfl rfl (w64 om))<|e_pv 9 rfl rfl (zJa rfl rfl)<|zDb 10 rfl rfl kr kr rfl rfl (zX rfl) (fun h14=> ?_) (fun h14=> ?_)
     ·
      refine e_dm 11 rfl rfl rfl<|e_pv 12 rfl rfl (zQ rfl)<|e_pv 13 rfl rfl (ze yb rfl sz3 rfl rfl)<|e_u 14 rfl rfl (zf 4 ty3 rfl rfl (rg_s rgl rgl))<|e_u 15 rfl rfl (zc 2 ty30 rfl rfl (.t2 .nil))<|e_u 16 rfl rfl (zc 1 ty30 rfl rfl (.t2 .nil))<|e_u 17 rfl rfl (zc 0 ty30 rfl rfl (.t2 .nil))<|e_one 18 (zpa rfl rfl rfl rfl (.c rfl (.c rfl (.c rfl .n))) ce54 (zdb (ex:=(l.getD v (0,0)).1) (ey:=(l.getD v (0,0)).2) (fx:=((l.getD (N.getD v 0) (0,0)).1)) (fy:=((l.getD (N.getD v 0) (0,0)).2)) (gx:=(l.getD (Pg.nt L ((i+2+t)%L.length)) (0,0)).1) (gy:=(l.getD (Pg.nt L ((i+2+t)%L.length)) (0,0)).2) (hre:=cbo) (hrf:=cbo) (hrg:=cbo)) (.n) ?_)
      refine e_pv 19 rfl rfl (zya (z:=(s*(Pg.crs (((l.getD v (0,0)).1),((l.getD v (0,0)).2)) (((l.getD (N.getD v 0) (0,0)).1),((l.getD (N.getD v 0) (0,0)).2)) (((l.getD (Pg.nt L ((i+2+t)%L.length)) (0,0)).1),((l.getD (Pg.nt L ((i+2+t)%L.length)) (0,0)).2))).sign)) rfl rfl (w64 om))<|e_pv 20 rfl rfl (zJa rfl rfl)<|e_pv 21 rfl rfl (zo rfl rfl)<|zDb 22 rfl rfl kr kr rfl rfl (zX rfl) (fun h15=> ?_) (fun h15=> ?_)
      ·
       refine e_dm 23 rfl rfl rfl<|e_pv 24 rfl rfl (zQ rfl)<|e_pv 25 rfl rfl (ze yb rfl sz3 rfl rfl)<|e_u 26 rfl rfl (zf 4 ty3 rfl rfl (rg_s rgl rgl))<|e_u 27 rfl rfl (zc 1 ty30 rfl rfl (.t2 .nil))<|e_u 28 rfl rfl (zc 3 ty30 rfl rfl (.t2 .nil))<|e_u 29 rfl rfl (zc 0 ty30 rfl rfl (.t2 .nil))<|e_one 30 (zpa rfl rfl rfl rfl (.c rfl (.c rfl (.c rfl .n))) ce54 (zdb (ex:=((l.getD (N.getD v 0) (0,0)).1)) (ey:=((l.getD (N.getD v 0) (0,0)).2)) (fx:=((l.getD (B.getD v 0) (0,0)).1)) (fy:=((l.getD (B.getD v 0) (0,0)).2)) (gx:=(l.getD (Pg.nt L ((i+2+t)%L.length)) (0,0)).1) (gy:=(l.getD (Pg.nt L ((i+2+t)%L.length)) (0,0)).2) (hre:=cbo) (hrf:=cbo) (hrg:=cbo)) (.n) ?_)
       refine e_pv 31 rfl rfl (zya (z:=(s*(Pg.crs (((l.getD (N.getD v 0) (0,0)).1),((l.getD (N.getD v 0) (0,0)).2)) (((l.getD (B.getD v 0) (0,0)).1),((l.getD (B.getD v 0) (0,0)).2)) (((l.getD (Pg.nt L ((i+2+t)%L.length)) (0,0)).1),((l.getD (Pg.nt L ((i+2+t)%L.length)) (0,0)).2))).sign)) rfl rfl (w64 om))<|e_pv 32 rfl rfl (zJa rfl rfl)<|e_pv 33 rfl rfl (zo rfl rfl)<|zT kr ?_
       exact zga () (show True from by first|trivial|omega|simp_all) ((.e rfl (congrArg Value.bool cbu) (.of rfl)):SubM _ _) (ho:=((.of [0,0,0,0,0] rfl):PickO _ _ _)) ((.of [0,1] rfl):SelR _ _ _)
      ·
       refine e_skip 23 rfl rfl<|e_skip 24 rfl rfl<|e_skip 25 rfl rfl<|e_skip 26 rfl rfl<|e_skip 27 rfl rfl<|e_skip 28 rfl rfl<|e_skip 29 rfl rfl<|e_skip 30 rfl rfl<|e_skip 31 rfl rfl<|e_skip 32 rfl rfl<|e_pv 33 rfl rfl (zo rfl rfl)<|zT kr ?_
       exact zga () (show True from by first|trivial|omega|simp_all) ((.e rfl (congrArg Value.bool cbu) (.of rfl)):SubM _ _) (ho:=((.of [0,0,0,0,0] rfl):PickO _ _ _)) ((.of [0,1] rfl):SelR _ _ _)
     ·
      refine e_skip 11 rfl rfl<|e_skip 12 rfl rfl<|e_skip 13 rfl rfl<|e_skip 14 rfl rfl<|e_skip 15 rfl rfl<|e_skip 16 rfl rfl<|e_skip 17 rfl rfl<|e_skip 18 rfl rfl<|e_skip 19 rfl rfl<|e_skip 20 rfl rfl<|e_pv 21 rfl rfl (zo rfl rfl)<|e_dm 22 rfl rfl rfl<|e_skip 23 rfl rfl<|e_skip 24 rfl rfl<|e_skip 25 rfl rfl<|e_skip 26 rfl rfl<|e_skip 27 rfl rfl<|e_skip 28 rfl rfl<|e_skip 29 rfl rfl<|e_skip 30 rfl rfl<|e_skip 31 rfl rfl<|e_skip 32 rfl rfl<|e_pv 33 rfl rfl (zo rfl rfl)<|zT kr ?_
      exact zga () (show True from by first|trivial|omega|simp_all) ((.e rfl (congrArg Value.bool cbu) (.of rfl)):SubM _ _) (ho:=((.of [0,0,0,0,0] rfl):PickO _ _ _)) ((.of [0,1] rfl):SelR _ _ _)
    ·
     rintro ⟨⟩ -
     try dsimp only
     refine zC rfl (fun hin=> ?_) (fun hin=> ?_)
     ·
      refine zg<|za<|e_p (zb rfl)<|zh<|zd<|zH<|zp<|zi<|zi<|zp<|zi ?_
      exact zy Tryz.results77 () trivial (zl rfl) (congrArg Value.bool (decide_eq_false (fun h=>h.2 t htl ((hin3 t).2 ⟨hin.1.1,hin.1.2,hin.2⟩)))) (ho:=((.c (i:=4) rfl .n):PickO _ _ _)) (.n:SelR _ _ _)
     ·
      refine zA<|zO<|zd<|za<|e_mv rfl<|e_mv rfl<|e_p (zQ rfl)<|e_p (ze yb rfl sz96 rfl rfl)<|e_p (zfa (i:=(Pg.nt L ((i+2+t)%L.length))) yc sz3 rfl rfl om)<|e_ru (zf 4 ty3 rfl rfl (rg_N rgl rgl om))<|e_p (zb rfl)<|zh<|zda (t+1) (show (t+1)≤L.length - 3∧∀u,u<(t+1)→¬Pg.in3I l s L i u from by exact ⟨htl,Ms.all_lt_succ hall (fun h=>hin (by have h9:=(hin3 t).1 h;exact ⟨⟨h9.1,h9.2.1⟩,h9.2.2⟩))⟩) (by show L.length - 3 - (t+1)<L.length - 3 - t;omega) ((.e rfl (by rw [hg.nxm _ om];rfl) (.of rfl)):SubM _ _) (ho:=((.of [1,1,1,1] rfl):PickO _ _ _)) ((.c (j:=1) rfl .n):SelR _ _ _)
   ·
    have hte:t=L.length - 3:=by have h9:=Pg.stop_iff hg hi h3 ht;rw [← hvB] at h9;omega
    refine zja<|zj<|zj<|zt<|zd<|zg<|za<|e_p (zb rfl)<|zh<|zd<|zH ?_
    exact zy Tryz.results77 () trivial (zl rfl) (congrArg Value.bool (decide_eq_true ⟨by omega,fun u hu=>hall u om⟩)) (ho:=((.c (i:=3) rfl .n):PickO _ _ _)) (.n:SelR _ _ _)
  refine zna (X:=Nat×Nat×Nat) (k':=1) (L':=(lb 37 68719476735)) (fun (u31_1,u32_1,u33_1)=>([(7,.pointer (some ⟨u33_1,0,none⟩)),(6,.pointer (some ⟨u32_1,0,none⟩)),(5,.pointer (some ⟨u31_1,0,none⟩)),(44,.agg #[.int .i64 qd1,.int .i64 qd2]),(4,.bool false),(0,.pointer (some ⟨b,0,none⟩)),(1,.int .i64 ((v:Nat):Int))],[boxA u32_1 30 [.int .i64 ((l.getD v (0,0)).1),.int .i64 ((l.getD v (0,0)).2)],boxA u31_1 30 [.int .i64 qd3,.int .i64 qd4],boxA u33_1 30 [.int .i64 0,.int .i64 0]],[boxA b 98 (rgC p n cap B N kk s)],[slF (rI2 .i64) p cap l])) ?_ (fun hD1=> ?_)
  ·
   rintro ⟨u31_1,u32_1,u33_1⟩
   dsimp only
   refine zUa 36 kr ?_
   ·
    refine zNb (zca (i:=2) rfl)<|zv kr rfl rfl rfl rfl rfl sz30 rfl (.t2 .nil) ?_
    exact zU (hD0 (u31_1,u32_1,u33_1)) kr ((.of rfl):SubM _ _) .rfl .rfl ((.c (j:=0) rfl .n):SelR _ _ _)
  refine zna (X:=Nat×Nat×Nat) (k':=2) (L':=(lb 37 34359738367)) (fun (u31_1,u32_1,u33_1)=>([(7,.pointer (some ⟨u33_1,0,none⟩)),(6,.pointer (some ⟨u32_1,0,none⟩)),(5,.pointer (some ⟨u31_1,0,none⟩)),(44,.agg #[.int .i64 qd1,.int .i64 qd2]),(32,.agg #[.int .i64 ((l.getD v (0,0)).1),.int .i64 ((l.getD v (0,0)).2)]),(4,.bool false),(0,.pointer (some ⟨b,0,none⟩)),(1,.int .i64 ((v:Nat):Int))],[boxA u31_1 30 [.int .i64 qd3,.int .i64 qd4],boxA u33_1 30 [.int .i64 0,.int .i64 0],boxA u32_1 30 [.int .i64 0,.int .i64 0]],[boxA b 98 (rgC p n cap B N kk s)],[slF (rI2 .i64) p cap l])) ?_ (fun hD2=> ?_)
  ·
   rintro ⟨u31_1,u32_1,u33_1⟩
   dsimp only
   refine zUa 35 kr ?_
   ·
    refine zNb (zca (i:=2) rfl)<|zv kr rfl rfl rfl rfl rfl sz30 rfl (.t2 .nil) ?_
    exact zU (hD1 (u31_1,u32_1,u33_1)) kr ((.of rfl):SubM _ _) .rfl .rfl ((.c (j:=0) rfl .n):SelR _ _ _)
  refine zna (X:=Nat×Nat×Nat) (k':=3) (L':=(lb 37 17179869183)) (fun (u31_1,u32_1,u33_1)=>([(7,.pointer (some ⟨u33_1,0,none⟩)),(6,.pointer (some ⟨u32_1,0,none⟩)),(5,.pointer (some ⟨u31_1,0,none⟩)),(44,.agg #[.int .i64 qd1,.int .i64 qd2]),(32,.agg #[.int .i64 ((l.getD v (0,0)).1),.int .i64 ((l.getD v (0,0)).2)]),(25,.agg #[.int .i64 qd3,.int .i64 qd4]),(4,.bool false),(0,.pointer (some ⟨b,0,none⟩)),(1,.int .i64 ((v:Nat):Int))],[boxA u33_1 30 [.int .i64 0,.int .i64 0],boxA u32_1 30 [.int .i64 0,.int .i64 0],boxA u31_1 30 [.int .i64 0,.int .i64 0]],[boxA b 98 (rgC p n cap B N kk s)],[slF (rI2 .i64) p cap l])) ?_ (fun hD3=> ?_)
  ·
   rintro ⟨u31_1,u32_1,u33_1⟩
   dsimp only
   refine zUa 34 kr ?_
   ·
    refine zNb (zca (i:=2) rfl)<|zv kr rfl rfl rfl rfl rfl sz30 rfl (.t2 .nil) ?_
    exact zU (hD2 (u31_1,u32_1,u33_1)) kr ((.of rfl):SubM _ _) .rfl .rfl ((.c (j:=0) rfl .n):SelR _ _ _)
  refine zna (X:=Nat×Nat) (k':=4) (L':=(lb 37 8589934591)) (fun (u31_1,u32_1)=>([(6,.pointer (some ⟨u32_1,0,none⟩)),(5,.pointer (some ⟨u31_1,0,none⟩)),(44,.agg #[.int .i64 qd1,.int .i64 qd2]),(32,.agg #[.int .i64 ((l.getD v (0,0)).1),.int .i64 ((l.getD v (0,0)).2)]),(25,.agg #[.int .i64 qd3,.int .i64 qd4]),(4,.bool false),(0,.pointer (some ⟨b,0,none⟩)),(1,.int .i64 ((v:Nat):Int))],[boxA u32_1 30 [.int .i64 0,.int .i64 0],boxA u31_1 30 [.int .i64 0,.int .i64 0]],[boxA b 98 (rgC p n cap B N kk s)],[slF (rI2 .i64) p cap l])) ?_ (fun hD4=> ?_)
  ·
   rintro ⟨u31_1,u32_1⟩
   dsimp only
   refine zUa 33 kr ?_
   ·
    refine zta rfl rfl rfl rfl (zn zr30 rfl) (fun u33_1 _=> ?_)
    exact zU (hD3 (u31_1,u32_1,u33_1)) kr ((.of rfl):SubM _ _) .rfl .rfl ((.c (j:=0) rfl .n):SelR _ _ _)
  refine zna (X:=Nat×Nat) (k':=4) (L':=(lb 37 12884901887)) (fun (u31_1,u33_1)=>([(7,.pointer (some ⟨u33_1,0,none⟩)),(5,.pointer (some ⟨u31_1,0,none⟩)),(44,.agg #[.int .i64 qd1,.int .i64 qd2]),(32,.agg #[.int .i64 ((l.getD v (0,0)).1),.int .i64 ((l.getD v (0,0)).2)]),(25,.agg #[.int .i64 qd3,.int .i64 qd4]),(4,.bool false),(0,.pointer (some ⟨b,0,none⟩)),(1,.int .i64 ((v:Nat):Int))],[boxA u33_1 30 [.int .i64 0,.int .i64 0],boxA u31_1 30 [.int .i64 0,.int .i64 0]],[boxA b 98 (rgC p n cap B N kk s)],[slF (rI2 .i64) p cap l])) ?_ (fun hD5=> ?_)
  ·
   rintro ⟨u31_1,u33_1⟩
   dsimp only
   refine zUa 32 kr ?_
   ·
    refine zta rfl rfl rfl rfl (zn zr30 rfl) (fun u32_1 _=> ?_)
    exact zU (hD3 (u31_1,u32_1,u33_1)) kr ((.of rfl):SubM _ _) (zDa 1 rfl (zDa 0 rfl (zDa 0 rfl .nil))) .rfl ((.c (j:=0) rfl .n):SelR _ _ _)
  refine zna (X:=Nat×Nat) (k':=4) (L':=(lb 37 15032385535)) (fun (u32_1,u33_1)=>([(7,.pointer (some ⟨u33_1,0,none⟩)),(6,.pointer (some ⟨u32_1,0,none⟩)),(44,.agg #[.int .i64 qd1,.int .i64 qd2]),(32,.agg #[.int .i64 ((l.getD v (0,0)).1),.int .i64 ((l.getD v (0,0)).2)]),(25,.agg #[.int .i64 qd3,.int .i64 qd4]),(4,.bool false),(0,.pointer (some ⟨b,0,none⟩)),(1,.int .i64 ((v:Nat):Int))],[boxA u33_1 30 [.int .i64 0,.int .i64 0],boxA u32_1 30 [.int .i64 0,.int .i64 0]],[boxA b 98 (rgC p n cap B N kk s)],[slF (rI2 .i64) p cap l])) ?_ (fun hD6=> ?_)
  ·
   rintro ⟨u32_1,u33_1⟩
   dsimp only
   refine zUa 31 kr ?_
   ·
    refine zta rfl rfl rfl rfl (zn zr30 rfl) (fun u31_1 _=> ?_)
    exact zU (hD3 (u31_1,u32_1,u33_1)) kr ((.of rfl):SubM _ _) (zDa 1 rfl (zDa 1 rfl (zDa 0 rfl .nil))) .rfl ((.c (j:=0) rfl .n):SelR _ _ _)
  refine zna (X:=Nat) (k':=5) (L':=(lb 37 4294967295)) (fun u31_1=>([(5,.pointer (some ⟨u31_1,0,none⟩)),(44,.agg #[.int .i64 qd1,.int .i64 qd2]),(32,.agg #[.int .i64 ((l.getD v (0,0)).1),.int .i64 ((l.getD v (0,0)).2)]),(25,.agg #[.int .i64 qd3,.int .i64 qd4]),(4,.bool false),(0,.pointer (some ⟨b,0,none⟩)),(1,.int .i64 ((v:Nat):Int))],[boxA u31_1 30 [.int .i64 0,.int .i64 0]],[boxA b 98 (rgC p n cap B N kk s)],[slF (rI2 .i64) p cap l])) ?_ (fun hD7=> ?_)
  ·
   rintro u31_1
   dsimp only
   refine zLb 32 33 kr ?_ ?_
   ·
    refine zta rfl rfl rfl rfl (zn zr30 rfl) (fun u32_1 _=> ?_)
    exact zU (hD4 (u31_1,u32_1)) kr ((.of rfl):SubM _ _) .rfl .rfl ((.c (j:=0) rfl .n):SelR _ _ _)
   ·
    refine zta rfl rfl rfl rfl (zn zr30 rfl) (fun u33_1 _=> ?_)
    exact zU (hD5 (u31_1,u33_1)) kr ((.of rfl):SubM _ _) .rfl .rfl ((.c (j:=0) rfl .n):SelR _ _ _)
  refine zna (X:=Nat) (k':=5) (L':=(lb 37 6442450943)) (fun u32_1=>([(6,.pointer (some ⟨u32_1,0,none⟩)),(44,.agg #[.int .i64 qd1,.int .i64 qd2]),(32,.agg #[.int .i64 ((l.getD v (0,0)).1),.int .i64 ((l.getD v (0,0)).2)]),(25,.agg #[.int .i64 qd3,.int .i64 qd4]),(4,.bool false),(0,.pointer (some ⟨b,0,none⟩)),(1,.int .i64 ((v:Nat):Int))],[boxA u32_1 30 [.int .i64 0,.int .i64 0]],[boxA b 98 (rgC p n cap B N kk s)],[slF (rI2 .i64) p cap l])) ?_ (fun hD8=> ?_)
  ·
   rintro u32_1
   dsimp only
   refine zLb 31 33 kr ?_ ?_
   ·
    refine zta rfl rfl rfl rfl (zn zr30 rfl) (fun u31_1 _=> ?_)
    exact zU (hD4 (u31_1,u32_1)) kr ((.of rfl):SubM _ _) (zDa 1 rfl (zDa 0 rfl .nil)) .rfl ((.c (j:=0) rfl .n):SelR _ _ _)
   ·
    refine zta rfl rfl rfl rfl (zn zr30 rfl) (fun u33_1 _=> ?_)
    exact zU (hD6 (u32_1,u33_1)) kr ((.of rfl):SubM _ _) .rfl .rfl ((.c (j:=0) rfl .n):SelR _ _ _)
  refine zna (X:=Nat) (k':=5) (L':=(lb 37 10737418239)) (fun u33_1=>([(7,.pointer (some ⟨u33_1,0,none⟩)),(44,.agg #[.int .i64 qd1,.int .i64 qd2]),(32,.agg #[.int .i64 ((l.getD v (0,0)).1),.int .i64 ((l.getD v (0,0)).2)]),(25,.agg #[.int .i64 qd3,.int .i64 qd4]),(4,.bool false),(0,.pointer (some ⟨b,0,none⟩)),(1,.int .i64 ((v:Nat):Int))],[boxA u33_1 30 [.int .i64 0,.int .i64 0]],[boxA b 98 (rgC p n cap B N kk s)],[slF (rI2 .i64) p cap l])) ?_ (fun hD9=> ?_)
  ·
   rintro u33_1
   dsimp only
   refine zLb 31 32 kr ?_ ?_
   ·
    refine zta rfl rfl rfl rfl (zn zr30 rfl) (fun u31_1 _=> ?_)
    exact zU (hD5 (u31_1,u33_1)) kr ((.of rfl):SubM _ _) (zDa 1 rfl (zDa 0 rfl .nil)) .rfl ((.c (j:=0) rfl .n):SelR _ _ _)
   ·
    refine zta rfl rfl rfl rfl (zn zr30 rfl) (fun u32_1 _=> ?_)
    exact zU (hD6 (u32_1,u33_1)) kr ((.of rfl):SubM _ _) (zDa 1 rfl (zDa 0 rfl .nil)) .rfl ((.c (j:=0) rfl .n):SelR _ _ _)
  refine zud 31 32 33 kr ?_ ?_ ?_
  ·
   refine zta rfl rfl rfl rfl (zn zr30 rfl) (fun u31_1 _=> ?_)
   exact zU (hD7 u31_1) kr ((.of rfl):SubM _ _) .rfl .rfl ((.c (j:=0) rfl .n):SelR _ _ _)
  ·
   refine zta rfl rfl rfl rfl (zn zr30 rfl) (fun u32_1 _=> ?_)
   exact zU (hD8 u32_1) kr ((.of rfl):SubM _ _) .rfl .rfl ((.c (j:=0) rfl .n):SelR _ _ _)
  ·
   refine zta rfl rfl rfl rfl (zn zr30 rfl) (fun u33_1 _=> ?_)
   exact zU (hD9 u33_1) kr ((.of rfl):SubM _ _) .rfl .rfl ((.c (j:=0) rfl .n):SelR _ _ _)
end Go.Proofs.YtjcpbhlijoigfaaGreat.Sp
namespace Go.Proofs.YtjcpbhlijoigfaaGreat.Sp
open Go
set_option linter.unusedVariables false
set_option maxRecDepth 100000
set_option maxHeartbeats 8000000
theorem zDf {z:Int}:Con ye 79 [.int .i64 z] [] [] (Y:=Unit) (fun y=>True) (fun y=> .bool true) (fun y=>[]) (fun y=>[]):=by
 refine zm Tryz.func79 rfl rfl rfl (fun c=> ?_)
 show RunC _ _ _ _ _ [(0,.int .i64 z)] [] []
 refine zg<|za<|e_p (zb rfl)<|zh<|zd<|zg<|za<|e_p (zb rfl)<|zh<|zd<|zH ?_
 exact zy Tryz.results79 () trivial (zl rfl) rfl (ho:=(.n:PickO _ _ _)) (.n:SelR _ _ _)
theorem zNe {b:Nat} {p:Option Addr} {n:Nat} {cap:Nat} {l:List Pg.P2} {B:List Nat} {N:List Nat} {kk:Int} {s:Int} {L:List Nat} {pb:Option Addr} {nb:Nat} {cb:Nat} {G:List Bool} (hn:l.length=n) (hg:Pg.Rg n L B N) (hrng:∀x∈l,Pg.inR x) (hs:s=1∨s= -1) (hG:Pg.Gn n L G) (hnb:G.length=nb) (h3:3≤L.length):Con ye 76 [.pointer (some ⟨b,0,none⟩),.slice pb nb cb,.func (.func 77) #[.pointer (some ⟨b,0,none⟩)] #[]] [boxA b 98 (rgC p n cap B N kk s),rowA 4 rB pb cb G] [slF (rI2 .i64) p cap l] (Y:=Int) (fun y=>Pg.Fst L (Pg.earI l s L) y) (fun y=> .int .i64 y) (fun y=>[boxA b 98 (rgC p n cap B N kk s),rowA 4 rB pb cb G]) (fun y=>[]):=by
 refine zm Tryz.func76 rfl rfl rfl (fun c=> ?_)
 show RunC _ _ _ _ _ [(0,.pointer (some ⟨b,0,none⟩)),(1,.slice pb nb cb),(2,.func (.func 77) #[.pointer (some ⟨b,0,none⟩)] #[])] [boxA b 98 (rgC p n cap B N kk s),rowA 4 rB pb cb G] [slF (rI2 .i64) p cap l]
 refine zba 0 rfl (fun hL0=> ?_)
 have hLB:=hg.lb
 have hLN:=hg.ln
 have hn64:=hg.n64
 have hGn:=hG.1
 refine zg<|za<|e_p (zb rfl)<|zh<|zd<|zg<|zg<|za<|e_mv rfl<|e_p (zQ rfl)<|e_p (ze yb rfl sz22 rfl rfl)<|e_ru (zf 0 ty22 rfl rfl rfl)<|e_p (zN ya rfl)<|e_mv rfl<|zh<|zd<|zB<|zka (X:=Nat×Nat) (fun x:Nat×Nat=>Pg.Fs n L (Pg.earI l s L) x.1 x.2) (fun x=>[(13,.int .i64 ((x.1:Nat):Int)),(12,.int .i64 ((n:Nat):Int)),(1,.slice pb nb cb),(2,.func (.func 77) #[.pointer (some ⟨b,0,none⟩)] #[])]) (fun x=>[boxA b 98 (rgC p n cap B N kk s),rowA 4 rB pb cb G]) (fun x=>[slF (rI2 .i64) p cap l]) (fun x:Nat×Nat=>n - x.1) (0,0) (show Pg.Fs n L (Pg.earI l s L) 0 0 from by exact Pg.Fs.zero) ((.e rfl (by first|rfl|(congr 1;omega)|simp_all) (.of rfl)):SubM _ _) (ho:=((.of [0,0] rfl):PickO _ _ _)) ((.c (j:=0) rfl .n):SelR _ _ _) ?_
 rintro ⟨v,k⟩ hF
 replace hF:Pg.Fs n L (Pg.earI l s L) v k:=hF
 try dsimp only
 have hvn:=hF.vn
 refine zg<|za<|e_p (zY rfl rfl)<|zh<|zd<|zg<|zC rfl (fun h1=> ?_) (fun h1=> ?_)
 ·
  refine zA<|zd<|zg<|zB<|zg<|za<|e_mv rfl<|e_p (zb rfl)<|zh<|zd<|zEa (X:=Unit) (fun x=>True) (fun x=>[(25,.bool (decide (((!(G.getD v false))=true)∧(Pg.earI l s L k)))),(7,.int .i64 ((v:Nat):Int)),(13,.int .i64 ((v:Nat):Int)),(12,.int .i64 ((n:Nat):Int)),(1,.slice pb nb cb),(2,.func (.func 77) #[.pointer (some ⟨b,0,none⟩)] #[])]) (fun x=>[boxA b 98 (rgC p n cap B N kk s),rowA 4 rB pb cb G]) (fun x=>[slF (rI2 .i64) p cap l]) ?_ ?_
  ·
   refine za<|e_mv rfl<|e_mv rfl<|e_ru (zoa 1 v rfl yf sz4 rfl (by first|rfl|simp_all|omega) rfl rfl om)<|r_vl rfl rfl (zha 1 v rfl ty4 rfl rfl (gD (d:=false) om) rfl) (fun _ hok2=> ?_)
   refine e_p (ztb rfl)<|zRc rfl rfl (zX rfl) (fun hgo=> ?_) (fun hgo=> ?_)
   ·
    refine e_mv rfl<|e_mv rfl<|zrb (A:=[boxA b 98 (rgC p n cap B N kk s)]) (F:=[rowA 4 rB pb cb G]) (first:=[.pointer (some ⟨b,0,none⟩)]) (cap:=[]) rfl rfl rfl (.c rfl .n) ce77 (zzg (b:=b) (p:=p) (n:=n) (cap:=cap) (l:=l) (B:=B) (N:=N) (kk:=kk) (s:=s) (L:=L) (v:=v) (i:=k) (hn:=ass) (hg:=ass) (hrng:=ass) (hs:=ass) (hi:=by first|rfl|assumption|omega|exact (hF.here hg hG om (by first|assumption|simp_all)).1|exact (hF.here hg hG om (by first|assumption|simp_all)).2) (hv:=by first|rfl|assumption|omega|exact (hF.here hg hG om (by first|assumption|simp_all)).1|exact (hF.here hg hG om (by first|assumption|simp_all)).2) (h3:=ass)) (.c (j:=0) rfl .n) ?_
    rintro ⟨⟩ -
    dsimp only [aq,nq,cq]
    refine e_p (zo rfl rfl)<|zh ?_
    exact zga () (show True from by first|trivial|omega|simp_all) ((.e rfl (congrArg Value.bool cbu) (.of rfl)):SubM _ _) (ho:=((.of [0,0] rfl):PickO _ _ _)) ((.c (j:=0) rfl .n):SelR _ _ _)
   ·
    refine e_no<|e_no<|e_no<|e_p (zo rfl rfl)<|zh ?_
    exact zga () (show True from by first|trivial|omega|simp_all) ((.e rfl (congrArg Value.bool cbu) (.of rfl)):SubM _ _) (ho:=((.of [0,0] rfl):PickO _ _ _)) ((.c (j:=0) rfl .n):SelR _ _ _)
  ·
   rintro ⟨⟩ -
   try dsimp only
   refine zC rfl (fun hear=> ?_) (fun hear=> ?_)
   ·
    refine zg<|za<|e_mv rfl<|e_p (zb rfl)<|zh<|zd<|zH<|zp<|zi<|zi<|zp<|zi ?_
    exact zy yh ((v:Nat):Int) (.inl ⟨k,(hF.here hg hG om (by first|assumption|simp_all)).1,by rw [(hF.here hg hG om (by first|assumption|simp_all)).2],hear.2,hF.no⟩) (zl rfl) rfl (ho:=((.of [0,0] rfl):PickO _ _ _)) (.n:SelR _ _ _)
   ·
    refine zA<|zO<|zd<|za<|e_p (zI (z:=(((v+1):Nat):Int)) rfl rfl (w64 om))<|e_mv rfl<|zh<|zda ((v+1),(if G.getD v false=true then k else k+1)) (show Pg.Fs n L (Pg.earI l s L) (v+1) (if G.getD v false=true then k else k+1) from by by_cases hgb:G.getD v false=true;(rw [if_pos hgb];exact hF.skip hG om hgb);(rw [if_neg hgb];exact hF.next hg om (hF.here hg hG om hgb) (fun h9=>hear (by first|exact ⟨by simpa using hgb,h9⟩|simpa using hgb)))) (by show n - (v+1)<n - v;omega) ((.of rfl):SubM _ _) (ho:=((.of [0,0] rfl):PickO _ _ _)) ((.c (j:=0) rfl .n):SelR _ _ _)
 ·
  refine zja<|zj<|zj<|zt<|zd<|zg<|za<|e_p (zb rfl)<|zh<|zd<|zH ?_
  exact zy yh (-1) (.inr ⟨rfl,Pg.Fs.fin (n:=n) (by have h9:v=n:=om;rw [h9] at hF;exact hF) hg⟩) (zl rfl) rfl (ho:=((.of [0,0] rfl):PickO _ _ _)) (.n:SelR _ _ _)
theorem zOe {b:Nat} {p:Option Addr} {n:Nat} {cap:Nat} {l:List Pg.P2} {B:List Nat} {N:List Nat} {kk:Int} {s:Int} {L:List Nat} {pb:Option Addr} {nb:Nat} {cb:Nat} {G:List Bool} (hn:l.length=n) (hg:Pg.Rg n L B N) (hrng:∀x∈l,Pg.inR x) (hs:s=1∨s= -1) (hG:Pg.Gn n L G) (hnb:G.length=nb) (h3:3≤L.length):Con ye 76 [.pointer (some ⟨b,0,none⟩),.slice pb nb cb,.func (.func 79) #[] #[]] [boxA b 98 (rgC p n cap B N kk s),rowA 4 rB pb cb G] [slF (rI2 .i64) p cap l] (Y:=Int) (fun y=>Pg.Fst L (fun _=>True) y) (fun y=> .int .i64 y) (fun y=>[boxA b 98 (rgC p n cap B N kk s),rowA 4 rB pb cb G]) (fun y=>[]):=by
 refine zm Tryz.func76 rfl rfl rfl (fun c=> ?_)
 show RunC _ _ _ _ _ [(0,.pointer (some ⟨b,0,none⟩)),(1,.slice pb nb cb),(2,.func (.func 79) #[] #[])] [boxA b 98 (rgC p n cap B N kk s),rowA 4 rB pb cb G] [slF (rI2 .i64) p cap l]
 refine zba 0 rfl (fun hL0=> ?_)
 have hLB:=hg.lb
 have hLN:=hg.ln
 have hn64:=hg.n64
 have hGn:=hG.1
 refine zg<|za<|e_p (zb rfl)<|zh<|zd<|zg<|zg<|za<|e_mv rfl<|e_p (zQ rfl)<|e_p (ze yb rfl sz22 rfl rfl)<|e_ru (zf 0 ty22 rfl rfl rfl)<|e_p (zN ya rfl)<|e_mv rfl<|zh<|zd<|zB<|zka (X:=Nat×Nat) (fun x:Nat×Nat=>Pg.Fs n L (fun _=>True) x.1 x.2) (fun x=>[(13,.int .i64 ((x.1:Nat):Int)),(12,.int .i64 ((n:Nat):Int)),(1,.slice pb nb cb),(2,.func (.func 79) #[] #[])]) (fun x=>[boxA b 98 (rgC p n cap B N kk s),rowA 4 rB pb cb G]) (fun x=>[slF (rI2 .i64) p cap l]) (fun x:Nat×Nat=>n - x.1) (0,0) (show Pg.Fs n L (fun _=>True) 0 0 from by exact Pg.Fs.zero) ((.e rfl (by first|rfl|(congr 1;omega)|simp_all) (.of rfl)):SubM _ _) (ho:=((.of [0,0] rfl):PickO _ _ _)) ((.c (j:=0) rfl .n):SelR _ _ _) ?_
 rintro ⟨v,k⟩ hF
 replace hF:Pg.Fs n L (fun _=>True) v k:=hF
 try dsimp only
 have hvn:=hF.vn
 refine zg<|za<|e_p (zY rfl rfl)<|zh<|zd<|zg<|zC rfl (fun h1=> ?_) (fun h1=> ?_)
 ·
  refine zA<|zd<|zg<|zB<|zg<|za<|e_mv rfl<|e_p (zb rfl)<|zh<|zd<|zEa (X:=Unit) (fun x=>True) (fun x=>[(25,.bool (decide (((!(G.getD v false))=true)∨False))),(7,.int .i64 ((v:Nat):Int)),(13,.int .i64 ((v:Nat):Int)),(12,.int .i64 ((n:Nat):Int)),(1,.slice pb nb cb),(2,.func (.func 79) #[] #[])]) (fun x=>[boxA b 98 (rgC p n cap B N kk s),rowA 4 rB pb cb G]) (fun x=>[slF (rI2 .i64) p cap l]) ?_ ?_
  ·
   refine za<|e_mv rfl<|e_mv rfl<|e_ru (zoa 1 v rfl yf sz4 rfl (by first|rfl|simp_all|omega) rfl rfl om)<|r_vl rfl rfl (zha 1 v rfl ty4 rfl rfl (gD (d:=false) om) rfl) (fun _ hok2=> ?_)
   refine e_p (ztb rfl)<|zRc rfl rfl (zX rfl) (fun hgo=> ?_) (fun hgo=> ?_)
   ·
    refine e_mv rfl<|e_mv rfl<|zHc (first:=[]) (cap:=[]) rfl rfl rfl (.c rfl .n) ce79 (zDf (z:=((v:Nat):Int))) (.n) ?_
    rintro ⟨⟩ -
    dsimp only [aq,nq,cq]
    refine e_p (zo rfl rfl)<|zh ?_
    exact zga () (show True from by first|trivial|omega|simp_all) ((.e rfl (congrArg Value.bool cbu) (.of rfl)):SubM _ _) (ho:=((.of [0,0] rfl):PickO _ _ _)) ((.c (j:=0) rfl .n):SelR _ _ _)
   ·
    refine e_no<|e_no<|e_no<|e_p (zo rfl rfl)<|zh ?_
    exact zga () (show True from by first|trivial|omega|simp_all) ((.e rfl (congrArg Value.bool cbu) (.of rfl)):SubM _ _) (ho:=((.of [0,0] rfl):PickO _ _ _)) ((.c (j:=0) rfl .n):SelR _ _ _)
  ·
   rintro ⟨⟩ -
   try dsimp only
   refine zC rfl (fun hear=> ?_) (fun hear=> ?_)
   ·
    refine zg<|za<|e_mv rfl<|e_p (zb rfl)<|zh<|zd<|zH<|zp<|zi<|zi<|zp<|zi ?_
    exact zy yh ((v:Nat):Int) (.inl ⟨k,(hF.here hg hG om (by first|assumption|simp_all)).1,by rw [(hF.here hg hG om (by first|assumption|simp_all)).2],trivial,hF.no⟩) (zl rfl) rfl (ho:=((.of [0,0] rfl):PickO _ _ _)) (.n:SelR _ _ _)
   ·
    refine zA<|zO<|zd<|za<|e_p (zI (z:=(((v+1):Nat):Int)) rfl rfl (w64 om))<|e_mv rfl<|zh<|zda ((v+1),(if G.getD v false=true then k else k+1)) (show Pg.Fs n L (fun _=>True) (v+1) (if G.getD v false=true then k else k+1) from by by_cases hgb:G.getD v false=true;(rw [if_pos hgb];exact hF.skip hG om hgb);(rw [if_neg hgb];exact hF.next hg om (hF.here hg hG om hgb) (fun h9=>hear (by first|exact ⟨by simpa using hgb,h9⟩|simpa using hgb)))) (by show n - (v+1)<n - v;omega) ((.of rfl):SubM _ _) (ho:=((.of [0,0] rfl):PickO _ _ _)) ((.c (j:=0) rfl .n):SelR _ _ _)
 ·
  refine zja<|zj<|zj<|zt<|zd<|zg<|za<|e_p (zb rfl)<|zh<|zd<|zH ?_
  exact zy yh (-1) (.inr ⟨rfl,Pg.Fs.fin (n:=n) (by have h9:v=n:=om;rw [h9] at hF;exact hF) hg⟩) (zl rfl) rfl (ho:=((.of [0,0] rfl):PickO _ _ _)) (.n:SelR _ _ _)
end Go.Proofs.YtjcpbhlijoigfaaGreat.Sp
namespace Go.Proofs.YtjcpbhlijoigfaaGreat.Sp
open Go
set_option maxRecDepth 100000
theorem zr98:Zero ye 98 (.agg #[.slice none 0 0,.int .i64 0,.int .i64 0,.int .i64 0,.int .i64 0,.int .i64 0,.int .i64 0,.int .i64 0,.int .i64 0,.int .i64 0,.int .i64 0,.int .i64 0,.int .i64 0,.int .i64 0,.int .i64 0,.int .i64 0,.int .i64 0,.int .i64 0,.int .i64 0,.int .i64 0,.int .i64 0,.int .i64 0,.int .i64 0,.int .i64 0,.int .i64 0,.int .i64 0,.int .i64 0,.int .i64 0,.int .i64 0,.int .i64 0,.int .i64 0,.int .i64 0,.int .i64 0,.int .i64 0,.int .i64 0,.int .i64 0,.int .i64 0,.int .i64 0,.int .i64 0,.int .i64 0,.int .i64 0,.int .i64 0,.int .i64 0,.int .i64 0,.int .i64 0,.int .i64 0,.int .i64 0,.int .i64 0,.int .i64 0,.int .i64 0,.int .i64 0,.int .i64 0,.int .i64 0,.int .i64 0,.int .i64 0,.int .i64 0,.int .i64 0,.int .i64 0,.int .i64 0,.int .i64 0,.int .i64 0,.int .i64 0,.int .i64 0,.int .i64 0,.int .i64 0,.int .i64 0,.int .i64 0,.int .i64 0,.int .i64 0,.int .i64 0,.int .i64 0,.int .i64 0,.int .i64 0,.int .i64 0,.int .i64 0,.int .i64 0,.int .i64 0,.int .i64 0,.int .i64 0,.int .i64 0,.int .i64 0,.int .i64 0,.int .i64 0,.int .i64 0,.int .i64 0,.int .i64 0,.int .i64 0,.int .i64 0,.int .i64 0,.int .i64 0,.int .i64 0,.int .i64 0,.int .i64 0,.int .i64 0,.int .i64 0,.int .i64 0,.int .i64 0,.int .i64 0,.int .i64 0,.int .i64 0,.int .i64 0,.int .i64 0,.int .i64 0,.int .i64 0,.int .i64 0,.int .i64 0,.int .i64 0,.int .i64 0,.int .i64 0,.int .i64 0,.int .i64 0,.int .i64 0,.int .i64 0,.int .i64 0,.int .i64 0,.int .i64 0,.int .i64 0,.int .i64 0,.int .i64 0,.int .i64 0,.int .i64 0,.int .i64 0,.int .i64 0,.int .i64 0,.int .i64 0,.int .i64 0,.int .i64 0,.int .i64 0,.int .i64 0,.int .i64 0,.int .i64 0]):=by unfold Zero;kernel_rfl
end Go.Proofs.YtjcpbhlijoigfaaGreat.Sp
namespace Go.Proofs.YtjcpbhlijoigfaaGreat.Sp
open Go
set_option linter.unusedVariables false
set_option maxRecDepth 100000
set_option maxHeartbeats 8000000
theorem zdc {p:Option Addr} {n:Nat} {cap:Nat} {l:List Pg.P2} (hn:l.length=n) (h64:n≤64) (hrng:∀x∈l,Pg.inR x):Con ye 75 [.slice p n cap] [] [slF (rI2 .i64) p cap l] (Y:=Nat×(List Nat)×(List Nat)) (fun y=>Pg.Rg n (List.range n) y.2.1 y.2.2) (fun y=> .pointer (some ⟨y.1,0,none⟩)) (fun y=>[boxA y.1 98 (rgC p n cap (y.2.1) (y.2.2) ((n:Nat):Int) (Pg.sg l))]) (fun y=>[]):=by
 refine zm Tryz.func75 rfl rfl rfl (fun c=> ?_)
 show RunC _ _ _ _ _ [(0,.slice p n cap)] [] [slF (rI2 .i64) p cap l]
 refine zba 0 rfl (fun hL0=> ?_)
 refine zg<|za<|e_p (zb rfl)<|zh<|zd<|zg<|za<|e_mv rfl<|e_mv rfl<|e_p (zN ya rfl)<|e_p (zJ zr98 rfl yb (.c sz22 (.c sz96 (.c sz96 (.c sz3 (.c sz3 .n))))) (.c rfl (.c rfl (.c rfl .n))) (.c rfl rfl rfl (.take .nil) (.c rfl rfl rfl (.s8 (.s8 (.s8 (.s8 (.s8 (.s8 (.s8 (.s8 (.s8 (.s8 (.s8 (.s8 (.s8 (.s8 (.s8 (.s8 (.skip (.take .nil)))))))))))))))))) (.c rfl rfl rfl (.s8 (.s8 (.s8 (.s8 (.s8 (.s8 (.s8 (.s8 (.s8 (.s8 (.s8 (.s8 (.s8 (.s8 (.s8 (.s8 (.s2 (.take .nil)))))))))))))))))) .n))))<|zM rfl rfl (zR rfl rfl) (fun b1=> ?_)
 refine e_p (zb rfl)<|zh<|zd<|zg<|zg<|za<|e_mv rfl<|zL rfl rfl (.c rfl .n) ce47 (zcc (p:=p) (n:=n) (cap:=cap) (l:=l) (hn:=ass) (h64:=ass) (hrng:=ass)) (.c (j:=0) rfl .n)<|e_p (zY rfl rfl)<|zh<|zd<|zC rfl (fun hneg=> ?_) (fun hneg=> ?_)
 ·
  refine za<|e_mv rfl<|e_p (zQ rfl)<|e_p (ze yb rfl sz3 rfl rfl)<|zk 0 rfl rfl rfl rfl rfl sz3 rfl (.s8 (.s8 (.s8 (.s8 (.s8 (.s8 (.s8 (.s8 (.s8 (.s8 (.s8 (.s8 (.s8 (.s8 (.s8 (.s8 (.s2 (.take .nil)))))))))))))))))) .z<|zh<|zd<|zg<|zg ?_
  change RunC _ _ _ _ _ [(15,.pointer (some ⟨b1,130,none⟩)),(14,.pointer (some ⟨b1,0,none⟩)),(13,.pointer (some ⟨b1,0,none⟩)),(12,.bool (decide (Pg.db l<0))),(11,.int .i64 (Pg.db l)),(10,.slice p n cap),(3,.pointer (some ⟨b1,0,none⟩)),(9,.pointer (some ⟨b1,0,none⟩)),(8,.agg #[.slice p n cap,.int .i64 0,.int .i64 0,.int .i64 0,.int .i64 0,.int .i64 0,.int .i64 0,.int .i64 0,.int .i64 0,.int .i64 0,.int .i64 0,.int .i64 0,.int .i64 0,.int .i64 0,.int .i64 0,.int .i64 0,.int .i64 0,.int .i64 0,.int .i64 0,.int .i64 0,.int .i64 0,.int .i64 0,.int .i64 0,.int .i64 0,.int .i64 0,.int .i64 0,.int .i64 0,.int .i64 0,.int .i64 0,.int .i64 0,.int .i64 0,.int .i64 0,.int .i64 0,.int .i64 0,.int .i64 0,.int .i64 0,.int .i64 0,.int .i64 0,.int .i64 0,.int .i64 0,.int .i64 0,.int .i64 0,.int .i64 0,.int .i64 0,.int .i64 0,.int .i64 0,.int .i64 0,.int .i64 0,.int .i64 0,.int .i64 0,.int .i64 0,.int .i64 0,.int .i64 0,.int .i64 0,.int .i64 0,.int .i64 0,.int .i64 0,.int .i64 0,.int .i64 0,.int .i64 0,.int .i64 0,.int .i64 0,.int .i64 0,.int .i64 0,.int .i64 0,.int .i64 0,.int .i64 0,.int .i64 0,.int .i64 0,.int .i64 0,.int .i64 0,.int .i64 0,.int .i64 0,.int .i64 0,.int .i64 0,.int .i64 0,.int .i64 0,.int .i64 0,.int .i64 0,.int .i64 0,.int .i64 0,.int .i64 0,.int .i64 0,.int .i64 0,.int .i64 0,.int .i64 0,.int .i64 0,.int .i64 0,.int .i64 0,.int .i64 0,.int .i64 0,.int .i64 0,.int .i64 0,.int .i64 0,.int .i64 0,.int .i64 0,.int .i64 0,.int .i64 0,.int .i64 0,.int .i64 0,.int .i64 0,.int .i64 0,.int .i64 0,.int .i64 0,.int .i64 0,.int .i64 0,.int .i64 0,.int .i64 0,.int .i64 0,.int .i64 0,.int .i64 0,.int .i64 0,.int .i64 0,.int .i64 0,.int .i64 0,.int .i64 0,.int .i64 0,.int .i64 0,.int .i64 0,.int .i64 0,.int .i64 0,.int .i64 0,.int .i64 0,.int .i64 0,.int .i64 0,.int .i64 0,.int .i64 0,.int .i64 0,.int .i64 0,.int .i64 ((n:Nat):Int),.int .i64 1]),(7,.int .i64 ((n:Nat):Int)),(6,.slice p n cap),(5,.slice p n cap),(2,.pointer none),(0,.slice p n cap)] [boxA b1 98 (rgC p n cap (List.replicate 64 0) (List.replicate 64 0) ((n:Nat):Int) (-1))] [slF (rI2 .i64) p cap l]
  have e2:(rgC p n cap (List.replicate 64 0) (List.replicate 64 0) ((n:Nat):Int) (-1))=(rgC p n cap (List.replicate 64 0) (List.replicate 64 0) ((n:Nat):Int) (Pg.sg l)):=by rw [Pg.sg_neg hneg]
  rw [e2]
  refine za<|e_mv rfl<|e_p (zN ya rfl)<|e_mv rfl<|zh<|zd<|zB<|zka (X:=Nat×(List Nat)×(List Nat)) (fun x:Nat×(List Nat)×(List Nat)=>x.1≤n∧x.2.1.length=64∧x.2.2.length=64∧∀u,u<x.1→x.2.1.getD u 0=(u+n - 1)%n∧x.2.2.getD u 0=(u+1)%n) (fun x=>[(18,.int .i64 ((x.1:Nat):Int)),(17,.int .i64 ((n:Nat):Int)),(3,.pointer (some ⟨b1,0,none⟩)),(2,.pointer none),(0,.slice p n cap)]) (fun x=>[boxA b1 98 (rgC p n cap (x.2.1) (x.2.2) ((n:Nat):Int) (Pg.sg l))]) (fun x=>[slF (rI2 .i64) p cap l]) (fun x:Nat×(List Nat)×(List Nat)=>n - x.1) (0,(List.replicate 64 0),(List.replicate 64 0)) (show 0≤n∧(List.replicate 64 0).length=64∧(List.replicate 64 0).length=64∧∀u,u<0→(List.replicate 64 0).getD u 0=(u+n - 1)%n∧(List.replicate 64 0).getD u 0=(u+1)%n from by exact ⟨Nat.zero_le _,List.length_replicate,List.length_replicate,fun u h=>by omega⟩) ((.e rfl (by first|rfl|(congr 1;omega)|simp_all) (.of rfl)):SubM _ _) (ho:=((.c (i:=0) rfl .n):PickO _ _ _)) ((.c (j:=0) rfl .n):SelR _ _ _) ?_
  rintro ⟨w,B,N⟩ hI
  replace hI:w≤n∧B.length=64∧N.length=64∧∀u,u<w→B.getD u 0=(u+n - 1)%n∧N.getD u 0=(u+1)%n:=hI
  try dsimp only
  obtain ⟨hw,hLB,hLN,hall⟩:=hI
  refine zg<|za<|e_p (zY rfl rfl)<|zh<|zd<|zg<|zC rfl (fun h3=> ?_) (fun h3=> ?_)
  ·
   have hm0:0<n:=by omega
   have hm1:=Nat.mod_lt (w+n - 1) hm0
   have hm2:=Nat.mod_lt (w+1) hm0
   refine zA<|zd<|zg<|zB<|zg<|za<|e_mv rfl<|e_p (zb rfl)<|zh<|zd<|zg<|zW (OW:=[boxA b1 98 (rgC p n cap B N ((n:Nat):Int) (Pg.sg l))]) (O:=[]) 13 mixed (.then (.block (.then (.then (.block (.then .ret)))))) kr<|e_dm 0 rfl rfl rfl<|e_dm 1 rfl rfl rfl<|e_dm 2 rfl rfl rfl<|e_dm 3 rfl rfl rfl<|e_pv 4 rfl rfl (zN ya rfl)<|e_pv 5 rfl rfl (zI (z:=(((w+n):Nat):Int)) rfl rfl (w64 om))<|e_pv 6 rfl rfl (zla (z:=((((w+n):Nat):Int) - 1)) rfl rfl (w64 om)) ?_
   have e4:(((((w+n):Nat):Int) - 1):Int)=(((w+n - 1):Nat):Int):=by omega
   rw [e4]
   refine e_dm 7 rfl rfl rfl<|e_pv 8 rfl rfl (zN ya rfl)<|e_pv 9 rfl rfl (zwa (z:=((((w+n - 1)%n):Nat):Int)) rfl rfl om (remN om om))<|e_pv 10 rfl rfl (zQ rfl)<|e_pv 11 rfl rfl (ze yb rfl sz96 rfl rfl)<|e_pv 12 rfl rfl (zfa (i:=w) yc sz3 rfl rfl om)<|e_one 13 (zv kr rfl rfl rfl rfl rfl sz3 rfl (rg_setB (x:=((w+n - 1)%n)) rgl rgl om) ?_)
   refine zT kr<|zd<|zW (OW:=[boxA b1 98 (rgC p n cap (B.set w ((w+n - 1)%n)) N ((n:Nat):Int) (Pg.sg l))]) (O:=[]) 10 mixed (.block (.then (.then (.block (.then .ret))))) kr<|e_dm 0 rfl rfl rfl<|e_dm 1 rfl rfl rfl<|e_dm 2 rfl rfl rfl<|e_pv 3 rfl rfl (zI (z:=(((w+1):Nat):Int)) rfl rfl (w64 om))<|e_dm 4 rfl rfl rfl<|e_pv 5 rfl rfl (zN ya rfl)<|e_pv 6 rfl rfl (zwa (z:=((((w+1)%n):Nat):Int)) rfl rfl om (remN om om))<|e_pv 7 rfl rfl (zQ rfl)<|e_pv 8 rfl rfl (ze yb rfl sz96 rfl rfl)<|e_pv 9 rfl rfl (zfa (i:=w) yc sz3 rfl rfl om)<|e_one 10 (zv kr rfl rfl rfl rfl rfl sz3 rfl (rg_setN (x:=((w+1)%n)) rgl rgl om) ?_)
   refine zT kr<|zO<|zd<|za<|e_p (zI (z:=(((w+1):Nat):Int)) rfl rfl (w64 om))<|e_mv rfl<|zh<|zda ((w+1),(B.set w ((w+n - 1)%n)),(N.set w ((w+1)%n))) (show (w+1)≤n∧(B.set w ((w+n - 1)%n)).length=64∧(N.set w ((w+1)%n)).length=64∧∀u,u<(w+1)→(B.set w ((w+n - 1)%n)).getD u 0=(u+n - 1)%n∧(N.set w ((w+1)%n)).getD u 0=(u+1)%n from by refine ⟨by omega,by rw [List.length_set];exact hLB,by rw [List.length_set];exact hLN,fun u hu=> ?_⟩;rw [Pg.getD_set om,Pg.getD_set om];by_cases e:u=w;(rw [if_pos e,if_pos e,e];exact ⟨rfl,rfl⟩);(rw [if_neg e,if_neg e];exact hall u om)) (by show n - (w+1)<n - w;omega) ((.of rfl):SubM _ _) (ho:=((.c (i:=0) rfl .n):PickO _ _ _)) ((.c (j:=0) rfl .n):SelR _ _ _)
  ·
   refine zja<|zj<|zj<|zt<|zd<|zg<|za<|e_mv rfl<|e_p (zb rfl)<|zh<|zd<|zH ?_
   exact zy Tryz.results75 (b1,B,N) (Pg.Rg.mk0 h64 hLB hLN (fun u hu=>hall u om)) (zl rfl) rfl (ho:=((.c (i:=0) rfl .n):PickO _ _ _)) (.n:SelR _ _ _)
 ·
  refine zA<|zd<|zg<|zg ?_
  change RunC _ _ _ _ _ [(12,.bool (decide (Pg.db l<0))),(11,.int .i64 (Pg.db l)),(10,.slice p n cap),(3,.pointer (some ⟨b1,0,none⟩)),(9,.pointer (some ⟨b1,0,none⟩)),(8,.agg #[.slice p n cap,.int .i64 0,.int .i64 0,.int .i64 0,.int .i64 0,.int .i64 0,.int .i64 0,.int .i64 0,.int .i64 0,.int .i64 0,.int .i64 0,.int .i64 0,.int .i64 0,.int .i64 0,.int .i64 0,.int .i64 0,.int .i64 0,.int .i64 0,.int .i64 0,.int .i64 0,.int .i64 0,.int .i64 0,.int .i64 0,.int .i64 0,.int .i64 0,.int .i64 0,.int .i64 0,.int .i64 0,.int .i64 0,.int .i64 0,.int .i64 0,.int .i64 0,.int .i64 0,.int .i64 0,.int .i64 0,.int .i64 0,.int .i64 0,.int .i64 0,.int .i64 0,.int .i64 0,.int .i64 0,.int .i64 0,.int .i64 0,.int .i64 0,.int .i64 0,.int .i64 0,.int .i64 0,.int .i64 0,.int .i64 0,.int .i64 0,.int .i64 0,.int .i64 0,.int .i64 0,.int .i64 0,.int .i64 0,.int .i64 0,.int .i64 0,.int .i64 0,.int .i64 0,.int .i64 0,.int .i64 0,.int .i64 0,.int .i64 0,.int .i64 0,.int .i64 0,.int .i64 0,.int .i64 0,.int .i64 0,.int .i64 0,.int .i64 0,.int .i64 0,.int .i64 0,.int .i64 0,.int .i64 0,.int .i64 0,.int .i64 0,.int .i64 0,.int .i64 0,.int .i64 0,.int .i64 0,.int .i64 0,.int .i64 0,.int .i64 0,.int .i64 0,.int .i64 0,.int .i64 0,.int .i64 0,.int .i64 0,.int .i64 0,.int .i64 0,.int .i64 0,.int .i64 0,.int .i64 0,.int .i64 0,.int .i64 0,.int .i64 0,.int .i64 0,.int .i64 0,.int .i64 0,.int .i64 0,.int .i64 0,.int .i64 0,.int .i64 0,.int .i64 0,.int .i64 0,.int .i64 0,.int .i64 0,.int .i64 0,.int .i64 0,.int .i64 0,.int .i64 0,.int .i64 0,.int .i64 0,.int .i64 0,.int .i64 0,.int .i64 0,.int .i64 0,.int .i64 0,.int .i64 0,.int .i64 0,.int .i64 0,.int .i64 0,.int .i64 0,.int .i64 0,.int .i64 0,.int .i64 0,.int .i64 0,.int .i64 0,.int .i64 0,.int .i64 ((n:Nat):Int),.int .i64 1]),(7,.int .i64 ((n:Nat):Int)),(6,.slice p n cap),(5,.slice p n cap),(2,.pointer none),(0,.slice p n cap)] [boxA b1 98 (rgC p n cap (List.replicate 64 0) (List.replicate 64 0) ((n:Nat):Int) 1)] [slF (rI2 .i64) p cap l]
  have e5:(rgC p n cap (List.replicate 64 0) (List.replicate 64 0) ((n:Nat):Int) 1)=(rgC p n cap (List.replicate 64 0) (List.replicate 64 0) ((n:Nat):Int) (Pg.sg l)):=by rw [Pg.sg_pos hneg]
  rw [e5]
  refine za<|e_mv rfl<|e_p (zN ya rfl)<|e_mv rfl<|zh<|zd<|zB<|zka (X:=Nat×(List Nat)×(List Nat)) (fun x:Nat×(List Nat)×(List Nat)=>x.1≤n∧x.2.1.length=64∧x.2.2.length=64∧∀u,u<x.1→x.2.1.getD u 0=(u+n - 1)%n∧x.2.2.getD u 0=(u+1)%n) (fun x=>[(18,.int .i64 ((x.1:Nat):Int)),(17,.int .i64 ((n:Nat):Int)),(3,.pointer (some ⟨b1,0,none⟩)),(2,.pointer none),(0,.slice p n cap)]) (fun x=>[boxA b1 98 (rgC p n cap (x.2.1) (x.2.2) ((n:Nat):Int) (Pg.sg l))]) (fun x=>[slF (rI2 .i64) p cap l]) (fun x:Nat×(List Nat)×(List Nat)=>n - x.1) (0,(List.replicate 64 0),(List.replicate 64 0)) (show 0≤n∧(List.replicate 64 0).length=64∧(List.replicate 64 0).length=64∧∀u,u<0→(List.replicate 64 0).getD u 0=(u+n - 1)%n∧(List.replicate 64 0).getD u 0=(u+1)%n from by exact ⟨Nat.zero_le _,List.length_replicate,List.length_replicate,fun u h=>by omega⟩) ((.e rfl (by first|rfl|(congr 1;omega)|simp_all) (.of rfl)):SubM _ _) (ho:=((.c (i:=0) rfl .n):PickO _ _ _)) ((.c (j:=0) rfl .n):SelR _ _ _) ?_
  rintro ⟨w,B,N⟩ hI
  replace hI:w≤n∧B.length=64∧N.length=64∧∀u,u<w→B.getD u 0=(u+n - 1)%n∧N.getD u 0=(u+1)%n:=hI
  try dsimp only
  obtain ⟨hw,hLB,hLN,hall⟩:=hI
  refine zg<|za<|e_p (zY rfl rfl)<|zh<|zd<|zg<|zC rfl (fun h6=> ?_) (fun h6=> ?_)
  ·
   have hm0:0<n:=by omega
   have hm1:=Nat.mod_lt (w+n - 1) hm0
   have hm2:=Nat.mod_lt (w+1) hm0
   refine zA<|zd<|zg<|zB<|zg<|za<|e_mv rfl<|e_p (zb rfl)<|zh<|zd<|zg<|zW (OW:=[boxA b1 98 (rgC p n cap B N ((n:Nat):Int) (Pg.sg l))]) (O:=[]) 13 mixed (.then (.block (.then (.then (.block (.then .ret)))))) kr<|e_dm 0 rfl rfl rfl<|e_dm 1 rfl rfl rfl<|e_dm 2 rfl rfl rfl<|e_dm 3 rfl rfl rfl<|e_pv 4 rfl rfl (zN ya rfl)<|e_pv 5 rfl rfl (zI (z:=(((w+n):Nat):Int)) rfl rfl (w64 om))<|e_pv 6 rfl rfl (zla (z:=((((w+n):Nat):Int) - 1)) rfl rfl (w64 om)) ?_
   have e7:(((((w+n):Nat):Int) - 1):Int)=(((w+n - 1):Nat):Int):=by omega
   rw [e7]
   refine e_dm 7 rfl rfl rfl<|e_pv 8 rfl rfl (zN ya rfl)<|e_pv 9 rfl rfl (zwa (z:=((((w+n - 1)%n):Nat):Int)) rfl rfl om (remN om om))<|e_pv 10 rfl rfl (zQ rfl)<|e_pv 11 rfl rfl (ze yb rfl sz96 rfl rfl)<|e_pv 12 rfl rfl (zfa (i:=w) yc sz3 rfl rfl om)<|e_one 13 (zv kr rfl rfl rfl rfl rfl sz3 rfl (rg_setB (x:=((w+n - 1)%n)) rgl rgl om) ?_)
   refine zT kr<|zd<|zW (OW:=[boxA b1 98 (rgC p n cap (B.set w ((w+n - 1)%n)) N ((n:Nat):Int) (Pg.sg l))]) (O:=[]) 10 mixed (.block (.then (.then (.block (.then .ret))))) kr<|e_dm 0 rfl rfl rfl<|e_dm 1 rfl rfl rfl<|e_dm 2 rfl rfl rfl<|e_pv 3 rfl rfl (zI (z:=(((w+1):Nat):Int)) rfl rfl (w64 om))<|e_dm 4 rfl rfl rfl<|e_pv 5 rfl rfl (zN ya rfl)<|e_pv 6 rfl rfl (zwa (z:=((((w+1)%n):Nat):Int)) rfl rfl om (remN om om))<|e_pv 7 rfl rfl (zQ rfl)<|e_pv 8 rfl rfl (ze yb rfl sz96 rfl rfl)<|e_pv 9 rfl rfl (zfa (i:=w) yc sz3 rfl rfl om)<|e_one 10 (zv kr rfl rfl rfl rfl rfl sz3 rfl (rg_setN (x:=((w+1)%n)) rgl rgl om) ?_)
   refine zT kr<|zO<|zd<|za<|e_p (zI (z:=(((w+1):Nat):Int)) rfl rfl (w64 om))<|e_mv rfl<|zh<|zda ((w+1),(B.set w ((w+n - 1)%n)),(N.set w ((w+1)%n))) (show (w+1)≤n∧(B.set w ((w+n - 1)%n)).length=64∧(N.set w ((w+1)%n)).length=64∧∀u,u<(w+1)→(B.set w ((w+n - 1)%n)).getD u 0=(u+n - 1)%n∧(N.set w ((w+1)%n)).getD u 0=(u+1)%n from by refine ⟨by omega,by rw [List.length_set];exact hLB,by rw [List.length_set];exact hLN,fun u hu=> ?_⟩;rw [Pg.getD_set om,Pg.getD_set om];by_cases e:u=w;(rw [if_pos e,if_pos e,e];exact ⟨rfl,rfl⟩);(rw [if_neg e,if_neg e];exact hall u om)) (by show n - (w+1)<n - w;omega) ((.of rfl):SubM _ _) (ho:=((.c (i:=0) rfl .n):PickO _ _ _)) ((.c (j:=0) rfl .n):SelR _ _ _)
  ·
   refine zja<|zj<|zj<|zt<|zd<|zg<|za<|e_mv rfl<|e_p (zb rfl)<|zh<|zd<|zH ?_
   exact zy Tryz.results75 (b1,B,N) (Pg.Rg.mk0 h64 hLB hLN (fun u hu=>hall u om)) (zl rfl) rfl (ho:=((.c (i:=0) rfl .n):PickO _ _ _)) (.n:SelR _ _ _)
theorem zcg {p:Option Addr} {n:Nat} {cap:Nat} {l:List Pg.P2} (hn:l.length=n):Con ye 30 [.slice p n cap] [] [slF (rI2 .i64) p cap l] (Y:=(Option Addr)×Nat) (fun y=>True) (fun y=> .tuple #[.slice (y.1) ((Pg.erV l).length) (y.2),.int .i64 (Pg.erC l)]) (fun y=>[rowA 50 (rI3 .i64) (y.1) (y.2) (Pg.erV l)]) (fun y=>[]):=by
 refine zm Tryz.func30 rfl rfl rfl (fun c=> ?_)
 show RunC _ _ _ _ _ [(0,.slice p n cap)] [] [slF (rI2 .i64) p cap l]
 refine zba 0 rfl (fun hL0=> ?_)
 refine zg<|za<|e_p (zb rfl)<|e_p (zb rfl)<|zh<|zd<|zg<|zg<|za<|e_mv rfl<|zL rfl rfl (.c rfl .n) ce15 (zyb (p:=p) (n:=n) (cap:=cap) (l:=l) (hn:=ass)) (.c (j:=0) rfl .n)<|e_p (zb rfl)<|zh<|zd<|zg<|za<|e_mv rfl<|e_p (zMa rfl rfl)<|zh<|zd<|zC rfl (fun hbad=> ?_) (fun hbad=> ?_)
 ·
  obtain ⟨hv1,hv2⟩:=Pg.er_bad hbad
  refine zg<|zcb 50 (rI3 .i64) ?_
  have e1:([]:List Pg.T3)=(Pg.erV l):=by exact hv1.symm
  rw [e1]
  refine za<|e_mv rfl<|e_p (zb rfl)<|e_p (zb rfl)<|zh<|zd<|zH<|zi ?_
  exact zra Tryz.results30 (none,0) trivial (zl rfl) (zl rfl) (by rw [hv1,hv2];rfl) (ho:=((.c (i:=0) rfl .n):PickO _ _ _)) (.n:SelR _ _ _)
 ·
  have hz:=Decidable.not_not.1 hbad
  have hok:=Pg.ok hz
  have hrng:=hok.rng
  have h64:n≤64:=by have:=hok.n64;omega
  have hn3:3≤n:=by have:=hok.n3;omega
  refine zA<|zd<|zg<|za<|e_mv rfl<|zE rfl rfl (.c rfl .n) ce75 (zdc (p:=p) (n:=n) (cap:=cap) (l:=l) (hn:=ass) (h64:=by first|rfl|assumption|omega|exact hok.n64|exact hok.rng|exact hG.1|exact Pg.sg_rng l) (hrng:=by first|rfl|assumption|omega|exact hok.n64|exact hok.rng|exact hG.1|exact Pg.sg_rng l)) (.c (j:=0) rfl .n) ?_
  rintro ⟨b2,B3,N4⟩ hR0
  dsimp only [aq,nq,cq]
  replace hR0:Pg.Rg n (List.range n) B3 N4:=hR0
  refine e_p (zb rfl)<|zh<|zd<|zg<|za<|e_mv rfl<|e_p (zN ya rfl)<|zFa rfl rfl (zqb (r:=rB) (k:=n) (x0:=false) (γ0:=()) yf inf4 rfl rfl rfl rfl om om rfl (fun g _=>by trivial) dd) (fun b5 _=> ?_)
  refine e_p (zb rfl)<|zh<|zd<|zg<|zcb 50 (rI3 .i64)<|za<|e_p (zb rfl)<|zh<|zd<|zg<|zB<|zka (X:=(List Nat)×(List Nat)×(List Nat)×(List Bool)×(List Pg.T3)×(Option Addr)×Nat) (fun x:(List Nat)×(List Nat)×(List Nat)×(List Bool)×(List Pg.T3)×(Option Addr)×Nat=>Pg.Rg n x.1 x.2.1 x.2.2.1∧3≤x.1.length∧x.1.length≤64∧Pg.Gn n x.1 x.2.2.2.1∧Pg.ears l (Pg.sg l) (x.1.length - 3) x.1 x.2.2.2.2.1=Pg.earO l∧x.2.2.2.2.1.length+x.1.length=n) (fun x=>[(7,.slice (x.2.2.2.2.2.1) (x.2.2.2.2.1.length) (x.2.2.2.2.2.2)),(6,.slice (some ⟨b5,0,none⟩) n n),(5,.pointer (some ⟨b2,0,none⟩))]) (fun x=>[rowA 50 (rI3 .i64) (x.2.2.2.2.2.1) (x.2.2.2.2.2.2) (x.2.2.2.2.1),rowA 4 rB (some ⟨b5,0,none⟩) n (x.2.2.2.1),boxA b2 98 (rgC p n cap (x.2.1) (x.2.2.1) ((x.1.length:Nat):Int) (Pg.sg l))]) (fun x=>[slF (rI2 .i64) p cap l]) (fun x:(List Nat)×(List Nat)×(List Nat)×(List Bool)×(List Pg.T3)×(Option Addr)×Nat=>x.1.length) ((List.range n),B3,N4,(List.replicate n false),[],none,0) (show Pg.Rg n (List.range n) B3 N4∧3≤(List.range n).length∧(List.range n).length≤64∧Pg.Gn n (List.range n) (List.replicate n false)∧Pg.ears l (Pg.sg l) ((List.range n).length - 3) (List.range n) ([])=Pg.earO l∧([]).length+(List.range n).length=n from by exact ⟨hR0,by rw [List.length_range];exact hn3,by rw [List.length_range];exact h64,Pg.Gn.zero,by rw [List.length_range];unfold Pg.earO;rw [hn],by rw [List.length_range];exact Nat.zero_add n⟩) ((.e rfl (by first|rfl|(congr 1;omega)|simp_all) (.c rfl (.c rfl .n))):SubM _ _) (ho:=((.c (i:=0) rfl (.e (i:=0) rfl (by first|rfl|(congr 1;omega)|simp_all) (.e (i:=0) rfl (by first|rfl|(congr 1;omega)|simp_all) .n))):PickO _ _ _)) ((.c (j:=0) rfl .n):SelR _ _ _) ?_
  rintro ⟨L,B,N,G,out,p7,c7⟩ hI
  replace hI:Pg.Rg n L B N∧3≤L.length∧L.length≤64∧Pg.Gn n L G∧Pg.ears l (Pg.sg l) (L.length - 3) L out=Pg.earO l∧out.length+L.length=n:=hI
  try dsimp only
  obtain ⟨hg,h3,h4,hG,hE,ho⟩:=hI
  have hLB:=hg.lb
  have hLN:=hg.ln
  have hGn:=hG.1
  refine zg<|zg<|za<|e_mv rfl<|e_p (zQ rfl)<|e_p (ze yb rfl sz3 rfl rfl)<|e_ru (zf 2 ty3 rfl rfl (rg_k rgl rgl))<|e_p (zAa rfl rfl)<|zh<|zd<|zC rfl (fun hgt=> ?_) (fun hgt=> ?_)
  ·
   refine zA<|zd<|zB<|zg<|za<|e_mv rfl<|e_mv rfl<|e_mv rfl<|e_p (zLa (.c rfl .n) .n)<|zkd (zca (i:=1) rfl)<|zkd (zca (i:=2) rfl)<|zrb (A:=[boxA b2 98 (rgC p n cap B N ((L.length:Nat):Int) (Pg.sg l)),rowA 4 rB (some ⟨b5,0,none⟩) n G]) (F:=[rowA 50 (rI3 .i64) p7 c7 out]) (first:=[]) (cap:=[]) rfl rfl rfl (.c rfl (.c rfl (.c rfl .n))) ce76 (zNe (b:=b2) (p:=p) (n:=n) (cap:=cap) (l:=l) (B:=B) (N:=N) (kk:=((L.length:Nat):Int)) (s:=(Pg.sg l)) (L:=L) (pb:=some ⟨b5,0,none⟩) (nb:=n) (cb:=n) (G:=G) (hn:=ass) (hg:=by first|rfl|assumption|omega|exact hok.n64|exact hok.rng|exact hG.1|exact Pg.sg_rng l) (hrng:=by first|rfl|assumption|omega|exact hok.n64|exact hok.rng|exact hG.1|exact Pg.sg_rng l) (hs:=by first|rfl|assumption|omega|exact hok.n64|exact hok.rng|exact hG.1|exact Pg.sg_rng l) (hG:=by first|rfl|assumption|omega|exact hok.n64|exact hok.rng|exact hG.1|exact Pg.sg_rng l) (hnb:=by first|rfl|assumption|omega|exact hok.n64|exact hok.rng|exact hG.1|exact Pg.sg_rng l) (h3:=by first|rfl|assumption|omega|exact hok.n64|exact hok.rng|exact hG.1|exact Pg.sg_rng l)) (.c (j:=0) rfl .n) ?_
   rintro r1 hR1
   dsimp only [aq,nq,cq]
   replace hR1:Pg.Fst L (Pg.earI l (Pg.sg l) L) r1:=hR1
   refine e_p (zb rfl)<|zh<|zd<|zg<|zg<|za<|e_mv rfl<|e_p (zY rfl rfl)<|zh<|zd<|zC rfl (fun hneg=> ?_) (fun hneg=> ?_)
   ·
    refine zg ?_
    have hqn:∀j,j<L.length→¬Pg.earI l (Pg.sg l) L j:=by rcases hR1 with ⟨w,h5,h6,h7⟩|h;(exfalso;omega);exact h.2
    obtain ⟨hv1,hv2⟩:=Pg.er_none hz (by rw [← hE];exact Pg.ears_none om hqn)
    refine zcb 50 (rI3 .i64) ?_
    have e6:([]:List Pg.T3)=(Pg.erV l):=by exact hv1.symm
    rw [e6]
    refine za<|e_p (zb rfl)<|e_p (zb rfl)<|zh<|zd<|zH<|zi<|zp<|zi<|zp<|zi ?_
    exact zra Tryz.results30 (none,0) trivial (zl rfl) (zl rfl) (by rw [hv1,hv2];rfl) (ho:=((.c (i:=0) rfl .n):PickO _ _ _)) (.n:SelR _ _ _)
   ·
    obtain ⟨q,hq1,hq2,hq3,hq4⟩:∃q,q<L.length∧r1=((Pg.nt L q:Nat):Int)∧(Pg.earI l (Pg.sg l) L) q∧∀j,j<q→¬(Pg.earI l (Pg.sg l) L) j:=by rcases hR1 with h|h;exact h;first|omega|exact absurd trivial (h.2 0 om)
    have e7:(r1:Int)=(((Pg.nt L q):Nat):Int):=by exact hq2
    rw [e7]
    obtain ⟨haq1,haq2,haq3,haq4,haq5⟩:=hg.at hq1 rfl
    have hLBq:=hg.lb
    have hLNq:=hg.ln
    have hL6q:=hg.n64
    refine zA<|zd<|zg<|zqa (.c (i:=2) rfl (.c (i:=0) rfl (.c (i:=0) rfl .n)))<|zW (OW:=[rowA 50 (rI3 .i64) p7 c7 out]) (O:=[boxA b2 98 (rgC p n cap B N ((L.length:Nat):Int) (Pg.sg l)),rowA 4 rB (some ⟨b5,0,none⟩) n G]) 16 mixed (.then (.block (.then (.block (.then .ret))))) kr<|e_dm 0 rfl rfl rfl<|e_dm 1 rfl rfl rfl<|e_dm 2 rfl rfl rfl<|e_pv 3 rfl rfl (zQ rfl)<|e_pv 4 rfl rfl (ze yb rfl sz96 rfl rfl)<|e_pv 5 rfl rfl (zfa (i:=(Pg.nt L q)) yc sz3 rfl rfl om)<|e_uw 6 rfl rfl (zf 1 ty3 rfl rfl (rg_B rgl rgl om))<|e_dm 7 rfl rfl rfl<|e_dm 8 rfl rfl rfl<|e_dm 9 rfl rfl rfl<|e_pv 10 rfl rfl (zQ rfl)<|e_pv 11 rfl rfl (ze yb rfl sz96 rfl rfl)<|e_pv 12 rfl rfl (zfa (i:=(Pg.nt L q)) yc sz3 rfl rfl om)<|e_uw 13 rfl rfl (zf 1 ty3 rfl rfl (rg_N rgl rgl om))<|e_pv 14 rfl rfl (zRa zr50 rfl Tryz.underlying50 sz3 (.c rfl (.c rfl (.c rfl .n))) (.c rfl rfl rfl (.take .nil) (.c rfl rfl rfl (.skip (.take .nil)) (.c rfl rfl rfl (.s2 (.take .nil)) .n))))<|e_one 15 (zSc rfl rfl rfl rfl (zV (enc:=fun z:Int×Int×Int=>[.int .i64 z.1,.int .i64 z.2.1,.int .i64 z.2.2]) (ok:=fun z=>InK .i64 z.1∧InK .i64 z.2.1∧InK .i64 z.2.2) (h1:=fun _=>rfl) (h2:=fun _=>rfl) (k:=1) yi inf50 rfl dd dd dd (.c (x:=((((B.getD (Pg.nt L q) 0):Nat):Int),(((Pg.nt L q):Nat):Int),(((N.getD (Pg.nt L q) 0):Nat):Int))) rfl rfl (fun _ _=>by exact ⟨zD.2 (by first|omega|decide|(dsimp only;omega)),zD.2 (by first|omega|decide|(dsimp only;omega)),zD.2 (by first|omega|decide|(dsimp only;omega))⟩) .n)) (fun b8 _=> ?_))
    refine zbb 0 rfl .z<|e_one 16 (zId (A':=fun v:Option Addr×Nat=>rowA 50 (rI3 .i64) v.1 v.2 (out++([((((B.getD (Pg.nt L q) 0):Nat):Int),(((Pg.nt L q):Nat):Int),(((N.getD (Pg.nt L q) 0):Nat):Int))]))) kr rfl rfl rfl (zsa 0 rfl yi inf50 dd rfl rfl cbs rfl cbs om om) ?_)
    rintro ⟨p9,c10⟩ -
    dsimp only [aq,nq,cq]
    refine e_pv 17 rfl rfl (zb rfl)<|zT kr<|zd<|zg<|za<|e_mv rfl<|e_mv rfl<|zkd (zca (i:=2) rfl)<|zrb (A:=[boxA b2 98 (rgC p n cap B N ((L.length:Nat):Int) (Pg.sg l))]) (F:=[rowA 50 (rI3 .i64) p9 c10 (out++([((((B.getD (Pg.nt L q) 0):Nat):Int),(((Pg.nt L q):Nat):Int),(((N.getD (Pg.nt L q) 0):Nat):Int))])),emA,rowA 4 rB (some ⟨b5,0,none⟩) n G]) (first:=[]) (cap:=[]) rfl rfl rfl (.c rfl (.c rfl .n)) ce78 (zCf (b:=b2) (p:=p) (n:=n) (cap:=cap) (l:=l) (B:=B) (N:=N) (kk:=((L.length:Nat):Int)) (s:=(Pg.sg l)) (L:=L) (v:=(Pg.nt L q)) (i:=q) (hn:=ass) (hg:=by first|rfl|assumption|omega|exact hok.n64|exact hok.rng|exact hG.1|exact Pg.sg_rng l) (hrng:=by first|rfl|assumption|omega|exact hok.n64|exact hok.rng|exact hG.1|exact Pg.sg_rng l) (hs:=by first|rfl|assumption|omega|exact hok.n64|exact hok.rng|exact hG.1|exact Pg.sg_rng l) (hi:=by first|rfl|assumption|omega|exact hok.n64|exact hok.rng|exact hG.1|exact Pg.sg_rng l) (hv:=by first|rfl|assumption|omega|exact hok.n64|exact hok.rng|exact hG.1|exact Pg.sg_rng l) (h2:=by first|rfl|assumption|omega|exact hok.n64|exact hok.rng|exact hG.1|exact Pg.sg_rng l) (hk0:=by first|rfl|assumption|omega|exact hok.n64|exact hok.rng|exact hG.1|exact Pg.sg_rng l)) (.c (j:=1) rfl .n) ?_
    rintro ⟨⟩ -
    dsimp only [aq,nq,cq]
    refine zh<|zd ?_
    have hlen:(L.eraseIdx q).length=L.length - 1:=by rw [List.length_eraseIdx,if_pos hq1]
    have e11:((L.length:Nat):Int) - 1=(((L.eraseIdx q).length:Nat):Int):=by omega
    rw [e11]
    refine za<|e_mv rfl<|e_mv rfl<|e_p (zia (j:=(Pg.nt L q)) yf sz4 rfl rfl rfl om)<|zIa 3 rfl rfl rfl (zea (j:=(Pg.nt L q)) (x0:=true) (γ0:=()) rfl rfl (by first|omega|(rw [List.length_map];omega)|(simp only [List.length_set];omega)|(simp;done)|(simp;omega)) rfl rfl sz4 (fun _ _=>by trivial)) (fun _=>(.s (.s (.s .z)))) (fun _ _=> ?_)
    refine zh<|zO<|zda ((L.eraseIdx q),(Pg.cutB B N (Pg.nt L q)),(Pg.cutN B N (Pg.nt L q)),(G.set (Pg.nt L q) true),(out++([((((B.getD (Pg.nt L q) 0):Nat):Int),(((Pg.nt L q):Nat):Int),(((N.getD (Pg.nt L q) 0):Nat):Int))])),p9,c10) (show Pg.Rg n (L.eraseIdx q) (Pg.cutB B N (Pg.nt L q)) (Pg.cutN B N (Pg.nt L q))∧3≤(L.eraseIdx q).length∧(L.eraseIdx q).length≤64∧Pg.Gn n (L.eraseIdx q) (G.set (Pg.nt L q) true)∧Pg.ears l (Pg.sg l) ((L.eraseIdx q).length - 3) (L.eraseIdx q) (out++([((((B.getD (Pg.nt L q) 0):Nat):Int),(((Pg.nt L q):Nat):Int),(((N.getD (Pg.nt L q) 0):Nat):Int))]))=Pg.earO l∧(out++([((((B.getD (Pg.nt L q) 0):Nat):Int),(((Pg.nt L q):Nat):Int),(((N.getD (Pg.nt L q) 0):Nat):Int))])).length+(L.eraseIdx q).length=n from by exact ⟨hg.cut hq1 rfl om,by omega,by omega,hG.set hg hq1 rfl,(by have h9:=Pg.ears_some (l:=l) (s:=Pg.sg l) (out:=out) om hq1 hq3 hq4;unfold Pg.tri at h9;rw [← haq2,←haq3] at h9;rw [← h9];exact hE),by rw [List.length_append,hlen];show out.length+1+_=_;omega⟩) (by show (L.eraseIdx q).length<L.length;omega) ((.e rfl (by first|rfl|(congr 1;omega)|simp_all) (.c rfl (.c rfl .n))):SubM _ _) (ho:=((.c (i:=1) rfl (.c (i:=2) rfl (.e (i:=0) rfl (by first|rfl|(congr 1;omega)|simp_all) .n))):PickO _ _ _)) ((.c (j:=1) rfl .n):SelR _ _ _)
  ·
   refine zja<|zj<|zj<|zt<|zd<|zg<|za<|e_mv rfl<|e_mv rfl<|zkd (zca (i:=1) rfl)<|zkd (zca (i:=2) rfl)<|zrb (A:=[boxA b2 98 (rgC p n cap B N ((L.length:Nat):Int) (Pg.sg l)),rowA 4 rB (some ⟨b5,0,none⟩) n G]) (F:=[rowA 50 (rI3 .i64) p7 c7 out]) (first:=[]) (cap:=[]) rfl rfl rfl (.c rfl (.c rfl (.c rfl .n))) ce76 (zOe (b:=b2) (p:=p) (n:=n) (cap:=cap) (l:=l) (B:=B) (N:=N) (kk:=((L.length:Nat):Int)) (s:=(Pg.sg l)) (L:=L) (pb:=some ⟨b5,0,none⟩) (nb:=n) (cb:=n) (G:=G) (hn:=ass) (hg:=by first|rfl|assumption|omega|exact hok.n64|exact hok.rng|exact hG.1|exact Pg.sg_rng l) (hrng:=by first|rfl|assumption|omega|exact hok.n64|exact hok.rng|exact hG.1|exact Pg.sg_rng l) (hs:=by first|rfl|assumption|omega|exact hok.n64|exact hok.rng|exact hG.1|exact Pg.sg_rng l) (hG:=by first|rfl|assumption|omega|exact hok.n64|exact hok.rng|exact hG.1|exact Pg.sg_rng l) (hnb:=by first|rfl|assumption|omega|exact hok.n64|exact hok.rng|exact hG.1|exact Pg.sg_rng l) (h3:=by first|rfl|assumption|omega|exact hok.n64|exact hok.rng|exact hG.1|exact Pg.sg_rng l)) (.c (j:=0) rfl .n) ?_
   rintro r2 hR2
   dsimp only [aq,nq,cq]
   replace hR2:Pg.Fst L (fun _=>True) r2:=hR2
   refine e_p (zb rfl)<|zh<|zd<|zg ?_
   obtain ⟨q,hq1,hq2,hq3,hq4⟩:∃q,q<L.length∧r2=((Pg.nt L q:Nat):Int)∧(fun _=>True) q∧∀j,j<q→¬(fun _=>True) j:=by rcases hR2 with h|h;exact h;first|omega|exact absurd trivial (h.2 0 om)
   have hq0:q=0:=by rcases Nat.eq_zero_or_pos q with h|h;exact h;exact absurd trivial (hq4 0 h)
   subst hq0
   have e12:(r2:Int)=(((Pg.nt L 0):Nat):Int):=by exact hq2
   rw [e12]
   obtain ⟨ha01,ha02,ha03,ha04,ha05⟩:=hg.at hq1 rfl
   have hLB0:=hg.lb
   have hLN0:=hg.ln
   have hL60:=hg.n64
   obtain ⟨ha11,ha12,ha13,ha14,ha15⟩:=hg.at (show 1<L.length by omega) rfl
   have hLB1:=hg.lb
   have hLN1:=hg.ln
   have hL61:=hg.n64
   have hL3:L.length=3:=by omega
   have hk1:N.getD (Pg.nt L 0) 0=Pg.nt L 1:=by rw [ha02,hL3];rfl
   have hk2:N.getD (Pg.nt L 1) 0=Pg.nt L 2:=by rw [ha12,hL3];rfl
   have hk3:N.getD (N.getD (Pg.nt L 0) 0) 0<64:=by rw [hk1];omega
   obtain ⟨hv1,hv2⟩:=Pg.er_some hz (hE.symm.trans (Pg.ears_end (out:=out) (l:=l) (s:=Pg.sg l) hL3))
   refine zqa (.c (i:=2) rfl (.c (i:=0) rfl (.c (i:=0) rfl .n)))<|zW (OW:=[rowA 50 (rI3 .i64) p7 c7 out]) (O:=[boxA b2 98 (rgC p n cap B N ((L.length:Nat):Int) (Pg.sg l)),rowA 4 rB (some ⟨b5,0,none⟩) n G]) 21 mixed (.then .ret) kr<|e_dm 0 rfl rfl rfl<|e_dm 1 rfl rfl rfl<|e_dm 2 rfl rfl rfl<|e_dm 3 rfl rfl rfl<|e_pv 4 rfl rfl (zQ rfl)<|e_pv 5 rfl rfl (ze yb rfl sz96 rfl rfl)<|e_pv 6 rfl rfl (zfa (i:=(Pg.nt L 0)) yc sz3 rfl rfl om)<|e_uw 7 rfl rfl (zf 1 ty3 rfl rfl (rg_N rgl rgl om))<|e_dm 8 rfl rfl rfl<|e_dm 9 rfl rfl rfl<|e_dm 10 rfl rfl rfl<|e_pv 11 rfl rfl (zQ rfl)<|e_pv 12 rfl rfl (ze yb rfl sz96 rfl rfl)<|e_pv 13 rfl rfl (zfa (i:=(Pg.nt L 0)) yc sz3 rfl rfl om)<|e_uw 14 rfl rfl (zf 1 ty3 rfl rfl (rg_N rgl rgl om))<|e_pv 15 rfl rfl (zQ rfl)<|e_pv 16 rfl rfl (ze yb rfl sz96 rfl rfl)<|e_pv 17 rfl rfl (zfa (i:=(N.getD (Pg.nt L 0) 0)) yc sz3 rfl rfl om)<|e_uw 18 rfl rfl (zf 1 ty3 rfl rfl (rg_N rgl rgl om))<|e_pv 19 rfl rfl (zRa zr50 rfl Tryz.underlying50 sz3 (.c rfl (.c rfl (.c rfl .n))) (.c rfl rfl rfl (.take .nil) (.c rfl rfl rfl (.skip (.take .nil)) (.c rfl rfl rfl (.s2 (.take .nil)) .n))))<|e_one 20 (zSc rfl rfl rfl rfl (zV (enc:=fun z:Int×Int×Int=>[.int .i64 z.1,.int .i64 z.2.1,.int .i64 z.2.2]) (ok:=fun z=>InK .i64 z.1∧InK .i64 z.2.1∧InK .i64 z.2.2) (h1:=fun _=>rfl) (h2:=fun _=>rfl) (k:=1) yi inf50 rfl dd dd dd (.c (x:=((((Pg.nt L 0):Nat):Int),(((N.getD (Pg.nt L 0) 0):Nat):Int),(((N.getD (N.getD (Pg.nt L 0) 0) 0):Nat):Int))) rfl rfl (fun _ _=>by exact ⟨zD.2 (by first|omega|decide|(dsimp only;omega)),zD.2 (by first|omega|decide|(dsimp only;omega)),zD.2 (by first|omega|decide|(dsimp only;omega))⟩) .n)) (fun b13 _=> ?_))
   refine zbb 0 rfl .z<|e_one 21 (zId (A':=fun v:Option Addr×Nat=>rowA 50 (rI3 .i64) v.1 v.2 (out++([((((Pg.nt L 0):Nat):Int),(((N.getD (Pg.nt L 0) 0):Nat):Int),(((N.getD (N.getD (Pg.nt L 0) 0) 0):Nat):Int))]))) kr rfl rfl rfl (zsa 0 rfl yi inf50 dd rfl rfl cbs rfl cbs om om) ?_)
   rintro ⟨p14,c15⟩ -
   dsimp only [aq,nq,cq]
   refine e_pv 22 rfl rfl (zb rfl)<|e_pv 23 rfl rfl (zb rfl)<|zT kr<|zd<|zH ?_
   have e16:((out++([((((Pg.nt L 0):Nat):Int),(((N.getD (Pg.nt L 0) 0):Nat):Int),(((N.getD (N.getD (Pg.nt L 0) 0) 0):Nat):Int))])):List Pg.T3)=(Pg.erV l):=by rw [hv1,hk1,hk2]
   rw [e16]
   exact zra Tryz.results30 (p14,c15) trivial (zl rfl) (zl rfl) (by rw [hv1,hv2];simp) (ho:=((.c (i:=0) rfl .n):PickO _ _ _)) (.n:SelR _ _ _)
end Go.Proofs.YtjcpbhlijoigfaaGreat.Sp
namespace Go.Proofs.YtjcpbhlijoigfaaGreat.Sp
open Go
set_option linter.unusedVariables false
set_option maxRecDepth 100000
set_option maxHeartbeats 8000000
theorem zmd {p:Option Addr} {n:Nat} {cap:Nat} {l:List Pg.P2} {hx:Int} {hy:Int} (hn:l.length=n) (hwhx: -9223372036854775808≤hx∧hx≤9223372036854775807) (hwhy: -9223372036854775808≤hy∧hy≤9223372036854775807):Con ye 17 [.slice p n cap,.agg #[.int .i64 hx,.int .i64 hy]] [] [slF (rI2 .i64) p cap l] (Y:=Unit) (fun y=>True) (fun y=> .tuple #[.int .i64 (Pg.isV l (hx,hy)),.int .i64 (Pg.isC l (hx,hy))]) (fun y=>[]) (fun y=>[]):=by
 refine zm Tryz.func17 rfl rfl rfl (fun c=> ?_)
 show RunC _ _ _ _ _ [(0,.slice p n cap),(1,.agg #[.int .i64 hx,.int .i64 hy])] [] [slF (rI2 .i64) p cap l]
 refine zba 0 rfl (fun hL0=> ?_)
 refine zg<|za<|zM rfl rfl (zR rfl rfl) (fun b1=> ?_)
 refine e_p (zb rfl)<|e_p (zb rfl)<|zh<|zd<|zg<|zg<|za<|e_mv rfl<|zL rfl rfl (.c rfl .n) ce15 (zyb (p:=p) (n:=n) (cap:=cap) (l:=l) (hn:=ass)) (.c (j:=0) rfl .n)<|e_p (zb rfl)<|zh<|zd<|zg<|za<|e_mv rfl<|e_p (zMa rfl rfl)<|zh<|zd<|zC rfl (fun hbad=> ?_) (fun hbad=> ?_)
 ·
  refine zg<|za<|e_mv rfl<|e_p (zb rfl)<|e_p (zb rfl)<|zh<|zd<|zH<|zi ?_
  obtain ⟨hv1,hv2⟩:=Pg.is_bad (q:=(hx,hy)) hbad
  exact zra yk () trivial (zl rfl) (zl rfl) (by rw [hv1,hv2]) (ho:=(.n:PickO _ _ _)) (.n:SelR _ _ _)
 ·
  have hz:=Decidable.not_not.1 hbad
  have hok:=Pg.ok hz
  have hrng:=hok.rng
  have h64:=hok.n64
  refine zA<|zd<|zg<|zg<|za<|e_ru (zc 0 ty30 rfl rfl (.t2 .nil))<|zL rfl rfl (.c rfl .n) ce46 (zmc (ex:=hx) (ey:=hy) (hwex:=ass) (hwey:=ass)) (.n)<|zh<|zd<|zob rfl (fun hfar=> ?_) (fun hfar=> ?_)
  ·
   refine zg<|za<|e_p (zb rfl)<|e_p (zb rfl)<|zh<|zd<|zH<|zi ?_
   obtain ⟨hv1,hv2⟩:=Pg.is_far hz hfar
   exact zra yk () trivial (zl rfl) (zl rfl) (by rw [hv1,hv2]) (ho:=(.n:PickO _ _ _)) (.n:SelR _ _ _)
  ·
   have hrh:=Pg.far_no' hfar
   refine zA<|zd<|zg<|za<|e_p (zb rfl)<|zh<|zd<|zg<|zg<|za<|e_mv rfl<|e_p (zN ya rfl)<|e_mv rfl<|zh<|zd<|zB<|zka (X:=Nat) (fun x:Nat=>x≤n∧∀w,w<x→¬Pg.onS (l.getD w (0,0)) (l.getD ((w+1)%n) (0,0)) (hx,hy)) (fun x=>[(7,.int .i64 (Pg.inN n l (hx,hy) x)),(20,.int .i64 ((x:Nat):Int)),(19,.int .i64 ((n:Nat):Int)),(18,.slice p n cap),(3,.pointer (some ⟨b1,0,none⟩)),(0,.slice p n cap)]) (fun x=>[boxA b1 30 [.int .i64 hx,.int .i64 hy]]) (fun x=>[slF (rI2 .i64) p cap l]) (fun x:Nat=>n - x) 0 (show 0≤n∧∀w,w<0→¬Pg.onS (l.getD w (0,0)) (l.getD ((w+1)%n) (0,0)) (hx,hy) from by exact ⟨Nat.zero_le _,fun w h=>by omega⟩) ((.e rfl (by first|rfl|(congr 1;omega)|simp_all) (.e rfl (by first|rfl|(congr 1;omega)|simp_all) (.of rfl))):SubM _ _) (ho:=((.c (i:=0) rfl .n):PickO _ _ _)) ((.c (j:=0) rfl .n):SelR _ _ _) ?_
   rintro k hI
   replace hI:k≤n∧∀w,w<k→¬Pg.onS (l.getD w (0,0)) (l.getD ((w+1)%n) (0,0)) (hx,hy):=hI
   try dsimp only
   obtain ⟨hk,hall⟩:=hI
   refine zg<|za<|e_p (zY rfl rfl)<|zh<|zd<|zg<|zC rfl (fun h2=> ?_) (fun h2=> ?_)
   ·
    have hm1:(k+1)%n<n:=Nat.mod_lt _ om
    have hg0:Pg.inR (l.getD k (0,0)):=Pg.Ok.gt hrng om
    have hg1:Pg.inR (l.getD ((k+1)%n) (0,0)):=Pg.Ok.gt hrng om
    have hi1:=Pg.inN_rng n l (hx,hy) k
    refine zA<|zd<|zg<|zB<|zg<|za<|e_mv rfl<|zP (x0:=(l.getD k (0,0))) 0 k rfl ya sz30 rfl rfl rfl cbs rfl rfl (gD (d:=(0,0)) om) (fun b3 o4 hok5=> ?_)
    obtain ⟨hok5x,hok5y⟩:=hok5
    replace hok5x:=zD.1 hok5x
    replace hok5y:=zD.1 hok5y
    refine e_ru (zq (j:=0) 0 ty30 rfl rfl rfl (.t2 .nil))<|zM rfl rfl (zn zr30 rfl) (fun b6=> ?_)
    refine e_p (zb rfl)<|zk 0 rfl rfl rfl rfl rfl sz30 rfl (.t2 .nil) .z<|zh<|zd<|zg<|za<|e_mv rfl<|e_mv rfl<|e_p (zI (z:=(((k+1):Nat):Int)) rfl rfl (w64 om))<|e_mv rfl<|e_p (zN ya rfl)<|e_p (zwa (z:=((((k+1)%n):Nat):Int)) rfl rfl om (remN om om))<|zP (x0:=(l.getD ((k+1)%n) (0,0))) 1 ((k+1)%n) rfl ya sz30 rfl rfl rfl cbs rfl rfl (gD (d:=(0,0)) om) (fun b7 o8 hok9=> ?_)
    obtain ⟨hok9x,hok9y⟩:=hok9
    replace hok9x:=zD.1 hok9x
    replace hok9y:=zD.1 hok9y
    refine e_ru (zq (j:=0) 0 ty30 rfl rfl rfl (.t2 .nil))<|zM rfl rfl (zn zr30 rfl) (fun b10=> ?_)
    refine zk 0 rfl rfl rfl rfl rfl sz30 rfl (.t2 .nil) .z<|zh<|zd<|zg<|zg<|za<|e_ru (zc 1 ty30 rfl rfl (.t2 .nil))<|e_ru (zc 0 ty30 rfl rfl (.t2 .nil))<|e_ru (zc 2 ty30 rfl rfl (.t2 .nil))<|zL rfl rfl (.c rfl (.c rfl (.c rfl .n))) ce50 (zbc (ex:=(l.getD k (0,0)).1) (ey:=(l.getD k (0,0)).2) (fx:=(l.getD ((k+1)%n) (0,0)).1) (fy:=(l.getD ((k+1)%n) (0,0)).2) (gx:=hx) (gy:=hy) (hre:=cbo) (hrf:=cbo) (hrg:=cbo)) (.n)<|zh<|zd<|zC rfl (fun hon=> ?_) (fun hon=> ?_)
    ·
     refine zg<|za<|e_p (zb rfl)<|e_p (zb rfl)<|zh<|zd<|zH<|zi<|zp<|zi<|zi<|zp<|zi ?_
     obtain ⟨hv1,hv2⟩:=Pg.is_ok (q:=(hx,hy)) hz (by rw [hfar];decide)
     exact zra yk () trivial (zl rfl) (zl rfl) (by rw [hv1,hv2,Pg.ins_on hn (i:=k) om hon]) (ho:=(.n:PickO _ _ _)) (.n:SelR _ _ _)
    ·
     refine zA<|zd<|zg<|zg<|za<|e_p (ze yd rfl sz3 rfl rfl)<|e_ru (zf 1 ty3 rfl rfl rfl)<|e_p (ze yd rfl sz3 rfl rfl)<|e_ru (zf 0 ty3 rfl rfl rfl)<|e_p (zAa rfl rfl)<|zh<|zd<|zC rfl (fun hsw=> ?_) (fun hsw=> ?_)
     ·
      refine za<|e_ru (zc 0 ty30 rfl rfl (.t2 .nil))<|e_ru (zc 1 ty30 rfl rfl (.t2 .nil))<|zk 1 rfl rfl rfl rfl rfl sz30 rfl (.t2 .nil) (.s .z)<|zk 0 rfl rfl rfl rfl rfl sz30 rfl (.t2 .nil) .z<|zh<|zd<|zEa (X:=Unit) (fun x=>True) (fun x=>[(62,.bool (decide ((((l.getD ((k+1)%n) (0,0)).2≤hy)∧(hy<(l.getD k (0,0)).2))∧(0<(Pg.crs (((l.getD ((k+1)%n) (0,0)).1),((l.getD ((k+1)%n) (0,0)).2)) (((l.getD k (0,0)).1),((l.getD k (0,0)).2)) (hx,hy)).sign)))),(7,.int .i64 (Pg.inN n l (hx,hy) k)),(20,.int .i64 ((k:Nat):Int)),(19,.int .i64 ((n:Nat):Int)),(18,.slice p n cap),(3,.pointer (some ⟨b1,0,none⟩)),(0,.slice p n cap)]) (fun x=>[boxA b10 30 [.int .i64 ((l.getD k (0,0)).1),.int .i64 ((l.getD k (0,0)).2)],boxA b6 30 [.int .i64 ((l.getD ((k+1)%n) (0,0)).1),.int .i64 ((l.getD ((k+1)%n) (0,0)).2)],boxA b1 30 [.int .i64 hx,.int .i64 hy]]) (fun x=>[atF b7 o8 [.int .i64 ((l.getD ((k+1)%n) (0,0)).1),.int .i64 ((l.getD ((k+1)%n) (0,0)).2)],atF b3 o4 [.int .i64 ((l.getD k (0,0)).1),.int .i64 ((l.getD k (0,0)).2)],slF (rI2 .i64) p cap l]) ?_ ?_
      ·
       refine za<|e_p (ze yd rfl sz3 rfl rfl)<|e_ru (zf 1 ty3 rfl rfl rfl)<|e_p (ze yd rfl sz3 rfl rfl)<|e_ru (zf 2 ty3 rfl rfl rfl)<|e_p (zVa rfl rfl)<|zaa rfl rfl (zX rfl) (fun h11=> ?_) (fun h11=> ?_)
       ·
        refine e_p (ze yd rfl sz3 rfl rfl)<|e_ru (zf 2 ty3 rfl rfl rfl)<|e_p (ze yd rfl sz3 rfl rfl)<|e_ru (zf 0 ty3 rfl rfl rfl)<|e_p (zY rfl rfl)<|e_p (zo rfl rfl)<|zaa rfl rfl (zX rfl) (fun h12=> ?_) (fun h12=> ?_)
        ·
         refine e_ru (zc 1 ty30 rfl rfl (.t2 .nil))<|e_ru (zc 0 ty30 rfl rfl (.t2 .nil))<|e_ru (zc 2 ty30 rfl rfl (.t2 .nil))<|zL rfl rfl (.c rfl (.c rfl (.c rfl .n))) ce54 (zdb (ex:=(l.getD ((k+1)%n) (0,0)).1) (ey:=(l.getD ((k+1)%n) (0,0)).2) (fx:=(l.getD k (0,0)).1) (fy:=(l.getD k (0,0)).2) (gx:=hx) (gy:=hy) (hre:=cbo) (hrf:=cbo) (hrg:=cbo)) (.n)<|e_p (zAa rfl rfl)<|e_p (zo rfl rfl)<|zh ?_
         exact zga () (show True from by first|trivial|omega|simp_all) ((.e rfl (congrArg Value.bool cbu) (.of rfl)):SubM _ _) (ho:=((.of [0,0,0] rfl):PickO _ _ _)) ((.of [0,1,2] rfl):SelR _ _ _)
        ·
         refine e_no<|e_no<|e_no<|e_no<|e_no<|e_p (zo rfl rfl)<|zh ?_
         exact zga () (show True from by first|trivial|omega|simp_all) ((.e rfl (congrArg Value.bool cbu) (.of rfl)):SubM _ _) (ho:=((.of [0,0,0] rfl):PickO _ _ _)) ((.of [0,1,2] rfl):SelR _ _ _)
       ·
        refine e_no<|e_no<|e_no<|e_no<|e_no<|e_p (zo rfl rfl)<|e_mv rfl<|e_no<|e_no<|e_no<|e_no<|e_no<|e_p (zo rfl rfl)<|zh ?_
        exact zga () (show True from by first|trivial|omega|simp_all) ((.e rfl (congrArg Value.bool cbu) (.of rfl)):SubM _ _) (ho:=((.of [0,0,0] rfl):PickO _ _ _)) ((.of [0,1,2] rfl):SelR _ _ _)
      ·
       rintro ⟨⟩ -
       try dsimp only
       refine zC rfl (fun hhit=> ?_) (fun hhit=> ?_)
       ·
        refine za<|e_mv rfl<|e_p (zFd (z:=(-(Pg.inN n l (hx,hy) k))) rfl (w64 om))<|e_p (zb rfl)<|zh<|zO<|zd<|za<|e_p (zI (z:=(((k+1):Nat):Int)) rfl rfl (w64 om))<|e_mv rfl<|zh<|zda (k+1) (show (k+1)≤n∧∀w,w<(k+1)→¬Pg.onS (l.getD w (0,0)) (l.getD ((w+1)%n) (0,0)) (hx,hy) from by exact ⟨by omega,Ms.all_lt_succ hall hon⟩) (by show n - (k+1)<n - k;omega) ((.e rfl (by rw [Pg.inN_hit ((Pg.hit_sw hsw).2 ⟨hhit.1.1,hhit.1.2,hhit.2⟩)]) (.of rfl)):SubM _ _) (ho:=((.c (i:=2) rfl .n):PickO _ _ _)) ((.c (j:=2) rfl .n):SelR _ _ _)
       ·
        refine zA<|zO<|zd<|za<|e_p (zI (z:=(((k+1):Nat):Int)) rfl rfl (w64 om))<|e_mv rfl<|zh<|zda (k+1) (show (k+1)≤n∧∀w,w<(k+1)→¬Pg.onS (l.getD w (0,0)) (l.getD ((w+1)%n) (0,0)) (hx,hy) from by exact ⟨by omega,Ms.all_lt_succ hall hon⟩) (by show n - (k+1)<n - k;omega) ((.e rfl (by rw [Pg.inN_not (fun h=>hhit (by have h2:=(Pg.hit_sw hsw).1 h;exact ⟨⟨h2.1,h2.2.1⟩,h2.2.2⟩))]) (.of rfl)):SubM _ _) (ho:=((.c (i:=2) rfl .n):PickO _ _ _)) ((.c (j:=2) rfl .n):SelR _ _ _)
     ·
      refine zA<|zd<|zEa (X:=Unit) (fun x=>True) (fun x=>[(62,.bool (decide ((((l.getD k (0,0)).2≤hy)∧(hy<(l.getD ((k+1)%n) (0,0)).2))∧(0<(Pg.crs (((l.getD k (0,0)).1),((l.getD k (0,0)).2)) (((l.getD ((k+1)%n) (0,0)).1),((l.getD ((k+1)%n) (0,0)).2)) (hx,hy)).sign)))),(7,.int .i64 (Pg.inN n l (hx,hy) k)),(20,.int .i64 ((k:Nat):Int)),(19,.int .i64 ((n:Nat):Int)),(18,.slice p n cap),(3,.pointer (some ⟨b1,0,none⟩)),(0,.slice p n cap)]) (fun x=>[boxA b10 30 [.int .i64 ((l.getD ((k+1)%n) (0,0)).1),.int .i64 ((l.getD ((k+1)%n) (0,0)).2)],boxA b6 30 [.int .i64 ((l.getD k (0,0)).1),.int .i64 ((l.getD k (0,0)).2)],boxA b1 30 [.int .i64 hx,.int .i64 hy]]) (fun x=>[atF b7 o8 [.int .i64 ((l.getD ((k+1)%n) (0,0)).1),.int .i64 ((l.getD ((k+1)%n) (0,0)).2)],atF b3 o4 [.int .i64 ((l.getD k (0,0)).1),.int .i64 ((l.getD k (0,0)).2)],slF (rI2 .i64) p cap l]) ?_ ?_
      ·
       refine za<|e_p (ze yd rfl sz3 rfl rfl)<|e_ru (zf 1 ty3 rfl rfl rfl)<|e_p (ze yd rfl sz3 rfl rfl)<|e_ru (zf 2 ty3 rfl rfl rfl)<|e_p (zVa rfl rfl)<|zaa rfl rfl (zX rfl) (fun h13=> ?_) (fun h13=> ?_)
       ·
        refine e_p (ze yd rfl sz3 rfl rfl)<|e_ru (zf 2 ty3 rfl rfl rfl)<|e_p (ze yd rfl sz3 rfl rfl)<|e_ru (zf 0 ty3 rfl rfl rfl)<|e_p (zY rfl rfl)<|e_p (zo rfl rfl)<|zaa rfl rfl (zX rfl) (fun h14=> ?_) (fun h14=> ?_)
        ·
         refine e_ru (zc 1 ty30 rfl rfl (.t2 .nil))<|e_ru (zc 0 ty30 rfl rfl (.t2 .nil))<|e_ru (zc 2 ty30 rfl rfl (.t2 .nil))<|zL rfl rfl (.c rfl (.c rfl (.c rfl .n))) ce54 (zdb (ex:=(l.getD k (0,0)).1) (ey:=(l.getD k (0,0)).2) (fx:=(l.getD ((k+1)%n) (0,0)).1) (fy:=(l.getD ((k+1)%n) (0,0)).2) (gx:=hx) (gy:=hy) (hre:=cbo) (hrf:=cbo) (hrg:=cbo)) (.n)<|e_p (zAa rfl rfl)<|e_p (zo rfl rfl)<|zh ?_
         exact zga () (show True from by first|trivial|omega|simp_all) ((.e rfl (congrArg Value.bool cbu) (.of rfl)):SubM _ _) (ho:=((.of [0,0,0] rfl):PickO _ _ _)) ((.of [0,1,2] rfl):SelR _ _ _)
        ·
         refine e_no<|e_no<|e_no<|e_no<|e_no<|e_p (zo rfl rfl)<|zh ?_
         exact zga () (show True from by first|trivial|omega|simp_all) ((.e rfl (congrArg Value.bool cbu) (.of rfl)):SubM _ _) (ho:=((.of [0,0,0] rfl):PickO _ _ _)) ((.of [0,1,2] rfl):SelR _ _ _)
       ·
        refine e_no<|e_no<|e_no<|e_no<|e_no<|e_p (zo rfl rfl)<|e_mv rfl<|e_no<|e_no<|e_no<|e_no<|e_no<|e_p (zo rfl rfl)<|zh ?_
        exact zga () (show True from by first|trivial|omega|simp_all) ((.e rfl (congrArg Value.bool cbu) (.of rfl)):SubM _ _) (ho:=((.of [0,0,0] rfl):PickO _ _ _)) ((.of [0,1,2] rfl):SelR _ _ _)
      ·
       rintro ⟨⟩ -
       try dsimp only
       refine zC rfl (fun hhit=> ?_) (fun hhit=> ?_)
       ·
        refine za<|e_mv rfl<|e_p (zFd (z:=(-(Pg.inN n l (hx,hy) k))) rfl (w64 om))<|e_p (zb rfl)<|zh<|zO<|zd<|za<|e_p (zI (z:=(((k+1):Nat):Int)) rfl rfl (w64 om))<|e_mv rfl<|zh<|zda (k+1) (show (k+1)≤n∧∀w,w<(k+1)→¬Pg.onS (l.getD w (0,0)) (l.getD ((w+1)%n) (0,0)) (hx,hy) from by exact ⟨by omega,Ms.all_lt_succ hall hon⟩) (by show n - (k+1)<n - k;omega) ((.e rfl (by rw [Pg.inN_hit ((Pg.hit_no hsw).2 ⟨hhit.1.1,hhit.1.2,hhit.2⟩)]) (.of rfl)):SubM _ _) (ho:=((.c (i:=2) rfl .n):PickO _ _ _)) ((.c (j:=2) rfl .n):SelR _ _ _)
       ·
        refine zA<|zO<|zd<|za<|e_p (zI (z:=(((k+1):Nat):Int)) rfl rfl (w64 om))<|e_mv rfl<|zh<|zda (k+1) (show (k+1)≤n∧∀w,w<(k+1)→¬Pg.onS (l.getD w (0,0)) (l.getD ((w+1)%n) (0,0)) (hx,hy) from by exact ⟨by omega,Ms.all_lt_succ hall hon⟩) (by show n - (k+1)<n - k;omega) ((.e rfl (by rw [Pg.inN_not (fun h=>hhit (by have h2:=(Pg.hit_no hsw).1 h;exact ⟨⟨h2.1,h2.2.1⟩,h2.2.2⟩))]) (.of rfl)):SubM _ _) (ho:=((.c (i:=2) rfl .n):PickO _ _ _)) ((.c (j:=2) rfl .n):SelR _ _ _)
   ·
    refine zja<|zj<|zj<|zt<|zd<|zg<|za<|e_mv rfl<|e_p (zb rfl)<|e_p (zb rfl)<|zh<|zd<|zH ?_
    obtain ⟨hv1,hv2⟩:=Pg.is_ok (q:=(hx,hy)) hz (by rw [hfar];decide)
    exact zra yk () trivial (zl rfl) (zl rfl) (by rw [hv1,hv2,Pg.ins_go hn (fun w hw=>hall w om),show k=n by omega]) (ho:=(.n:PickO _ _ _)) (.n:SelR _ _ _)
end Go.Proofs.YtjcpbhlijoigfaaGreat.Sp
namespace Go.Proofs.YtjcpbhlijoigfaaGreat.Sp
open Go
set_option linter.unusedVariables false
set_option maxRecDepth 100000
set_option maxHeartbeats 8000000
theorem zke {p:Option Addr} {n:Nat} {cap:Nat} {l:List Pg.P2} (hn:l.length=n) (h64:n≤64) (hrng:∀x∈l,Pg.inR x):Con ye 53 [.slice p n cap] [] [slF (rI2 .i64) p cap l] (Y:=Unit) (fun y=>True) (fun y=> .bool (decide (Pg.smpR l))) (fun y=>[]) (fun y=>[]):=by
 refine zm Tryz.func53 rfl rfl rfl (fun c=> ?_)
 show RunC _ _ _ _ _ [(0,.slice p n cap)] [] [slF (rI2 .i64) p cap l]
 refine zba 0 rfl (fun hL0=> ?_)
 refine zg<|za<|e_p (zb rfl)<|zh<|zd<|zg<|za<|e_mv rfl<|e_p (zN ya rfl)<|e_p (zb rfl)<|zh<|zd<|zg<|zg<|za<|e_p (zb rfl)<|zh<|zd<|zB<|zka (X:=Nat) (fun x:Nat=>x≤n∧∀w,w<x→∀j,j<n→w<j→¬Pg.bad n l w j) (fun x=>[(4,.int .i64 ((x:Nat):Int)),(3,.int .i64 ((n:Nat):Int)),(0,.slice p n cap)]) (fun x=>[]) (fun x=>[slF (rI2 .i64) p cap l]) (fun x:Nat=>n - x) 0 (show 0≤n∧∀w,w<0→∀j,j<n→w<j→¬Pg.bad n l w j from by exact ⟨Nat.zero_le _,fun w h=>by omega⟩) ((.e rfl (by first|rfl|(congr 1;omega)|simp_all) (.c rfl (.c rfl .n))):SubM _ _) (ho:=(.n:PickO _ _ _)) ((.c (j:=0) rfl .n):SelR _ _ _) ?_
 rintro k hI
 replace hI:k≤n∧∀w,w<k→∀j,j<n→w<j→¬Pg.bad n l w j:=hI
 try dsimp only
 obtain ⟨hk,hall⟩:=hI
 refine zg<|zg<|za<|e_mv rfl<|e_mv rfl<|e_p (zY rfl rfl)<|zh<|zd<|zC rfl (fun h1=> ?_) (fun h1=> ?_)
 ·
  refine zA<|zd<|zg<|zB<|zg<|za<|e_mv rfl<|e_p (zI (z:=(((k+1):Nat):Int)) rfl rfl (w64 om))<|e_p (zb rfl)<|zh<|zd<|zB<|zka (X:=Nat) (fun x:Nat=>k+1≤x∧∀w,w<x→k<w→¬Pg.bad n l k w) (fun x=>[(5,.int .i64 ((x:Nat):Int)),(4,.int .i64 ((k:Nat):Int)),(3,.int .i64 ((n:Nat):Int)),(0,.slice p n cap)]) (fun x=>[]) (fun x=>[slF (rI2 .i64) p cap l]) (fun x:Nat=>n - x) (k+1) (show k+1≤(k+1)∧∀w,w<(k+1)→k<w→¬Pg.bad n l k w from by exact ⟨Nat.le_refl _,fun w h h2=>by omega⟩) ((.of rfl):SubM _ _) (ho:=(.n:PickO _ _ _)) ((.c (j:=0) rfl .n):SelR _ _ _) ?_
  rintro j hJ
  replace hJ:k+1≤j∧∀w,w<j→k<w→¬Pg.bad n l k w:=hJ
  try dsimp only
  obtain ⟨hj2,hB2⟩:=hJ
  refine zg<|zg<|za<|e_mv rfl<|e_mv rfl<|e_p (zY rfl rfl)<|zh<|zd<|zC rfl (fun h2=> ?_) (fun h2=> ?_)
  ·
   have hm1:(k+1)%n<n:=Nat.mod_lt _ om
   have hm3:(j+1)%n<n:=Nat.mod_lt _ om
   have hg0:Pg.inR (l.getD k (0,0)):=Pg.Ok.gt hrng om
   have hg1:Pg.inR (l.getD ((k+1)%n) (0,0)):=Pg.Ok.gt hrng om
   have hg2:Pg.inR (l.getD j (0,0)):=Pg.Ok.gt hrng om
   have hg3:Pg.inR (l.getD ((j+1)%n) (0,0)):=Pg.Ok.gt hrng om
   refine zA<|zd<|zg<|zB<|zg<|za<|e_mv rfl<|e_mv rfl<|zP (x0:=(l.getD k (0,0))) 0 k rfl ya sz30 rfl rfl rfl cbs rfl rfl (gD (d:=(0,0)) om) (fun b3 o4 hok5=> ?_)
   obtain ⟨hok5x,hok5y⟩:=hok5
   replace hok5x:=zD.1 hok5x
   replace hok5y:=zD.1 hok5y
   refine e_ru (zq (j:=0) 0 ty30 rfl rfl rfl (.t2 .nil))<|zM rfl rfl (zn zr30 rfl) (fun b6=> ?_)
   refine zk 0 rfl rfl rfl rfl rfl sz30 rfl (.t2 .nil) .z<|zh<|zd<|zg<|za<|e_mv rfl<|e_mv rfl<|e_p (zI (z:=(((k+1):Nat):Int)) rfl rfl (w64 om))<|e_mv rfl<|e_p (zwa (z:=((((k+1)%n):Nat):Int)) rfl rfl om (remN om om))<|zP (x0:=(l.getD ((k+1)%n) (0,0))) 1 ((k+1)%n) rfl ya sz30 rfl rfl rfl cbs rfl rfl (gD (d:=(0,0)) om) (fun b7 o8 hok9=> ?_)
   obtain ⟨hok9x,hok9y⟩:=hok9
   replace hok9x:=zD.1 hok9x
   replace hok9y:=zD.1 hok9y
   refine e_ru (zq (j:=0) 0 ty30 rfl rfl rfl (.t2 .nil))<|zM rfl rfl (zn zr30 rfl) (fun b10=> ?_)
   refine zk 0 rfl rfl rfl rfl rfl sz30 rfl (.t2 .nil) .z<|zh<|zd<|zg<|za<|e_mv rfl<|e_mv rfl<|zP (x0:=(l.getD j (0,0))) 2 j rfl ya sz30 rfl rfl rfl cbs rfl rfl (gD (d:=(0,0)) om) (fun b11 o12 hok13=> ?_)
   obtain ⟨hok13x,hok13y⟩:=hok13
   replace hok13x:=zD.1 hok13x
   replace hok13y:=zD.1 hok13y
   refine e_ru (zq (j:=0) 0 ty30 rfl rfl rfl (.t2 .nil))<|zM rfl rfl (zn zr30 rfl) (fun b14=> ?_)
   refine zk 0 rfl rfl rfl rfl rfl sz30 rfl (.t2 .nil) .z<|zh<|zd<|zg<|za<|e_mv rfl<|e_mv rfl<|e_p (zI (z:=(((j+1):Nat):Int)) rfl rfl (w64 om))<|e_mv rfl<|e_p (zwa (z:=((((j+1)%n):Nat):Int)) rfl rfl om (remN om om))<|zP (x0:=(l.getD ((j+1)%n) (0,0))) 3 ((j+1)%n) rfl ya sz30 rfl rfl rfl cbs rfl rfl (gD (d:=(0,0)) om) (fun b15 o16 hok17=> ?_)
   obtain ⟨hok17x,hok17y⟩:=hok17
   replace hok17x:=zD.1 hok17x
   replace hok17y:=zD.1 hok17y
   refine e_ru (zq (j:=0) 0 ty30 rfl rfl rfl (.t2 .nil))<|zM rfl rfl (zn zr30 rfl) (fun b18=> ?_)
   refine zk 0 rfl rfl rfl rfl rfl sz30 rfl (.t2 .nil) .z<|zh<|zd<|zg<|za<|e_mv rfl<|e_mv rfl<|e_p (zI (z:=(((k+1):Nat):Int)) rfl rfl (w64 om))<|e_p (zua rfl rfl)<|zh<|zd<|zC rfl (fun he=> ?_) (fun he=> ?_)
   ·
    refine zEa (X:=Unit) (fun x=>True) (fun x=>[(59,.bool (decide ((Pg.onS (((l.getD k (0,0)).1),((l.getD k (0,0)).2)) (((l.getD ((k+1)%n) (0,0)).1),((l.getD ((k+1)%n) (0,0)).2)) (((l.getD ((j+1)%n) (0,0)).1),((l.getD ((j+1)%n) (0,0)).2)))∨(Pg.onS (((l.getD j (0,0)).1),((l.getD j (0,0)).2)) (((l.getD ((j+1)%n) (0,0)).1),((l.getD ((j+1)%n) (0,0)).2)) (((l.getD k (0,0)).1),((l.getD k (0,0)).2)))))),(5,.int .i64 ((j:Nat):Int)),(4,.int .i64 ((k:Nat):Int)),(3,.int .i64 ((n:Nat):Int)),(0,.slice p n cap)]) (fun x=>[boxA b18 30 [.int .i64 ((l.getD ((j+1)%n) (0,0)).1),.int .i64 ((l.getD ((j+1)%n) (0,0)).2)],boxA b14 30 [.int .i64 ((l.getD j (0,0)).1),.int .i64 ((l.getD j (0,0)).2)],boxA b10 30 [.int .i64 ((l.getD ((k+1)%n) (0,0)).1),.int .i64 ((l.getD ((k+1)%n) (0,0)).2)],boxA b6 30 [.int .i64 ((l.getD k (0,0)).1),.int .i64 ((l.getD k (0,0)).2)]]) (fun x=>[atF b15 o16 [.int .i64 ((l.getD ((j+1)%n) (0,0)).1),.int .i64 ((l.getD ((j+1)%n) (0,0)).2)],atF b11 o12 [.int .i64 ((l.getD j (0,0)).1),.int .i64 ((l.getD j (0,0)).2)],atF b7 o8 [.int .i64 ((l.getD ((k+1)%n) (0,0)).1),.int .i64 ((l.getD ((k+1)%n) (0,0)).2)],atF b3 o4 [.int .i64 ((l.getD k (0,0)).1),.int .i64 ((l.getD k (0,0)).2)],slF (rI2 .i64) p cap l]) ?_ ?_
    ·
     refine za<|e_ru (zc 3 ty30 rfl rfl (.t2 .nil))<|e_ru (zc 2 ty30 rfl rfl (.t2 .nil))<|e_ru (zc 0 ty30 rfl rfl (.t2 .nil))<|zL rfl rfl (.c rfl (.c rfl (.c rfl .n))) ce35 (zOb (ex:=(l.getD k (0,0)).1) (ey:=(l.getD k (0,0)).2) (fx:=(l.getD ((k+1)%n) (0,0)).1) (fy:=(l.getD ((k+1)%n) (0,0)).2) (gx:=(l.getD ((j+1)%n) (0,0)).1) (gy:=(l.getD ((j+1)%n) (0,0)).2) (hre:=cbo) (hrf:=cbo) (hrg:=cbo)) (.n)<|zaa rfl rfl (zX rfl) (fun h19=> ?_) (fun h19=> ?_)
     ·
      refine e_no<|e_no<|e_no<|e_no<|e_p (zo rfl rfl)<|zh ?_
      exact zga () (show True from by first|trivial|omega|simp_all) ((.e rfl (congrArg Value.bool cbu) (.of rfl)):SubM _ _) (ho:=((.of [0,0,0,0] rfl):PickO _ _ _)) ((.of [0,1,2,3,4] rfl):SelR _ _ _)
     ·
      refine e_ru (zc 1 ty30 rfl rfl (.t2 .nil))<|e_ru (zc 0 ty30 rfl rfl (.t2 .nil))<|e_ru (zc 3 ty30 rfl rfl (.t2 .nil))<|zL rfl rfl (.c rfl (.c rfl (.c rfl .n))) ce35 (zOb (ex:=(l.getD j (0,0)).1) (ey:=(l.getD j (0,0)).2) (fx:=(l.getD ((j+1)%n) (0,0)).1) (fy:=(l.getD ((j+1)%n) (0,0)).2) (gx:=(l.getD k (0,0)).1) (gy:=(l.getD k (0,0)).2) (hre:=cbo) (hrf:=cbo) (hrg:=cbo)) (.n)<|e_p (zo rfl rfl)<|zh ?_
      exact zga () (show True from by first|trivial|omega|simp_all) ((.e rfl (congrArg Value.bool cbu) (.of rfl)):SubM _ _) (ho:=((.of [0,0,0,0] rfl):PickO _ _ _)) ((.of [0,1,2,3,4] rfl):SelR _ _ _)
    ·
     rintro ⟨⟩ -
     try dsimp only
     refine zC rfl (fun hb1=> ?_) (fun hb1=> ?_)
     ·
      refine zg<|za<|e_p (zb rfl)<|zh<|zd<|zH<|zp<|zi<|zi<|zp<|zp<|zi<|zi<|zp<|zi ?_
      exact zy yl () trivial (zl rfl) (congrArg Value.bool (decide_eq_false (fun h=>(Pg.smpR_n hn).1 h k om j om om ((Pg.bad_1 om).2 hb1)))) (ho:=(.n:PickO _ _ _)) (.n:SelR _ _ _)
     ·
      refine zA<|zO<|zd<|za<|e_mv rfl<|e_p (zI (z:=(((j+1):Nat):Int)) rfl rfl (w64 om))<|e_p (zb rfl)<|zh<|zda (j+1) (show k+1≤(j+1)∧∀w,w<(j+1)→k<w→¬Pg.bad n l k w from by exact ⟨by omega,Ms.all_lt_succ hB2 (fun _ hb=>hb1 ((Pg.bad_1 om).1 hb))⟩) (by show n - (j+1)<n - j;omega) ((.of rfl):SubM _ _) (ho:=(.n:PickO _ _ _)) ((.c (j:=4) rfl .n):SelR _ _ _)
   ·
    refine zg<|za<|e_mv rfl<|e_p (zI (z:=(((j+1):Nat):Int)) rfl rfl (w64 om))<|e_mv rfl<|e_p (zwa (z:=((((j+1)%n):Nat):Int)) rfl rfl om (remN om om))<|e_mv rfl<|e_p (zua rfl rfl)<|zh<|zd<|zC rfl (fun he2=> ?_) (fun he2=> ?_)
    ·
     refine zEa (X:=Unit) (fun x=>True) (fun x=>[(75,.bool (decide ((Pg.onS (((l.getD k (0,0)).1),((l.getD k (0,0)).2)) (((l.getD ((k+1)%n) (0,0)).1),((l.getD ((k+1)%n) (0,0)).2)) (((l.getD j (0,0)).1),((l.getD j (0,0)).2)))∨(Pg.onS (((l.getD j (0,0)).1),((l.getD j (0,0)).2)) (((l.getD ((j+1)%n) (0,0)).1),((l.getD ((j+1)%n) (0,0)).2)) (((l.getD ((k+1)%n) (0,0)).1),((l.getD ((k+1)%n) (0,0)).2)))))),(5,.int .i64 ((j:Nat):Int)),(4,.int .i64 ((k:Nat):Int)),(3,.int .i64 ((n:Nat):Int)),(0,.slice p n cap)]) (fun x=>[boxA b18 30 [.int .i64 ((l.getD ((j+1)%n) (0,0)).1),.int .i64 ((l.getD ((j+1)%n) (0,0)).2)],boxA b14 30 [.int .i64 ((l.getD j (0,0)).1),.int .i64 ((l.getD j (0,0)).2)],boxA b10 30 [.int .i64 ((l.getD ((k+1)%n) (0,0)).1),.int .i64 ((l.getD ((k+1)%n) (0,0)).2)],boxA b6 30 [.int .i64 ((l.getD k (0,0)).1),.int .i64 ((l.getD k (0,0)).2)]]) (fun x=>[atF b15 o16 [.int .i64 ((l.getD ((j+1)%n) (0,0)).1),.int .i64 ((l.getD ((j+1)%n) (0,0)).2)],atF b11 o12 [.int .i64 ((l.getD j (0,0)).1),.int .i64 ((l.getD j (0,0)).2)],atF b7 o8 [.int .i64 ((l.getD ((k+1)%n) (0,0)).1),.int .i64 ((l.getD ((k+1)%n) (0,0)).2)],atF b3 o4 [.int .i64 ((l.getD k (0,0)).1),.int .i64 ((l.getD k (0,0)).2)],slF (rI2 .i64) p cap l]) ?_ ?_
     ·
      refine za<|e_ru (zc 3 ty30 rfl rfl (.t2 .nil))<|e_ru (zc 2 ty30 rfl rfl (.t2 .nil))<|e_ru (zc 1 ty30 rfl rfl (.t2 .nil))<|zL rfl rfl (.c rfl (.c rfl (.c rfl .n))) ce35 (zOb (ex:=(l.getD k (0,0)).1) (ey:=(l.getD k (0,0)).2) (fx:=(l.getD ((k+1)%n) (0,0)).1) (fy:=(l.getD ((k+1)%n) (0,0)).2) (gx:=(l.getD j (0,0)).1) (gy:=(l.getD j (0,0)).2) (hre:=cbo) (hrf:=cbo) (hrg:=cbo)) (.n)<|zaa rfl rfl (zX rfl) (fun h20=> ?_) (fun h20=> ?_)
      ·
       refine e_no<|e_no<|e_no<|e_no<|e_p (zo rfl rfl)<|zh ?_
       exact zga () (show True from by first|trivial|omega|simp_all) ((.e rfl (congrArg Value.bool cbu) (.of rfl)):SubM _ _) (ho:=((.of [0,0,0,0] rfl):PickO _ _ _)) ((.of [0,1,2,3,4] rfl):SelR _ _ _)
      ·
       refine e_ru (zc 1 ty30 rfl rfl (.t2 .nil))<|e_ru (zc 0 ty30 rfl rfl (.t2 .nil))<|e_ru (zc 2 ty30 rfl rfl (.t2 .nil))<|zL rfl rfl (.c rfl (.c rfl (.c rfl .n))) ce35 (zOb (ex:=(l.getD j (0,0)).1) (ey:=(l.getD j (0,0)).2) (fx:=(l.getD ((j+1)%n) (0,0)).1) (fy:=(l.getD ((j+1)%n) (0,0)).2) (gx:=(l.getD ((k+1)%n) (0,0)).1) (gy:=(l.getD ((k+1)%n) (0,0)).2) (hre:=cbo) (hrf:=cbo) (hrg:=cbo)) (.n)<|e_p (zo rfl rfl)<|zh ?_
       exact zga () (show True from by first|trivial|omega|simp_all) ((.e rfl (congrArg Value.bool cbu) (.of rfl)):SubM _ _) (ho:=((.of [0,0,0,0] rfl):PickO _ _ _)) ((.of [0,1,2,3,4] rfl):SelR _ _ _)
     ·
      rintro ⟨⟩ -
      try dsimp only
      refine zC rfl (fun hb2=> ?_) (fun hb2=> ?_)
      ·
       refine zg<|za<|e_p (zb rfl)<|zh<|zd<|zH<|zp<|zi<|zi<|zp<|zp<|zi<|zi<|zp<|zi ?_
       exact zy yl () trivial (zl rfl) (congrArg Value.bool (decide_eq_false (fun h=>(Pg.smpR_n hn).1 h k om j om om ((Pg.bad_2 om om).2 hb2)))) (ho:=(.n:PickO _ _ _)) (.n:SelR _ _ _)
      ·
       refine zA<|zO<|zd<|za<|e_mv rfl<|e_p (zI (z:=(((j+1):Nat):Int)) rfl rfl (w64 om))<|e_p (zb rfl)<|zh<|zda (j+1) (show k+1≤(j+1)∧∀w,w<(j+1)→k<w→¬Pg.bad n l k w from by exact ⟨by omega,Ms.all_lt_succ hB2 (fun _ hb=>hb2 ((Pg.bad_2 om om).1 hb))⟩) (by show n - (j+1)<n - j;omega) ((.of rfl):SubM _ _) (ho:=(.n:PickO _ _ _)) ((.c (j:=4) rfl .n):SelR _ _ _)
    ·
     refine zg<|za<|e_ru (zc 3 ty30 rfl rfl (.t2 .nil))<|e_ru (zc 2 ty30 rfl rfl (.t2 .nil))<|e_ru (zc 1 ty30 rfl rfl (.t2 .nil))<|e_ru (zc 0 ty30 rfl rfl (.t2 .nil))<|zL rfl rfl (.c rfl (.c rfl (.c rfl (.c rfl .n)))) ce92 (zzf (ex:=(l.getD k (0,0)).1) (ey:=(l.getD k (0,0)).2) (fx:=(l.getD ((k+1)%n) (0,0)).1) (fy:=(l.getD ((k+1)%n) (0,0)).2) (gx:=(l.getD j (0,0)).1) (gy:=(l.getD j (0,0)).2) (hx:=(l.getD ((j+1)%n) (0,0)).1) (hy:=(l.getD ((j+1)%n) (0,0)).2) (hre:=cbo) (hrf:=cbo) (hrg:=cbo) (hrh:=cbo)) (.n)<|zh<|zd<|zC rfl (fun hb3=> ?_) (fun hb3=> ?_)
     ·
      refine zg<|za<|e_p (zb rfl)<|zh<|zd<|zH<|zp<|zi<|zi<|zp<|zp<|zi<|zi<|zp<|zi ?_
      exact zy yl () trivial (zl rfl) (congrArg Value.bool (decide_eq_false (fun h=>(Pg.smpR_n hn).1 h k om j om om ((Pg.bad_3 om om).2 hb3)))) (ho:=(.n:PickO _ _ _)) (.n:SelR _ _ _)
     ·
      refine zA<|zO<|zd<|za<|e_mv rfl<|e_p (zI (z:=(((j+1):Nat):Int)) rfl rfl (w64 om))<|e_p (zb rfl)<|zh<|zda (j+1) (show k+1≤(j+1)∧∀w,w<(j+1)→k<w→¬Pg.bad n l k w from by exact ⟨by omega,Ms.all_lt_succ hB2 (fun _ hb=>hb3 ((Pg.bad_3 om om).1 hb))⟩) (by show n - (j+1)<n - j;omega) ((.of rfl):SubM _ _) (ho:=(.n:PickO _ _ _)) ((.c (j:=4) rfl .n):SelR _ _ _)
  ·
   refine zja<|zj<|zj<|zt<|zO<|zd<|za<|e_mv rfl<|e_p (zI (z:=(((k+1):Nat):Int)) rfl rfl (w64 om))<|e_p (zb rfl)<|zh<|zda (k+1) (show (k+1)≤n∧∀w,w<(k+1)→∀j,j<n→w<j→¬Pg.bad n l w j from by exact ⟨by omega,Ms.all_lt_succ hall (fun w hw hw2=>hB2 w om hw2)⟩) (by show n - (k+1)<n - k;omega) ((.of rfl):SubM _ _) (ho:=(.n:PickO _ _ _)) ((.c (j:=0) rfl .n):SelR _ _ _)
 ·
  refine zja<|zj<|zj<|zt<|zd<|zg<|za<|e_p (zb rfl)<|zh<|zd<|zH ?_
  exact zy yl () trivial (zl rfl) (congrArg Value.bool (decide_eq_true ((Pg.smpR_n hn).2 (fun w hw=>hall w om)))) (ho:=(.n:PickO _ _ _)) (.n:SelR _ _ _)
theorem zPe {p:Option Addr} {n:Nat} {cap:Nat} {l:List Pg.P2} (hn:l.length=n):Con ye 16 [.slice p n cap] [] [slF (rI2 .i64) p cap l] (Y:=Unit) (fun y=>True) (fun y=> .int .i64 (Pg.ck l)) (fun y=>[]) (fun y=>[]):=by
 refine zm Tryz.func16 rfl rfl rfl (fun c=> ?_)
 show RunC _ _ _ _ _ [(0,.slice p n cap)] [] [slF (rI2 .i64) p cap l]
 refine zba 0 rfl (fun hL0=> ?_)
 refine zg<|za<|e_p (zb rfl)<|zh<|zd<|zg<|zEa (X:=Unit) (fun x=>True) (fun x=>[(12,.bool (decide ((((n:Nat):Int)<3)∨(64<((n:Nat):Int))))),(2,.int .i64 0),(0,.slice p n cap)]) (fun x=>[]) (fun x=>[slF (rI2 .i64) p cap l]) ?_ ?_
 ·
  refine za<|e_mv rfl<|e_p (zN ya rfl)<|e_p (zY rfl rfl)<|zaa rfl rfl (zX rfl) (fun h1=> ?_) (fun h1=> ?_)
  ·
   refine e_no<|e_no<|e_no<|e_p (zo rfl rfl)<|zh ?_
   exact zga () (show True from by first|trivial|omega|simp_all) ((.e rfl (congrArg Value.bool cbu) (.c rfl (.c rfl .n))):SubM _ _) (ho:=(.n:PickO _ _ _)) ((.c (j:=0) rfl .n):SelR _ _ _)
  ·
   refine e_mv rfl<|e_p (zN ya rfl)<|e_p (zAa rfl rfl)<|e_p (zo rfl rfl)<|zh ?_
   exact zga () (show True from by first|trivial|omega|simp_all) ((.e rfl (congrArg Value.bool cbu) (.c rfl (.c rfl .n))):SubM _ _) (ho:=(.n:PickO _ _ _)) ((.c (j:=0) rfl .n):SelR _ _ _)
 ·
  rintro ⟨⟩ -
  try dsimp only
  refine zC rfl (fun hlim=> ?_) (fun hlim=> ?_)
  ·
   refine zg<|za<|e_p (zb rfl)<|zh<|zd<|zH<|zi ?_
   exact zy yj () trivial (zl rfl) (by rw [Pg.ck_lim om]) (ho:=(.n:PickO _ _ _)) (.n:SelR _ _ _)
  ·
   have hlm:¬(l.length<3∨64<l.length):=by omega
   refine zA<|zd<|zg<|zg<|za<|e_p (zb rfl)<|zh<|zd<|zB<|zka (X:=Nat) (fun x:Nat=>x≤n∧Pg.ck1 (l.take x) (l.drop x)=Pg.ck1 [] l) (fun x=>[(3,.int .i64 ((x:Nat):Int)),(0,.slice p n cap)]) (fun x=>[]) (fun x=>[slF (rI2 .i64) p cap l]) (fun x:Nat=>n - x) 0 (show 0≤n∧Pg.ck1 (l.take 0) (l.drop 0)=Pg.ck1 [] l from by exact ⟨Nat.zero_le _,rfl⟩) ((.e rfl (by first|rfl|(congr 1;omega)|simp_all) (.c rfl .n)):SubM _ _) (ho:=(.n:PickO _ _ _)) ((.c (j:=0) rfl .n):SelR _ _ _) ?_
   rintro i hI
   replace hI:i≤n∧Pg.ck1 (l.take i) (l.drop i)=Pg.ck1 [] l:=hI
   try dsimp only
   obtain ⟨hi,hck⟩:=hI
   refine zg<|zg<|za<|e_mv rfl<|e_mv rfl<|e_p (zN ya rfl)<|e_p (zY rfl rfl)<|zh<|zd<|zC rfl (fun h2=> ?_) (fun h2=> ?_)
   ·
    refine zA<|zd<|zg<|zB<|zg<|zg<|za<|e_mv rfl<|e_mv rfl<|zP (x0:=(l.getD i (0,0))) 0 i rfl ya sz30 rfl rfl rfl cbs rfl rfl (gD (d:=(0,0)) om) (fun b3 o4 hok5=> ?_)
    obtain ⟨hok5x,hok5y⟩:=hok5
    replace hok5x:=zD.1 hok5x
    replace hok5y:=zD.1 hok5y
    refine e_ru (zq (j:=0) 0 ty30 rfl rfl rfl (.t2 .nil))<|zL rfl rfl (.c rfl .n) ce48 (zBe (ex:=(l.getD i (0,0)).1) (ey:=(l.getD i (0,0)).2) (hwex:=cbo) (hwey:=cbo)) (.n)<|e_p (zYa rfl)<|zh<|zd<|zC rfl (fun hfar=> ?_) (fun hfar=> ?_)
    ·
     refine zg<|za<|e_p (zb rfl)<|zh<|zd<|zH<|zi<|zp<|zi<|zi<|zp<|zi ?_
     have hv1:=Pg.ck1_far (l:=l) (i:=i) om (by simpa [Pg.far] using hfar)
     exact zy yj () trivial (zl rfl) (by rw [Pg.ck_one hlm (by rw [← hck,hv1];decide),←hck,hv1]) (ho:=(.n:PickO _ _ _)) (.n:SelR _ _ _)
    ·
     refine zA<|zd<|zg<|za<|e_p (zb rfl)<|zh<|zd<|zB<|zka (X:=Nat) (fun x:Nat=>x≤i∧∀w,w<x→¬(l.getD i (0,0))=(l.getD w (0,0))) (fun x=>[(4,.int .i64 ((x:Nat):Int)),(3,.int .i64 ((i:Nat):Int)),(0,.slice p n cap)]) (fun x=>[]) (fun x=>[atF b3 o4 [.int .i64 ((l.getD i (0,0)).1),.int .i64 ((l.getD i (0,0)).2)],slF (rI2 .i64) p cap l]) (fun x:Nat=>i - x) 0 (show 0≤i∧∀w,w<0→¬(l.getD i (0,0))=(l.getD w (0,0)) from by exact ⟨Nat.zero_le _,fun w h=>by omega⟩) ((.e rfl (by first|rfl|(congr 1;omega)|simp_all) (.c rfl (.c rfl .n))):SubM _ _) (ho:=(.n:PickO _ _ _)) ((.of [0,1] rfl):SelR _ _ _) ?_
     rintro j hJ
     replace hJ:j≤i∧∀w,w<j→¬(l.getD i (0,0))=(l.getD w (0,0)):=hJ
     try dsimp only
     obtain ⟨hj2,hB2⟩:=hJ
     refine zg<|zg<|za<|e_mv rfl<|e_mv rfl<|e_p (zY rfl rfl)<|zh<|zd<|zC rfl (fun h6=> ?_) (fun h6=> ?_)
     ·
      refine zA<|zd<|zg<|zB<|zg<|zW (OW:=[]) (O:=[]) 100000 mixed (.then (.block (.then (.then (.block (.block (.then (.then (.block (.then .ret)))))))))) kr<|e_dm 0 rfl rfl rfl<|e_dm 1 rfl rfl rfl<|zZ (x0:=(l.getD i (0,0))) 2 rfl rfl kr kr 1 i rfl ya sz30 rfl rfl rfl cbs rfl rfl (gD (d:=(0,0)) om) (fun b7 o8 hok9=> ?_)
      obtain ⟨hok9x,hok9y⟩:=hok9
      replace hok9x:=zD.1 hok9x
      replace hok9y:=zD.1 hok9y
      refine e_u 3 rfl rfl (zq (j:=0) 0 ty30 rfl rfl rfl (.t2 .nil))<|e_dm 4 rfl rfl rfl<|e_dm 5 rfl rfl rfl<|zZ (x0:=(l.getD j (0,0))) 6 rfl rfl kr kr 2 j rfl ya sz30 rfl rfl rfl cbs rfl rfl (gD (d:=(0,0)) om) (fun b10 o11 hok12=> ?_)
      obtain ⟨hok12x,hok12y⟩:=hok12
      replace hok12x:=zD.1 hok12x
      replace hok12y:=zD.1 hok12y
      refine e_u 7 rfl rfl (zq (j:=0) 0 ty30 rfl rfl rfl (.t2 .nil))<|e_one 8 (zpa rfl rfl rfl rfl (.c rfl (.c rfl .n)) ce52 (zxf (ex:=(l.getD i (0,0)).1) (ey:=(l.getD i (0,0)).2) (fx:=(l.getD j (0,0)).1) (fy:=(l.getD j (0,0)).2)) (.n) ?_)
      refine zT kr<|zd<|zC rfl (fun hdup=> ?_) (fun hdup=> ?_)
      ·
       refine zg<|za<|e_p (zb rfl)<|zh<|zd<|zH<|zp<|zi<|zi<|zp<|zp<|zi<|zi<|zp<|zi ?_
       have hv1:=Pg.ck1_dup (l:=l) (i:=i) om (by simpa [Pg.far] using hfar) (Pg.in_take (j:=j) om om hdup)
       exact zy yj () trivial (zl rfl) (by rw [Pg.ck_one hlm (by rw [← hck,hv1];decide),←hck,hv1]) (ho:=(.n:PickO _ _ _)) (.n:SelR _ _ _)
      ·
       refine zA<|zO<|zd<|za<|e_mv rfl<|e_p (zI (z:=(((j+1):Nat):Int)) rfl rfl (w64 om))<|e_p (zb rfl)<|zh<|zda (j+1) (show (j+1)≤i∧∀w,w<(j+1)→¬(l.getD i (0,0))=(l.getD w (0,0)) from by exact ⟨by omega,Ms.all_lt_succ hB2 hdup⟩) (by show i - (j+1)<i - j;omega) ((.of rfl):SubM _ _) (ho:=(.n:PickO _ _ _)) ((.of [2,3] rfl):SelR _ _ _)
     ·
      refine zja<|zj<|zj<|zt<|zO<|zd<|za<|e_mv rfl<|e_p (zI (z:=(((i+1):Nat):Int)) rfl rfl (w64 om))<|e_p (zb rfl)<|zh<|zda (i+1) (show (i+1)≤n∧Pg.ck1 (l.take (i+1)) (l.drop (i+1))=Pg.ck1 [] l from by exact ⟨by omega,(Pg.ck1_go om (by simpa [Pg.far] using hfar) (Pg.not_take om (fun w hw=>hB2 w om))).trans hck⟩) (by show n - (i+1)<n - i;omega) ((.c rfl (.c rfl .n)):SubM _ _) (ho:=(.n:PickO _ _ _)) ((.c (j:=1) rfl .n):SelR _ _ _)
   ·
    have hz1:Pg.ck1 [] l=0:=by rw [← hck];exact Pg.ck1_end om
    have hrng:=Pg.ck1_zero hz1
    refine zja<|zj<|zj<|zt<|zd<|zg<|zg<|za<|e_mv rfl<|zL rfl rfl (.c rfl .n) ce53 (zke (p:=p) (n:=n) (cap:=cap) (l:=l) (hn:=ass) (h64:=cbo) (hrng:=cbo)) (.c (j:=0) rfl .n)<|e_p (zYa rfl)<|zh<|zd<|zC rfl (fun hsm=> ?_) (fun hsm=> ?_)
    ·
     refine zg<|za<|e_p (zb rfl)<|zh<|zd<|zH<|zi ?_
     exact zy yj () trivial (zl rfl) (by rw [Pg.ck_two hlm hz1 (fun h=>absurd ((Pg.smp_iff om).1 h) (by simpa using hsm))]) (ho:=(.n:PickO _ _ _)) (.n:SelR _ _ _)
    ·
     refine zA<|zd<|zg<|za<|e_p (zb rfl)<|zh<|zd<|zH ?_
     exact zy yj () trivial (zl rfl) (by rw [Pg.ck_ok hlm hz1 ((Pg.smp_iff om).2 (by simpa using hsm))]) (ho:=(.n:PickO _ _ _)) (.n:SelR _ _ _)
theorem znc {p:Option Addr} {n:Nat} {cap:Nat} {l:List Pg.P2} (hn:l.length=n):Con ye 14 [.slice p n cap] [] [slF (rI2 .i64) p cap l] (Y:=Unit) (fun y=>True) (fun y=> .tuple #[.int .i64 (Pg.arV l),.int .i64 (Pg.arC l)]) (fun y=>[]) (fun y=>[]):=by
 refine zm Tryz.func14 rfl rfl rfl (fun c=> ?_)
 show RunC _ _ _ _ _ [(0,.slice p n cap)] [] [slF (rI2 .i64) p cap l]
 refine zba 0 rfl (fun hL0=> ?_)
 refine zg<|za<|e_p (zb rfl)<|e_p (zb rfl)<|zh<|zd<|zg<|zg<|za<|e_mv rfl<|e_p (zN ya rfl)<|e_p (zAa rfl rfl)<|zh<|zd<|zC rfl (fun hlim=> ?_) (fun hlim=> ?_)
 ·
  refine zg<|za<|e_p (zb rfl)<|e_p (zb rfl)<|zh<|zd<|zH<|zi ?_
  obtain ⟨hv1,hv2⟩:=Pg.ar_lim (l:=l) om
  exact zra Tryz.results14 () trivial (zl rfl) (zl rfl) (by rw [hv1,hv2]) (ho:=(.n:PickO _ _ _)) (.n:SelR _ _ _)
 ·
  refine zA<|zd<|zg<|za<|e_p (zb rfl)<|zh<|zd<|zg<|zg<|za<|e_p (zb rfl)<|zh<|zd<|zB<|zka (X:=Nat) (fun x:Nat=>x≤n∧∀j,j<x→Pg.far (l.getD j (0,0))=false) (fun x=>[(5,.int .i64 ((x:Nat):Int)),(4,.int .i64 0),(0,.slice p n cap)]) (fun x=>[]) (fun x=>[slF (rI2 .i64) p cap l]) (fun x:Nat=>n - x) 0 (show 0≤n∧∀j,j<0→Pg.far (l.getD j (0,0))=false from by exact ⟨Nat.zero_le _,fun j h=>by omega⟩) ((.e rfl (by first|rfl|(congr 1;omega)|simp_all) (.c rfl (.c rfl .n))):SubM _ _) (ho:=(.n:PickO _ _ _)) ((.c (j:=0) rfl .n):SelR _ _ _) ?_
  rintro i hI
  replace hI:i≤n∧∀j,j<i→Pg.far (l.getD j (0,0))=false:=hI
  try dsimp only
  obtain ⟨hi,hall⟩:=hI
  refine zg<|zg<|za<|e_mv rfl<|e_mv rfl<|e_p (zN ya rfl)<|e_p (zY rfl rfl)<|zh<|zd<|zC rfl (fun h1=> ?_) (fun h1=> ?_)
  ·
   refine zA<|zd<|zg<|zB<|zg<|za<|e_mv rfl<|e_mv rfl<|zP (x0:=(l.getD i (0,0))) 0 i rfl ya sz30 rfl rfl rfl cbs rfl rfl (gD (d:=(0,0)) om) (fun b2 o3 hok4=> ?_)
   obtain ⟨hok4x,hok4y⟩:=hok4
   replace hok4x:=zD.1 hok4x
   replace hok4y:=zD.1 hok4y
   refine e_ru (zq (j:=0) 0 ty30 rfl rfl rfl (.t2 .nil))<|zL rfl rfl (.c rfl .n) ce48 (zBe (ex:=(l.getD i (0,0)).1) (ey:=(l.getD i (0,0)).2) (hwex:=cbo) (hwey:=cbo)) (.n)<|e_p (zYa rfl)<|zh<|zd<|zC rfl (fun hfar=> ?_) (fun hfar=> ?_)
   ·
    refine zg<|za<|e_p (zb rfl)<|e_p (zb rfl)<|zh<|zd<|zH<|zp<|zi<|zi<|zp<|zi ?_
    obtain ⟨hv1,hv2⟩:=Pg.ar_far (l:=l) om (Ms.any_true (0,0) (i:=i) om (by simpa [Pg.far] using hfar))
    exact zra Tryz.results14 () trivial (zl rfl) (zl rfl) (by rw [hv1,hv2]) (ho:=(.n:PickO _ _ _)) (.n:SelR _ _ _)
   ·
    refine zA<|zO<|zd<|za<|e_mv rfl<|e_p (zI (z:=(((i+1):Nat):Int)) rfl rfl (w64 om))<|e_p (zb rfl)<|zh<|zda (i+1) (show (i+1)≤n∧∀j,j<(i+1)→Pg.far (l.getD j (0,0))=false from by exact ⟨by omega,Ms.all_lt_succ (P:=fun j=>Pg.far (l.getD j (0,0))=false) hall (by simpa [Pg.far] using hfar)⟩) (by show n - (i+1)<n - i;omega) ((.of rfl):SubM _ _) (ho:=(.n:PickO _ _ _)) ((.c (j:=1) rfl .n):SelR _ _ _)
  ·
   have hnf:¬l.any Pg.far=true:=by rw [Ms.any_false (0,0) (fun j hj=>hall j om)];decide
   have hrng:=Pg.any_far hnf
   refine zja<|zj<|zj<|zt<|zd<|zg<|zg<|za<|e_p (zb rfl)<|zh<|zd<|zB<|zka (X:=Nat) (fun x:Nat=>x≤n) (fun x=>[(4,.int .i64 (Pg.dbN n l x)),(6,.int .i64 ((x:Nat):Int)),(0,.slice p n cap)]) (fun x=>[]) (fun x=>[slF (rI2 .i64) p cap l]) (fun x:Nat=>n - x) 0 (show 0≤n from by exact Nat.zero_le _) ((.e rfl (by first|rfl|(congr 1;omega)|simp_all) (.e rfl (by first|rfl|(congr 1;omega)|simp_all) (.c rfl .n))):SubM _ _) (ho:=(.n:PickO _ _ _)) ((.c (j:=0) rfl .n):SelR _ _ _) ?_
   rintro k hJ
   replace hJ:k≤n:=hJ
   try dsimp only
   refine zg<|zg<|za<|e_mv rfl<|e_mv rfl<|e_p (zN ya rfl)<|e_p (zY rfl rfl)<|zh<|zd<|zC rfl (fun h5=> ?_) (fun h5=> ?_)
   ·
    have hm1:(k+1)%n<n:=Nat.mod_lt _ om
    have hg0:Pg.inR (l.getD k (0,0)):=Pg.Ok.gt hrng om
    have hg1:Pg.inR (l.getD ((k+1)%n) (0,0)):=Pg.Ok.gt hrng om
    obtain ⟨hp1,hp2⟩:=Pg.ab hg0 hg1
    have hb1:=Pg.dbN_b hn hrng (i:=k) om
    refine zA<|zd<|zg<|zB<|zg<|za<|e_mv rfl<|e_mv rfl<|e_p (zI (z:=(((k+1):Nat):Int)) rfl rfl (w64 om))<|e_mv rfl<|e_p (zN ya rfl)<|e_p (zwa (z:=((((k+1)%n):Nat):Int)) rfl rfl om (remN om om))<|zP (x0:=(l.getD ((k+1)%n) (0,0))) 0 ((k+1)%n) rfl ya sz30 rfl rfl rfl cbs rfl rfl (gD (d:=(0,0)) om) (fun b6 o7 hok8=> ?_)
    obtain ⟨hok8x,hok8y⟩:=hok8
    replace hok8x:=zD.1 hok8x
    replace hok8y:=zD.1 hok8y
    refine e_ru (zq (j:=0) 0 ty30 rfl rfl rfl (.t2 .nil))<|zM rfl rfl (zn zr30 rfl) (fun b9=> ?_)
    refine zk 0 rfl rfl rfl rfl rfl sz30 rfl (.t2 .nil) .z<|zh<|zd<|zW (OW:=[]) (O:=[boxA b9 30 [.int .i64 ((l.getD ((k+1)%n) (0,0)).1),.int .i64 ((l.getD ((k+1)%n) (0,0)).2)]]) 100000 mixed (.block (.then (.then (.block (.then .ret))))) kr<|e_dm 0 rfl rfl rfl<|e_dm 1 rfl rfl rfl<|e_dm 2 rfl rfl rfl<|zZ (x0:=(l.getD k (0,0))) 3 rfl rfl kr kr 1 k rfl ya sz30 rfl rfl rfl cbs rfl rfl (gD (d:=(0,0)) om) (fun b10 o11 hok12=> ?_)
    obtain ⟨hok12x,hok12y⟩:=hok12
    replace hok12x:=zD.1 hok12x
    replace hok12y:=zD.1 hok12y
    refine e_pv 4 rfl rfl (ze yd rfl sz3 rfl rfl)<|e_u 5 rfl rfl (zx (j:=0) 0 ty3 rfl rfl rfl rfl)<|e_pv 6 rfl rfl (ze yd rfl sz3 rfl rfl)<|e_u 7 rfl rfl (zf 0 ty3 rfl rfl rfl)<|e_pv 8 rfl rfl (zya (z:=((l.getD k (0,0)).1*(l.getD ((k+1)%n) (0,0)).2)) rfl rfl (w64 om))<|e_pv 9 rfl rfl (zI (z:=((Pg.dbN n l k)+((l.getD k (0,0)).1*(l.getD ((k+1)%n) (0,0)).2))) rfl rfl (w64 om))<|e_pv 10 rfl rfl (ze yd rfl sz3 rfl rfl)<|e_u 11 rfl rfl (zf 0 ty3 rfl rfl rfl)<|e_dm 12 rfl rfl rfl<|e_dm 13 rfl rfl rfl<|zZ (x0:=(l.getD k (0,0))) 14 rfl rfl kr kr 2 k rfl ya sz30 rfl rfl rfl cbs rfl rfl (gD (d:=(0,0)) om) (fun b13 o14 hok15=> ?_)
    obtain ⟨hok15x,hok15y⟩:=hok15
    replace hok15x:=zD.1 hok15x
    replace hok15y:=zD.1 hok15y
    refine e_pv 15 rfl rfl (ze yd rfl sz3 rfl rfl)<|e_u 16 rfl rfl (zx (j:=1) 0 ty3 rfl rfl rfl rfl)<|e_pv 17 rfl rfl (zya (z:=((l.getD ((k+1)%n) (0,0)).1*(l.getD k (0,0)).2)) rfl rfl (w64 om))<|e_pv 18 rfl rfl (zla (z:=(((Pg.dbN n l k)+((l.getD k (0,0)).1*(l.getD ((k+1)%n) (0,0)).2)) - ((l.getD ((k+1)%n) (0,0)).1*(l.getD k (0,0)).2))) rfl rfl (w64 om))<|e_pv 19 rfl rfl (zb rfl)<|zT kr<|zO<|zd<|za<|e_mv rfl<|e_p (zI (z:=(((k+1):Nat):Int)) rfl rfl (w64 om))<|e_p (zb rfl)<|zh<|zda (k+1) (show (k+1)≤n from by show k+1≤n;omega) (by show n - (k+1)<n - k;omega) ((.e rfl (by refine congrArg (Value.int .i64) ?_;show _=Pg.dbN n l k+Pg.tm n l k;unfold Pg.tm Pg.gt;omega) (.c rfl (.c rfl .n))):SubM _ _) (ho:=(.n:PickO _ _ _)) ((.c (j:=3) rfl .n):SelR _ _ _)
   ·
    refine zja<|zj<|zj<|zt<|zd<|zg<|za<|e_mv rfl<|e_p (zb rfl)<|e_p (zb rfl)<|zh<|zd<|zH ?_
    obtain ⟨hv1,hv2⟩:=Pg.ar_ok (l:=l) om hnf
    exact zra Tryz.results14 () trivial (zl rfl) (zl rfl) (by rw [hv1,hv2,show k=n by omega,Pg.db,hn]) (ho:=(.n:PickO _ _ _)) (.n:SelR _ _ _)
end Go.Proofs.YtjcpbhlijoigfaaGreat.Sp
namespace Go.Proofs.YtjcpbhlijoigfaaGreat.Sp
open Go
set_option linter.unusedVariables false
set_option maxRecDepth 100000
set_option maxHeartbeats 8000000
theorem zQe {p:Option Addr} {n:Nat} {cap:Nat} {l:List Pg.P2} (hn:l.length=n):Con ye 37 [.slice p n cap] [] [slF (rI2 .i64) p cap l] (Y:=Unit) (fun y=>True) (fun y=> .tuple #[.bool (decide (Pg.ck l=0∧Pg.cvR l)),.int .i64 (Pg.ck l)]) (fun y=>[]) (fun y=>[]):=by
 refine zm Tryz.func37 rfl rfl rfl (fun c=> ?_)
 show RunC _ _ _ _ _ [(0,.slice p n cap)] [] [slF (rI2 .i64) p cap l]
 refine zba 0 rfl (fun hL0=> ?_)
 refine zg<|za<|e_p (zb rfl)<|e_p (zb rfl)<|zh<|zd<|zg<|zg<|za<|e_mv rfl<|zL rfl rfl (.c rfl .n) ce15 (zyb (p:=p) (n:=n) (cap:=cap) (l:=l) (hn:=ass)) (.c (j:=0) rfl .n)<|e_p (zb rfl)<|zh<|zd<|zg<|za<|e_mv rfl<|e_p (zMa rfl rfl)<|zh<|zd<|zC rfl (fun hbad=> ?_) (fun hbad=> ?_)
 ·
  refine zg<|za<|e_mv rfl<|e_p (zb rfl)<|e_p (zb rfl)<|zh<|zd<|zH<|zi ?_
  exact zra Tryz.results37 () trivial (zl rfl) (zl rfl) (by rw [decide_eq_false (p:=Pg.ck l=0∧Pg.cvR l) (fun h=>hbad h.1)]) (ho:=(.n:PickO _ _ _)) (.n:SelR _ _ _)
 ·
  have hz:=Decidable.not_not.1 hbad
  have hok:=Pg.ok hz
  have hrng:=hok.rng
  have h64:n≤64:=by have:=hok.n64;omega
  have hn3:3≤n:=by have:=hok.n3;omega
  have hsm:Pg.Sm n l:=by have h9:=Pg.Sm.of hz;rwa [hn] at h9
  have hdb:=Sw.db_ne hsm hrng
  refine zA<|zd<|zg<|za<|e_mv rfl<|zE rfl rfl (.c rfl .n) ce75 (zdc (p:=p) (n:=n) (cap:=cap) (l:=l) (hn:=ass) (h64:=by first|rfl|assumption|omega|exact Pg.sg_rng l|exact Pg.range_nt om|(rw [List.length_range];omega)) (hrng:=by first|rfl|assumption|omega|exact Pg.sg_rng l|exact Pg.range_nt om|(rw [List.length_range];omega))) (.c (j:=0) rfl .n) ?_
  rintro ⟨b1,B2,N3⟩ hR0
  dsimp only [aq,nq,cq]
  replace hR0:Pg.Rg n (List.range n) B2 N3:=hR0
  refine e_p (zb rfl)<|zh<|zd<|zg<|zg<|za<|e_mv rfl<|e_p (zN ya rfl)<|e_mv rfl<|zh<|zd<|zB<|zka (X:=Nat) (fun x:Nat=>x≤n∧∀j,j<x→¬Pg.corn l (Pg.sg l) (List.range n) j<0) (fun x=>[(16,.int .i64 ((x:Nat):Int)),(15,.int .i64 ((n:Nat):Int)),(5,.pointer (some ⟨b1,0,none⟩))]) (fun x=>[boxA b1 98 (rgC p n cap B2 N3 ((n:Nat):Int) (Pg.sg l))]) (fun x=>[slF (rI2 .i64) p cap l]) (fun x:Nat=>n - x) 0 (show 0≤n∧∀j,j<0→¬Pg.corn l (Pg.sg l) (List.range n) j<0 from by exact ⟨Nat.zero_le _,fun j h=>by omega⟩) ((.e rfl (by first|rfl|(congr 1;omega)|simp_all) (.c rfl (.c rfl .n))):SubM _ _) (ho:=((.c (i:=0) rfl .n):PickO _ _ _)) ((.c (j:=0) rfl .n):SelR _ _ _) ?_
  rintro v hI
  replace hI:v≤n∧∀j,j<v→¬Pg.corn l (Pg.sg l) (List.range n) j<0:=hI
  try dsimp only
  obtain ⟨hv,hall⟩:=hI
  refine zg<|za<|e_p (zY rfl rfl)<|zh<|zd<|zg<|zC rfl (fun h4=> ?_) (fun h4=> ?_)
  ·
   refine zA<|zd<|zg<|zB<|zg<|za<|e_mv rfl<|e_p (zb rfl)<|zh<|zd<|zg<|za<|e_mv rfl<|e_mv rfl<|zrb (A:=[boxA b1 98 (rgC p n cap B2 N3 ((n:Nat):Int) (Pg.sg l))]) (F:=[]) (first:=[]) (cap:=[]) rfl rfl rfl (.c rfl (.c rfl .n)) ce82 (zyc (b:=b1) (p:=p) (n:=n) (cap:=cap) (l:=l) (B:=B2) (N:=N3) (kk:=((n:Nat):Int)) (s:=(Pg.sg l)) (L:=(List.range n)) (v:=v) (i:=v) (hn:=ass) (hg:=by first|rfl|assumption|omega|exact Pg.sg_rng l|exact Pg.range_nt om|(rw [List.length_range];omega)) (hrng:=by first|rfl|assumption|omega|exact Pg.sg_rng l|exact Pg.range_nt om|(rw [List.length_range];omega)) (hs:=by first|rfl|assumption|omega|exact Pg.sg_rng l|exact Pg.range_nt om|(rw [List.length_range];omega)) (hi:=by first|rfl|assumption|omega|exact Pg.sg_rng l|exact Pg.range_nt om|(rw [List.length_range];omega)) (hv:=by first|rfl|assumption|omega|exact Pg.sg_rng l|exact Pg.range_nt om|(rw [List.length_range];omega))) (.c (j:=0) rfl .n) ?_
   rintro ⟨⟩ -
   dsimp only [aq,nq,cq]
   refine e_p (zY rfl rfl)<|zh<|zd<|zC rfl (fun hco=> ?_) (fun hco=> ?_)
   ·
    refine zg<|za<|e_p (zb rfl)<|e_p (zb rfl)<|zh<|zd<|zH<|zp<|zi<|zi<|zp<|zi ?_
    exact zra Tryz.results37 () trivial (zl rfl) (zl rfl) (by rw [decide_eq_false (p:=Pg.ck l=0∧Pg.cvR l) (fun h=>absurd hco ((Pg.cv_iff hn hdb).1 h.2 v om)),hz]) (ho:=(.n:PickO _ _ _)) (.n:SelR _ _ _)
   ·
    refine zA<|zO<|zd<|za<|e_p (zI (z:=(((v+1):Nat):Int)) rfl rfl (w64 om))<|e_mv rfl<|zh<|zda (v+1) (show (v+1)≤n∧∀j,j<(v+1)→¬Pg.corn l (Pg.sg l) (List.range n) j<0 from by exact ⟨by omega,Ms.all_lt_succ hall hco⟩) (by show n - (v+1)<n - v;omega) ((.of rfl):SubM _ _) (ho:=((.c (i:=0) rfl .n):PickO _ _ _)) ((.c (j:=0) rfl .n):SelR _ _ _)
  ·
   refine zja<|zj<|zj<|zt<|zd<|zg<|za<|e_p (zb rfl)<|e_p (zb rfl)<|zh<|zd<|zH ?_
   exact zra Tryz.results37 () trivial (zl rfl) (zl rfl) (by rw [decide_eq_true (p:=Pg.ck l=0∧Pg.cvR l) ⟨hz,(Pg.cv_iff hn hdb).2 (fun j hj=>hall j om)⟩,hz]) (ho:=(.n:PickO _ _ _)) (.n:SelR _ _ _)
theorem zle {p:Option Addr} {n:Nat} {cap:Nat} {l:List Pg.P2} (hn:l.length=n) (h64:n≤64) (hrng:∀x∈l,Pg.inR x):Con ye 22 [.slice p n cap] [] [slF (rI2 .i64) p cap l] (Y:=Unit) (fun y=>True) (fun y=> .bool (decide (Pg.cvR l))) (fun y=>[]) (fun y=>[]):=by
 refine zm Tryz.func22 rfl rfl rfl (fun c=> ?_)
 show RunC _ _ _ _ _ [(0,.slice p n cap)] [] [slF (rI2 .i64) p cap l]
 refine zba 0 rfl (fun hL0=> ?_)
 have hnf:¬l.any Pg.far=true:=fun h=>by obtain ⟨x,hx,hf⟩:=List.any_eq_true.1 h;unfold Pg.far at hf;simp at hf;exact hf (hrng x hx)
 have hA:Pg.arV l=Pg.db l:=(Pg.ar_ok om hnf).1
 have hA0:Pg.arC l=0:=(Pg.ar_ok om hnf).2
 have hdbb:=Pg.dbN_b hn hrng (i:=n) (Nat.le_refl _)
 have hdb2:Pg.db l=Pg.dbN n l n:=by rw [Pg.db,hn]
 refine zg<|za<|e_p (zb rfl)<|zh<|zd<|zg<|za<|e_mv rfl<|zL rfl rfl (.c rfl .n) ce14 (znc (p:=p) (n:=n) (cap:=cap) (l:=l) (hn:=ass)) (.c (j:=0) rfl .n)<|e_mv rfl<|e_p (zr rfl rfl)<|e_p (zr rfl rfl)<|e_p (zb rfl)<|e_p (zb rfl)<|zh<|zd<|zg<|zg ?_
 have e1:Pg.arV l=Pg.db l:=by exact hA
 rw [e1]
 refine za<|e_p (zb rfl)<|zh<|zd<|zB<|zka (X:=Nat) (fun x:Nat=>x≤n∧∀j,j<x→Pg.cvI l j) (fun x=>[(5,.int .i64 ((x:Nat):Int)),(3,.int .i64 (Pg.db l)),(0,.slice p n cap)]) (fun x=>[]) (fun x=>[slF (rI2 .i64) p cap l]) (fun x:Nat=>n - x) 0 (show 0≤n∧∀j,j<0→Pg.cvI l j from by exact ⟨Nat.zero_le _,fun j h=>by omega⟩) ((.e rfl (by first|rfl|(congr 1;omega)|simp_all) (.c rfl (.c rfl .n))):SubM _ _) (ho:=(.n:PickO _ _ _)) ((.c (j:=0) rfl .n):SelR _ _ _) ?_
 rintro k hI
 replace hI:k≤n∧∀j,j<k→Pg.cvI l j:=hI
 try dsimp only
 obtain ⟨hk,hall⟩:=hI
 refine zg<|zg<|za<|e_mv rfl<|e_mv rfl<|e_p (zN ya rfl)<|e_p (zY rfl rfl)<|zh<|zd<|zC rfl (fun h2=> ?_) (fun h2=> ?_)
 ·
  have hm1:(k+1)%n<n:=Nat.mod_lt _ om
  have hm2:(k+2)%n<n:=Nat.mod_lt _ om
  have hg0:Pg.inR (l.getD k (0,0)):=Pg.Ok.gt hrng om
  have hg1:Pg.inR (l.getD ((k+1)%n) (0,0)):=Pg.Ok.gt hrng om
  have hg2:Pg.inR (l.getD ((k+2)%n) (0,0)):=Pg.Ok.gt hrng om
  have hcb: -35184372088832≤(Pg.crs ((l.getD k (0,0)).1,(l.getD k (0,0)).2) ((l.getD ((k+1)%n) (0,0)).1,(l.getD ((k+1)%n) (0,0)).2) ((l.getD ((k+2)%n) (0,0)).1,(l.getD ((k+2)%n) (0,0)).2))∧(Pg.crs ((l.getD k (0,0)).1,(l.getD k (0,0)).2) ((l.getD ((k+1)%n) (0,0)).1,(l.getD ((k+1)%n) (0,0)).2) ((l.getD ((k+2)%n) (0,0)).1,(l.getD ((k+2)%n) (0,0)).2))≤35184372088832:=(Pg.cb hg0 hg1 hg2).c
  have hcv:Pg.cvI l k↔((Pg.crs ((l.getD k (0,0)).1,(l.getD k (0,0)).2) ((l.getD ((k+1)%n) (0,0)).1,(l.getD ((k+1)%n) (0,0)).2) ((l.getD ((k+2)%n) (0,0)).1,(l.getD ((k+2)%n) (0,0)).2)).sign=0∨(Pg.crs ((l.getD k (0,0)).1,(l.getD k (0,0)).2) ((l.getD ((k+1)%n) (0,0)).1,(l.getD ((k+1)%n) (0,0)).2) ((l.getD ((k+2)%n) (0,0)).1,(l.getD ((k+2)%n) (0,0)).2)).sign=(Pg.db l).sign):=by unfold Pg.cvI;rw [Pg.tr3_n hn]
  refine zA<|zd<|zg<|zB<|zg<|zW (OW:=[]) (O:=[]) 100000 mixed (.then (.block (.then (.then (.block (.then .ret)))))) kr<|e_dm 0 rfl rfl rfl<|e_dm 1 rfl rfl rfl<|zZ (x0:=(l.getD k (0,0))) 2 rfl rfl kr kr 0 k rfl ya sz30 rfl rfl rfl cbs rfl rfl (gD (d:=(0,0)) om) (fun b3 o4 hok5=> ?_)
  obtain ⟨hok5x,hok5y⟩:=hok5
  replace hok5x:=zD.1 hok5x
  replace hok5y:=zD.1 hok5y
  refine e_u 3 rfl rfl (zq (j:=0) 0 ty30 rfl rfl rfl (.t2 .nil))<|e_dm 4 rfl rfl rfl<|e_dm 5 rfl rfl rfl<|e_pv 6 rfl rfl (zI (z:=(((k+1):Nat):Int)) rfl rfl (w64 om))<|e_dm 7 rfl rfl rfl<|e_pv 8 rfl rfl (zN ya rfl)<|e_pv 9 rfl rfl (zwa (z:=((((k+1)%n):Nat):Int)) rfl rfl om (remN om om))<|zZ (x0:=(l.getD ((k+1)%n) (0,0))) 10 rfl rfl kr kr 1 ((k+1)%n) rfl ya sz30 rfl rfl rfl cbs rfl rfl (gD (d:=(0,0)) om) (fun b6 o7 hok8=> ?_)
  obtain ⟨hok8x,hok8y⟩:=hok8
  replace hok8x:=zD.1 hok8x
  replace hok8y:=zD.1 hok8y
  refine e_u 11 rfl rfl (zq (j:=0) 0 ty30 rfl rfl rfl (.t2 .nil))<|e_dm 12 rfl rfl rfl<|e_dm 13 rfl rfl rfl<|e_pv 14 rfl rfl (zI (z:=(((k+2):Nat):Int)) rfl rfl (w64 om))<|e_dm 15 rfl rfl rfl<|e_pv 16 rfl rfl (zN ya rfl)<|e_pv 17 rfl rfl (zwa (z:=((((k+2)%n):Nat):Int)) rfl rfl om (remN om om))<|zZ (x0:=(l.getD ((k+2)%n) (0,0))) 18 rfl rfl kr kr 2 ((k+2)%n) rfl ya sz30 rfl rfl rfl cbs rfl rfl (gD (d:=(0,0)) om) (fun b9 o10 hok11=> ?_)
  obtain ⟨hok11x,hok11y⟩:=hok11
  replace hok11x:=zD.1 hok11x
  replace hok11y:=zD.1 hok11y
  refine e_u 19 rfl rfl (zq (j:=0) 0 ty30 rfl rfl rfl (.t2 .nil))<|e_one 20 (zpa rfl rfl rfl rfl (.c rfl (.c rfl (.c rfl .n))) ce55 (zsb (ex:=(l.getD k (0,0)).1) (ey:=(l.getD k (0,0)).2) (fx:=(l.getD ((k+1)%n) (0,0)).1) (fy:=(l.getD ((k+1)%n) (0,0)).2) (gx:=(l.getD ((k+2)%n) (0,0)).1) (gy:=(l.getD ((k+2)%n) (0,0)).2) (hre:=cbo) (hrf:=cbo) (hrg:=cbo)) (.n) ?_)
  refine e_one 21 (zpa rfl rfl rfl rfl (.c rfl .n) ce65 (zxb (z:=Pg.crs (((l.getD k (0,0)).1),((l.getD k (0,0)).2)) (((l.getD ((k+1)%n) (0,0)).1),((l.getD ((k+1)%n) (0,0)).2)) (((l.getD ((k+2)%n) (0,0)).1),((l.getD ((k+2)%n) (0,0)).2))) (hz:=cbo)) (.n) ?_)
  refine e_pv 22 rfl rfl (zb rfl)<|zT kr<|zd<|zg<|za<|e_mv rfl<|e_p (zMa rfl rfl)<|zaa rfl rfl (zX rfl) (fun h42=> ?_) (fun h42=> ?_)
  ·
   refine e_mv rfl<|e_mv rfl<|zL rfl rfl (.c rfl .n) ce65 (zxb (z:=Pg.db l) (hz:=cbo)) (.n)<|e_p (zMa rfl rfl)<|e_p (zo rfl rfl)<|zh<|zd<|zC rfl (fun h47=> ?_) (fun h47=> ?_)
   ·
    refine zg<|za<|e_p (zb rfl)<|zh<|zd<|zH<|zp<|zi<|zi<|zp<|zi ?_
    exact zy Tryz.results22 () trivial (zl rfl) (congrArg Value.bool (decide_eq_false (fun h=>by have h9:=hcv.1 ((Pg.cvR_n hn).1 h k om);omega))) (ho:=(.n:PickO _ _ _)) (.n:SelR _ _ _)
   ·
    refine zA<|zO<|zd<|za<|e_mv rfl<|e_p (zI (z:=(((k+1):Nat):Int)) rfl rfl (w64 om))<|e_p (zb rfl)<|zh<|zda (k+1) (show (k+1)≤n∧∀j,j<(k+1)→Pg.cvI l j from by exact ⟨by omega,Ms.all_lt_succ hall (hcv.2 om)⟩) (by show n - (k+1)<n - k;omega) ((.of rfl):SubM _ _) (ho:=(.n:PickO _ _ _)) ((.c (j:=3) rfl .n):SelR _ _ _)
  ·
   refine e_no<|e_no<|e_no<|e_no<|e_p (zo rfl rfl)<|zh<|zd<|zgb rfl rfl<|zA<|zO<|zd<|za<|e_mv rfl<|e_p (zI (z:=(((k+1):Nat):Int)) rfl rfl (w64 om))<|e_p (zb rfl)<|zh<|zda (k+1) (show (k+1)≤n∧∀j,j<(k+1)→Pg.cvI l j from by exact ⟨by omega,Ms.all_lt_succ hall (hcv.2 om)⟩) (by show n - (k+1)<n - k;omega) ((.of rfl):SubM _ _) (ho:=(.n:PickO _ _ _)) ((.c (j:=3) rfl .n):SelR _ _ _)
 ·
  refine zja<|zj<|zj<|zt<|zd<|zg<|za<|e_p (zb rfl)<|zh<|zd<|zH ?_
  exact zy Tryz.results22 () trivial (zl rfl) (congrArg Value.bool (decide_eq_true ((Pg.cvR_n hn).2 (fun j hj=>hall j om)))) (ho:=(.n:PickO _ _ _)) (.n:SelR _ _ _)
end Go.Proofs.YtjcpbhlijoigfaaGreat.Sp
namespace Go.Proofs.YtjcpbhlijoigfaaGreat.Sp
open Go
set_option linter.unusedVariables false
set_option maxRecDepth 100000
set_option maxHeartbeats 8000000
theorem zEf {b:Nat} {p:Option Addr} {n:Nat} {cap:Nat} {l:List Pg.P2} {B:List Nat} {N:List Nat} {kk:Int} {s:Int} {L:List Nat} {bq:Nat} {v:Nat} {i:Nat} (hn:l.length=n) (hg:Pg.Rg n L B N) (hrng:∀x∈l,Pg.inR x) (hs:s=1∨s= -1) (hi:i<L.length) (hv:Pg.nt L i=v):Con ye 83 [.int .i64 ((v:Nat):Int),.pointer (some ⟨bq,0,none⟩)] [boxA b 98 (rgC p n cap B N kk s)] [slF (rI2 .i64) p cap l,atF bq 0 [.pointer (some ⟨b,0,none⟩)]] (Y:=Unit) (fun y=>True) (fun y=> .bool (decide (Pg.corn l s L i=0))) (fun y=>[boxA b 98 (rgC p n cap B N kk s)]) (fun y=>[]):=by
 refine zm Tryz.func83 rfl rfl rfl (fun c=> ?_)
 show RunC _ _ _ _ _ [(0,.int .i64 ((v:Nat):Int)),(1,.pointer (some ⟨bq,0,none⟩))] [boxA b 98 (rgC p n cap B N kk s)] [slF (rI2 .i64) p cap l,atF bq 0 [.pointer (some ⟨b,0,none⟩)]]
 refine zba 0 rfl (fun hL0=> ?_)
 refine zg<|za<|e_p (zb rfl)<|zh<|zd<|zg<|za<|e_ru (zx (j:=0) 1 ty93 rfl rfl rfl rfl)<|e_mv rfl<|zrb (A:=[boxA b 98 (rgC p n cap B N kk s)]) (F:=[]) (first:=[]) (cap:=[]) rfl rfl rfl (.c rfl (.c rfl .n)) ce82 (zyc (b:=b) (p:=p) (n:=n) (cap:=cap) (l:=l) (B:=B) (N:=N) (kk:=kk) (s:=s) (L:=L) (v:=v) (i:=i) (hn:=ass) (hg:=ass) (hrng:=ass) (hs:=ass) (hi:=ass) (hv:=ass)) (.c (j:=0) rfl .n) ?_
 rintro ⟨⟩ -
 dsimp only [aq,nq,cq]
 refine e_p (zua rfl rfl)<|e_p (zb rfl)<|zh<|zd<|zH ?_
 exact zy Tryz.results83 () trivial (zl rfl) rfl (ho:=((.c (i:=0) rfl .n):PickO _ _ _)) (.n:SelR _ _ _)
theorem zRe {b:Nat} {p:Option Addr} {n:Nat} {cap:Nat} {l:List Pg.P2} {B:List Nat} {N:List Nat} {kk:Int} {s:Int} {L:List Nat} {bq:Nat} {pb:Option Addr} {nb:Nat} {cb:Nat} {G:List Bool} (hn:l.length=n) (hg:Pg.Rg n L B N) (hrng:∀x∈l,Pg.inR x) (hs:s=1∨s= -1) (hG:Pg.Gn n L G) (hnb:G.length=nb) (h3:3≤L.length):Con ye 76 [.pointer (some ⟨b,0,none⟩),.slice pb nb cb,.func (.func 83) #[] #[.pointer (some ⟨bq,0,none⟩)]] [boxA b 98 (rgC p n cap B N kk s),rowA 4 rB pb cb G] [slF (rI2 .i64) p cap l,atF bq 0 [.pointer (some ⟨b,0,none⟩)]] (Y:=Int) (fun y=>Pg.Fst L (fun w=>Pg.corn l s L w=0) y) (fun y=> .int .i64 y) (fun y=>[boxA b 98 (rgC p n cap B N kk s),rowA 4 rB pb cb G]) (fun y=>[]):=by
 refine zm Tryz.func76 rfl rfl rfl (fun c=> ?_)
 show RunC _ _ _ _ _ [(0,.pointer (some ⟨b,0,none⟩)),(1,.slice pb nb cb),(2,.func (.func 83) #[] #[.pointer (some ⟨bq,0,none⟩)])] [boxA b 98 (rgC p n cap B N kk s),rowA 4 rB pb cb G] [slF (rI2 .i64) p cap l,atF bq 0 [.pointer (some ⟨b,0,none⟩)]]
 refine zba 0 rfl (fun hL0=> ?_)
 have hLB:=hg.lb
 have hLN:=hg.ln
 have hn64:=hg.n64
 have hGn:=hG.1
 refine zg<|za<|e_p (zb rfl)<|zh<|zd<|zg<|zg<|za<|e_mv rfl<|e_p (zQ rfl)<|e_p (ze yb rfl sz22 rfl rfl)<|e_ru (zf 0 ty22 rfl rfl rfl)<|e_p (zN ya rfl)<|e_mv rfl<|zh<|zd<|zB<|zka (X:=Nat×Nat) (fun x:Nat×Nat=>Pg.Fs n L (fun w=>Pg.corn l s L w=0) x.1 x.2) (fun x=>[(13,.int .i64 ((x.1:Nat):Int)),(12,.int .i64 ((n:Nat):Int)),(1,.slice pb nb cb),(2,.func (.func 83) #[] #[.pointer (some ⟨bq,0,none⟩)])]) (fun x=>[boxA b 98 (rgC p n cap B N kk s),rowA 4 rB pb cb G]) (fun x=>[slF (rI2 .i64) p cap l,atF bq 0 [.pointer (some ⟨b,0,none⟩)]]) (fun x:Nat×Nat=>n - x.1) (0,0) (show Pg.Fs n L (fun w=>Pg.corn l s L w=0) 0 0 from by exact Pg.Fs.zero) ((.e rfl (by first|rfl|(congr 1;omega)|simp_all) (.of rfl)):SubM _ _) (ho:=((.of [0,0] rfl):PickO _ _ _)) ((.of [0,1] rfl):SelR _ _ _) ?_
 rintro ⟨v,k⟩ hF
 replace hF:Pg.Fs n L (fun w=>Pg.corn l s L w=0) v k:=hF
 try dsimp only
 have hvn:=hF.vn
 refine zg<|za<|e_p (zY rfl rfl)<|zh<|zd<|zg<|zC rfl (fun h1=> ?_) (fun h1=> ?_)
 ·
  refine zA<|zd<|zg<|zB<|zg<|za<|e_mv rfl<|e_p (zb rfl)<|zh<|zd<|zEa (X:=Unit) (fun x=>True) (fun x=>[(25,.bool (decide (((!(G.getD v false))=true)∧(Pg.corn l s L k=0)))),(7,.int .i64 ((v:Nat):Int)),(13,.int .i64 ((v:Nat):Int)),(12,.int .i64 ((n:Nat):Int)),(1,.slice pb nb cb),(2,.func (.func 83) #[] #[.pointer (some ⟨bq,0,none⟩)])]) (fun x=>[boxA b 98 (rgC p n cap B N kk s),rowA 4 rB pb cb G]) (fun x=>[slF (rI2 .i64) p cap l,atF bq 0 [.pointer (some ⟨b,0,none⟩)]]) ?_ ?_
  ·
   refine za<|e_mv rfl<|e_mv rfl<|e_ru (zoa 1 v rfl yf sz4 rfl (by first|rfl|simp_all|omega) rfl rfl om)<|r_vl rfl rfl (zha 1 v rfl ty4 rfl rfl (gD (d:=false) om) rfl) (fun _ hok2=> ?_)
   refine e_p (ztb rfl)<|zRc rfl rfl (zX rfl) (fun hgo=> ?_) (fun hgo=> ?_)
   ·
    refine e_mv rfl<|e_mv rfl<|zrb (A:=[boxA b 98 (rgC p n cap B N kk s)]) (F:=[rowA 4 rB pb cb G]) (first:=[]) (cap:=[.pointer (some ⟨bq,0,none⟩)]) rfl rfl rfl (.c rfl .n) ce83 (zEf (b:=b) (p:=p) (n:=n) (cap:=cap) (l:=l) (B:=B) (N:=N) (kk:=kk) (s:=s) (L:=L) (bq:=bq) (v:=v) (i:=k) (hn:=ass) (hg:=ass) (hrng:=ass) (hs:=ass) (hi:=by first|rfl|assumption|omega|exact (hF.here hg hG om (by first|assumption|simp_all)).1|exact (hF.here hg hG om (by first|assumption|simp_all)).2) (hv:=by first|rfl|assumption|omega|exact (hF.here hg hG om (by first|assumption|simp_all)).1|exact (hF.here hg hG om (by first|assumption|simp_all)).2)) (.c (j:=0) rfl (.c (j:=1) rfl .n)) ?_
    rintro ⟨⟩ -
    dsimp only [aq,nq,cq]
    refine e_p (zo rfl rfl)<|zh ?_
    exact zga () (show True from by first|trivial|omega|simp_all) ((.e rfl (congrArg Value.bool cbu) (.of rfl)):SubM _ _) (ho:=((.of [0,0] rfl):PickO _ _ _)) ((.of [0,1] rfl):SelR _ _ _)
   ·
    refine e_no<|e_no<|e_no<|e_p (zo rfl rfl)<|zh ?_
    exact zga () (show True from by first|trivial|omega|simp_all) ((.e rfl (congrArg Value.bool cbu) (.of rfl)):SubM _ _) (ho:=((.of [0,0] rfl):PickO _ _ _)) ((.of [0,1] rfl):SelR _ _ _)
  ·
   rintro ⟨⟩ -
   try dsimp only
   refine zC rfl (fun hear=> ?_) (fun hear=> ?_)
   ·
    refine zg<|za<|e_mv rfl<|e_p (zb rfl)<|zh<|zd<|zH<|zp<|zi<|zi<|zp<|zi ?_
    exact zy yh ((v:Nat):Int) (.inl ⟨k,(hF.here hg hG om (by first|assumption|simp_all)).1,by rw [(hF.here hg hG om (by first|assumption|simp_all)).2],hear.2,hF.no⟩) (zl rfl) rfl (ho:=((.of [0,0] rfl):PickO _ _ _)) (.n:SelR _ _ _)
   ·
    refine zA<|zO<|zd<|za<|e_p (zI (z:=(((v+1):Nat):Int)) rfl rfl (w64 om))<|e_mv rfl<|zh<|zda ((v+1),(if G.getD v false=true then k else k+1)) (show Pg.Fs n L (fun w=>Pg.corn l s L w=0) (v+1) (if G.getD v false=true then k else k+1) from by by_cases hgb:G.getD v false=true;(rw [if_pos hgb];exact hF.skip hG om hgb);(rw [if_neg hgb];exact hF.next hg om (hF.here hg hG om hgb) (fun h9=>hear (by first|exact ⟨by simpa using hgb,h9⟩|simpa using hgb)))) (by show n - (v+1)<n - v;omega) ((.of rfl):SubM _ _) (ho:=((.of [0,0] rfl):PickO _ _ _)) ((.of [0,1] rfl):SelR _ _ _)
 ·
  refine zja<|zj<|zj<|zt<|zd<|zg<|za<|e_p (zb rfl)<|zh<|zd<|zH ?_
  exact zy yh (-1) (.inr ⟨rfl,Pg.Fs.fin (n:=n) (by have h9:v=n:=om;rw [h9] at hF;exact hF) hg⟩) (zl rfl) rfl (ho:=((.of [0,0] rfl):PickO _ _ _)) (.n:SelR _ _ _)
theorem zdg {p:Option Addr} {n:Nat} {cap:Nat} {l:List Pg.P2} (hn:l.length=n):Con ye 38 [.slice p n cap] [] [slF (rI2 .i64) p cap l] (Y:=(Option Addr)×Nat) (fun y=>True) (fun y=> .tuple #[.slice (y.1) ((Pg.tdO l).length) (y.2),.int .i64 (Pg.ck l)]) (fun y=>[rowA 30 (rI2 .i64) (y.1) (y.2) (Pg.tdO l)]) (fun y=>[]):=by
 refine zm Tryz.func38 rfl rfl rfl (fun c=> ?_)
 show RunC _ _ _ _ _ [(0,.slice p n cap)] [] [slF (rI2 .i64) p cap l]
 refine zba 0 rfl (fun hL0=> ?_)
 refine zg<|za<|e_p (zb rfl)<|e_p (zb rfl)<|zh<|zd<|zg<|zg<|za<|e_mv rfl<|zL rfl rfl (.c rfl .n) ce15 (zyb (p:=p) (n:=n) (cap:=cap) (l:=l) (hn:=ass)) (.c (j:=0) rfl .n)<|e_p (zb rfl)<|zh<|zd<|zg<|za<|e_mv rfl<|e_p (zMa rfl rfl)<|zh<|zd<|zC rfl (fun hbad=> ?_) (fun hbad=> ?_)
 ·
  have hv1:=Pg.tdO_bad hbad
  refine zg<|zcb 30 (rI2 .i64) ?_
  have e1:([]:List Pg.P2)=(Pg.tdO l):=by exact hv1.symm
  rw [e1]
  refine za<|e_mv rfl<|e_p (zb rfl)<|e_p (zb rfl)<|zh<|zd<|zH<|zi ?_
  exact zra Tryz.results38 (none,0) trivial (zl rfl) (zl rfl) (by rw [hv1];rfl) (ho:=((.c (i:=0) rfl .n):PickO _ _ _)) (.n:SelR _ _ _)
 ·
  have hz:=Decidable.not_not.1 hbad
  have hok:=Pg.ok hz
  have hrng:=hok.rng
  have h64:n≤64:=by have:=hok.n64;omega
  have hn3:3≤n:=by have:=hok.n3;omega
  have hsm:Pg.Sm n l:=by have h9:=Pg.Sm.of hz;rwa [hn] at h9
  have hdb:=Sw.db_ne hsm hrng
  have hv1:=Pg.tdO_ok hz
  refine zA<|zd<|zg<|za<|e_mv rfl<|zE rfl rfl (.c rfl .n) ce75 (zdc (p:=p) (n:=n) (cap:=cap) (l:=l) (hn:=ass) (h64:=by first|rfl|assumption|omega|exact hok.n64|exact hok.rng|exact hG.1|exact Pg.sg_rng l) (hrng:=by first|rfl|assumption|omega|exact hok.n64|exact hok.rng|exact hG.1|exact Pg.sg_rng l)) (.c (j:=0) rfl .n) ?_
  rintro ⟨b2,B3,N4⟩ hR0
  dsimp only [aq,nq,cq]
  replace hR0:Pg.Rg n (List.range n) B3 N4:=hR0
  refine zM rfl rfl (zn zr93 rfl) (fun b5=> ?_)
  refine zk 0 rfl rfl rfl rfl rfl sz93 rfl (.take .nil) .z<|zh<|zd<|zg<|za<|e_mv rfl<|e_p (zN ya rfl)<|zFa rfl rfl (zqb (r:=rB) (k:=n) (x0:=false) (γ0:=()) yf inf4 rfl rfl rfl rfl om om rfl (fun g _=>by trivial) dd) (fun b6 _=> ?_)
  refine e_p (zb rfl)<|zh<|zd<|zg<|zMb 1 rfl (.s .z)<|za<|e_p (zLa .n (.c rfl .n))<|e_p (zb rfl)<|zh<|zd<|zg<|zB<|zka (X:=(List Nat)×(List Nat)×(List Nat)×(List Bool)) (fun x:(List Nat)×(List Nat)×(List Nat)×(List Bool)=>Pg.Rg n x.1 x.2.1 x.2.2.1∧x.1.length≤64∧Pg.Gn n x.1 x.2.2.2∧Pg.TdI l x.1) (fun x=>[(7,.func (.func 83) #[] #[.pointer (some ⟨b5,0,none⟩)]),(6,.slice (some ⟨b6,0,none⟩) n n),(5,.pointer (some ⟨b5,0,none⟩)),(3,.int .i64 0),(2,.slice none 0 0),(0,.slice p n cap)]) (fun x=>[rowA 4 rB (some ⟨b6,0,none⟩) n (x.2.2.2),boxA b2 98 (rgC p n cap (x.2.1) (x.2.2.1) ((x.1.length:Nat):Int) (Pg.sg l))]) (fun x=>[atF b5 0 [.pointer (some ⟨b2,0,none⟩)],slF (rI2 .i64) p cap l]) (fun x:(List Nat)×(List Nat)×(List Nat)×(List Bool)=>x.1.length) ((List.range n),B3,N4,(List.replicate n false)) (show Pg.Rg n (List.range n) B3 N4∧(List.range n).length≤64∧Pg.Gn n (List.range n) (List.replicate n false)∧Pg.TdI l (List.range n) from by exact ⟨hR0,by rw [List.length_range];exact h64,Pg.Gn.zero,Pg.TdI.zero hn⟩) ((.of rfl):SubM _ _) (ho:=((.e (i:=0) rfl (by first|rfl|(congr 1;omega)|simp_all) (.e (i:=1) rfl (by first|rfl|(congr 1;omega)|simp_all) .n)):PickO _ _ _)) ((.of [0,1] rfl):SelR _ _ _) ?_
  rintro ⟨L,B,N,G⟩ hI
  replace hI:Pg.Rg n L B N∧L.length≤64∧Pg.Gn n L G∧Pg.TdI l L:=hI
  try dsimp only
  obtain ⟨hg,h4,hG,hT⟩:=hI
  have h3:=hT.n3 hdb
  have hLB:=hg.lb
  have hLN:=hg.ln
  have hGn:=hG.1
  refine zB<|zg<|za<|e_ru (zx (j:=0) 0 ty93 rfl rfl rfl rfl)<|e_mv rfl<|e_mv rfl<|zkd (zca (i:=1) rfl)<|zrb (A:=[boxA b2 98 (rgC p n cap B N ((L.length:Nat):Int) (Pg.sg l)),rowA 4 rB (some ⟨b6,0,none⟩) n G]) (F:=[]) (first:=[]) (cap:=[]) rfl rfl rfl (.c rfl (.c rfl (.c rfl .n))) ce76 (zRe (b:=b2) (p:=p) (n:=n) (cap:=cap) (l:=l) (B:=B) (N:=N) (kk:=((L.length:Nat):Int)) (s:=(Pg.sg l)) (L:=L) (bq:=b5) (pb:=some ⟨b6,0,none⟩) (nb:=n) (cb:=n) (G:=G) (hn:=ass) (hg:=by first|rfl|assumption|omega|exact hok.n64|exact hok.rng|exact hG.1|exact Pg.sg_rng l) (hrng:=by first|rfl|assumption|omega|exact hok.n64|exact hok.rng|exact hG.1|exact Pg.sg_rng l) (hs:=by first|rfl|assumption|omega|exact hok.n64|exact hok.rng|exact hG.1|exact Pg.sg_rng l) (hG:=by first|rfl|assumption|omega|exact hok.n64|exact hok.rng|exact hG.1|exact Pg.sg_rng l) (hnb:=by first|rfl|assumption|omega|exact hok.n64|exact hok.rng|exact hG.1|exact Pg.sg_rng l) (h3:=by first|rfl|assumption|omega|exact hok.n64|exact hok.rng|exact hG.1|exact Pg.sg_rng l)) (.c (j:=1) rfl (.c (j:=0) rfl .n)) ?_
  rintro r1 hR1
  dsimp only [aq,nq,cq]
  replace hR1:Pg.Fst L (fun w=>Pg.corn l (Pg.sg l) L w=0) r1:=hR1
  refine e_p (zb rfl)<|zh<|zd<|zg<|zg<|za<|e_mv rfl<|e_p (zY rfl rfl)<|zh<|zd<|zC rfl (fun hneg=> ?_) (fun hneg=> ?_)
  ·
   have hnone:∀j,j<L.length→¬Pg.corn l (Pg.sg l) L j=0:=by rcases hR1 with ⟨q,a,b,_⟩|h;(exfalso;omega);exact h.2
   have hfin:=hT.fin (Pg.sg_rng l) hnone
   refine zja<|zj<|zDc rfl<|zj<|zt<|zd<|zg<|za<|e_p (zb rfl)<|zh<|zd<|zg<|zg<|zcb 30 (rI2 .i64)<|za<|e_mv rfl<|e_p (zN ya rfl)<|e_mv rfl<|zh<|zd<|zB<|zka (X:=Nat×Nat×(Option Addr)×Nat) (fun x:Nat×Nat×(Option Addr)×Nat=>Pg.Fs n L (fun _=>False) x.1 x.2.1) (fun x=>[(9,.slice (x.2.2.1) (x.2.1) (x.2.2.2)),(37,.int .i64 ((x.1:Nat):Int)),(36,.int .i64 ((n:Nat):Int)),(35,.slice p n cap),(6,.slice (some ⟨b6,0,none⟩) n n),(3,.int .i64 0),(2,.slice none 0 0)]) (fun x=>[rowA 30 (rI2 .i64) (x.2.2.1) (x.2.2.2) (Pg.ps l (L.take x.2.1)),boxA b2 98 (rgC p n cap B N ((L.length:Nat):Int) (Pg.sg l)),rowA 4 rB (some ⟨b6,0,none⟩) n G]) (fun x=>[atF b5 0 [.pointer (some ⟨b2,0,none⟩)],slF (rI2 .i64) p cap l]) (fun x:Nat×Nat×(Option Addr)×Nat=>n - x.1) (0,0,none,0) (show Pg.Fs n L (fun _=>False) 0 0 from by exact Pg.Fs.zero) ((.c rfl (.e rfl (by first|rfl|(congr 1;omega)|simp_all) (.of rfl))):SubM _ _) (ho:=((.e (i:=0) rfl (by first|rfl|(congr 1;omega)|simp_all) (.of [0,0] rfl)):PickO _ _ _)) ((.of [0,1] rfl):SelR _ _ _) ?_
   rintro ⟨v,k,p7,c7⟩ hF
   replace hF:Pg.Fs n L (fun _=>False) v k:=hF
   try dsimp only
   have hvn:=hF.vn
   have hkm:=hF.km
   refine zg<|za<|e_p (zY rfl rfl)<|zh<|zd<|zg<|zC rfl (fun h7=> ?_) (fun h7=> ?_)
   ·
    refine zA<|zd<|zg<|zB<|zg<|za<|e_mv rfl<|zP (x0:=(l.getD v (0,0))) 1 v rfl ya sz30 rfl rfl rfl (by first|rfl|assumption|omega|(rw [Pg.ps_len,List.length_take];omega)) rfl rfl (gD (d:=(0,0)) om) (fun b8 o9 hok10=> ?_)
    obtain ⟨hok10x,hok10y⟩:=hok10
    replace hok10x:=zD.1 hok10x
    replace hok10y:=zD.1 hok10y
    refine e_ru (zq (j:=0) 0 ty30 rfl rfl rfl (.t2 .nil))<|zM rfl rfl (zn zr30 rfl) (fun b11=> ?_)
    refine e_p (zb rfl)<|zk 0 rfl rfl rfl rfl rfl sz30 rfl (.t2 .nil) .z<|zh<|zd<|zg<|za<|e_mv rfl<|e_mv rfl<|e_p (zia (j:=v) yf sz4 rfl rfl rfl om)<|r_vl rfl rfl (zha 3 v rfl ty4 rfl rfl (gD (d:=false) om) rfl) (fun _ hok12=> ?_)
    refine e_p (ztb rfl)<|zh<|zd<|zob rfl (fun hgo=> ?_) (fun hgo=> ?_)
    ·
     refine za<|e_mv rfl<|e_ru (zc 0 ty30 rfl rfl (.t2 .nil))<|zFa rfl rfl (zV (enc:=fun z:Int×Int=>[.int .i64 z.1,.int .i64 z.2]) (ok:=fun z=>InK .i64 z.1∧InK .i64 z.2) (h1:=fun _=>rfl) (h2:=fun _=>rfl) (k:=1) ya inf30 rfl dd dd dd (.c (x:=((l.getD v (0,0)).1,(l.getD v (0,0)).2)) rfl rfl (fun _ _=>by exact ⟨zD.2 (by first|omega|decide|(dsimp only;omega)),zD.2 (by first|omega|decide|(dsimp only;omega))⟩) .n)) (fun b13 _=> ?_)
     refine zma 0 rfl .z<|zIa 2 rfl rfl rfl (zsa 0 rfl ya inf30 dd rfl rfl (by first|rfl|assumption|omega|(rw [Pg.ps_len,List.length_take];omega)) rfl (by first|rfl|assumption|omega|(rw [Pg.ps_len,List.length_take];omega)) om om) (fun _=>(.s (.s .z))) ?_
     rintro ⟨p14,c15⟩ -
     dsimp only [aq,nq,cq]
     refine e_p (zb rfl)<|zh<|zO<|zd<|za<|e_p (zI (z:=(((v+1):Nat):Int)) rfl rfl (w64 om))<|e_mv rfl<|zh ?_
     have hh:=hF.here hg hG om (by first|assumption|simp_all)
     have e16:(((Pg.ps l (L.take k))++([((l.getD v (0,0)).1,(l.getD v (0,0)).2)])):List Pg.P2)=(Pg.ps l (L.take (k+1))):=by rw [Pg.ps_take hh.1,hh.2]
     rw [e16]
     refine zda ((v+1),(k+1),p14,c15) (show Pg.Fs n L (fun _=>False) (v+1) (k+1) from by exact hF.next hg om hh (fun z=>z)) (by show n - (v+1)<n - v;omega) ((.e rfl (by first|rfl|(congr 1;omega)|simp_all) (.of rfl)):SubM _ _) (ho:=((.of [2,2,2] rfl):PickO _ _ _)) ((.of [2,3] rfl):SelR _ _ _)
    ·
     refine zA<|zO<|zd<|za<|e_p (zI (z:=(((v+1):Nat):Int)) rfl rfl (w64 om))<|e_mv rfl<|zh<|zda ((v+1),k,p7,c7) (show Pg.Fs n L (fun _=>False) (v+1) k from by exact hF.skip hG om (by first|assumption|simp_all)) (by show n - (v+1)<n - v;omega) ((.of rfl):SubM _ _) (ho:=((.of [1,1,1] rfl):PickO _ _ _)) ((.of [1,2] rfl):SelR _ _ _)
   ·
    refine zja<|zj<|zj<|zt<|zd<|zg<|za<|e_mv rfl<|e_p (zb rfl)<|e_p (zb rfl)<|zh<|zd<|zH ?_
    have hvn9:v=n:=by omega
    have hka:k=L.length:=by have h9:=hF;rw [hvn9] at h9;exact h9.all hg
    have e17:((Pg.ps l (L.take k)):List Pg.P2)=(Pg.tdO l):=by rw [hv1,←hfin,List.take_of_length_le om]
    rw [e17]
    have hkl:(Pg.tdO l).length=k:=by rw [hv1,←hfin,Pg.ps_len,hka]
    exact zra Tryz.results38 (p7,c7) trivial (zl rfl) (zl rfl) (by rw [hkl,hz]) (ho:=((.c (i:=0) rfl .n):PickO _ _ _)) (.n:SelR _ _ _)
  ·
   obtain ⟨q,hq1,hq2,hq3,hq4⟩:∃q,q<L.length∧r1=((Pg.nt L q:Nat):Int)∧(fun w=>Pg.corn l (Pg.sg l) L w=0) q∧∀j,j<q→¬(fun w=>Pg.corn l (Pg.sg l) L w=0) j:=by rcases hR1 with h|h;exact h;first|omega|exact absurd trivial (h.2 0 om)
   have e18:(r1:Int)=(((Pg.nt L q):Nat):Int):=by exact hq2
   rw [e18]
   obtain ⟨haq1,haq2,haq3,haq4,haq5⟩:=hg.at hq1 rfl
   have hLBq:=hg.lb
   have hLNq:=hg.ln
   have hL6q:=hg.n64
   refine zA<|zd<|zg<|za<|e_ru (zx (j:=0) 0 ty93 rfl rfl rfl rfl)<|e_mv rfl<|zrb (A:=[boxA b2 98 (rgC p n cap B N ((L.length:Nat):Int) (Pg.sg l))]) (F:=[rowA 4 rB (some ⟨b6,0,none⟩) n G]) (first:=[]) (cap:=[]) rfl rfl rfl (.c rfl (.c rfl .n)) ce78 (zCf (b:=b2) (p:=p) (n:=n) (cap:=cap) (l:=l) (B:=B) (N:=N) (kk:=((L.length:Nat):Int)) (s:=(Pg.sg l)) (L:=L) (v:=(Pg.nt L q)) (i:=q) (hn:=ass) (hg:=by first|rfl|assumption|omega|exact hok.n64|exact hok.rng|exact hG.1|exact Pg.sg_rng l) (hrng:=by first|rfl|assumption|omega|exact hok.n64|exact hok.rng|exact hG.1|exact Pg.sg_rng l) (hs:=by first|rfl|assumption|omega|exact hok.n64|exact hok.rng|exact hG.1|exact Pg.sg_rng l) (hi:=by first|rfl|assumption|omega|exact hok.n64|exact hok.rng|exact hG.1|exact Pg.sg_rng l) (hv:=by first|rfl|assumption|omega|exact hok.n64|exact hok.rng|exact hG.1|exact Pg.sg_rng l) (h2:=by first|rfl|assumption|omega|exact hok.n64|exact hok.rng|exact hG.1|exact Pg.sg_rng l) (hk0:=by first|rfl|assumption|omega|exact hok.n64|exact hok.rng|exact hG.1|exact Pg.sg_rng l)) (.c (j:=1) rfl .n) ?_
   rintro ⟨⟩ -
   dsimp only [aq,nq,cq]
   refine zh<|zd ?_
   have hlen:(L.eraseIdx q).length=L.length - 1:=by rw [List.length_eraseIdx,if_pos hq1]
   have e19:((L.length:Nat):Int) - 1=(((L.eraseIdx q).length:Nat):Int):=by omega
   rw [e19]
   refine za<|e_mv rfl<|e_mv rfl<|e_p (zia (j:=(Pg.nt L q)) yf sz4 rfl rfl rfl om)<|zIa 1 rfl rfl rfl (zea (j:=(Pg.nt L q)) (x0:=true) (γ0:=()) rfl rfl (by first|omega|(rw [List.length_map];omega)|(simp only [List.length_set];omega)|(simp;done)|(simp;omega)) rfl rfl sz4 (fun _ _=>by trivial)) (fun _=>(.s .z)) (fun _ _=> ?_)
   refine zh<|zO<|zda ((L.eraseIdx q),(Pg.cutB B N (Pg.nt L q)),(Pg.cutN B N (Pg.nt L q)),(G.set (Pg.nt L q) true)) (show Pg.Rg n (L.eraseIdx q) (Pg.cutB B N (Pg.nt L q)) (Pg.cutN B N (Pg.nt L q))∧(L.eraseIdx q).length≤64∧Pg.Gn n (L.eraseIdx q) (G.set (Pg.nt L q) true)∧Pg.TdI l (L.eraseIdx q) from by exact ⟨hg.cut hq1 rfl om,by omega,hG.set hg hq1 rfl,hT.step hdb (Pg.sg_rng l) hq1 hq3 hq4⟩) (by show (L.eraseIdx q).length<L.length;omega) ((.of rfl):SubM _ _) (ho:=((.c (i:=1) rfl (.e (i:=0) rfl (by first|rfl|(congr 1;omega)|simp_all) .n)):PickO _ _ _)) ((.of [0,1] rfl):SelR _ _ _)
end Go.Proofs.YtjcpbhlijoigfaaGreat.Sp
namespace Go.Proofs.YtjcpbhlijoigfaaGreat.Sp
open Go
set_option linter.unusedVariables false
set_option maxRecDepth 100000
set_option maxHeartbeats 1000000
theorem zeg {m:Nat} {p:Option Addr} {n:Nat} {cap:Nat} {l:List Pg.P2} (hn:l.length=n) (h64:n≤64) (hrng:∀x∈l,Pg.inR x) (hm:n<m+1) (ih:∀(p:Option Addr) (n:Nat) (cap:Nat) (l:List Pg.P2) (hn:l.length=n) (h64:n≤64) (hrng:∀x∈l,Pg.inR x) (hm:n<m),Con ye 42 [.slice p n cap] [] [slF (rI2 .i64) p cap l] (Y:=(Option Addr)×Nat) (fun y=>True) (fun y=> .slice (y.1) ((Pg.tdV l).length) (y.2)) (fun y=>[]) (fun y=>[slF (rI2 .i64) (y.1) (y.2) (Pg.tdV l)])):Con ye 42 [.slice p n cap] [] [slF (rI2 .i64) p cap l] (Y:=(Option Addr)×Nat) (fun y=>True) (fun y=> .slice (y.1) ((Pg.tdV l).length) (y.2)) (fun y=>[]) (fun y=>[slF (rI2 .i64) (y.1) (y.2) (Pg.tdV l)]):=by
 refine zm Tryz.func42 rfl rfl rfl (fun c=> ?_)
 show RunC _ _ _ _ _ [(0,.slice p n cap)] [] [slF (rI2 .i64) p cap l]
 refine zba 0 rfl (fun hL0=> ?_)
 refine zg<|za<|e_p (zb rfl)<|zh<|zd<|zg<|zg<|za<|e_p (zb rfl)<|zh<|zd<|zB<|zka (X:=Nat) (fun x:Nat=>x≤n∧∀j,j<x→¬Pg.st l j) (fun x=>[(3,.int .i64 ((x:Nat):Int)),(0,.slice p n cap)]) (fun x=>[]) (fun x=>[slF (rI2 .i64) p cap l]) (fun x:Nat=>n - x) 0 (show 0≤n∧∀j,j<0→¬Pg.st l j from by exact ⟨Nat.zero_le _,fun j h=>by omega⟩) ((.e rfl (by first|rfl|(congr 1;omega)|simp_all) (.c rfl .n)):SubM _ _) (ho:=(.n:PickO _ _ _)) ((.c (j:=0) rfl .n):SelR _ _ _) ?_
 rintro k hI
 replace hI:k≤n∧∀j,j<k→¬Pg.st l j:=hI
 try dsimp only
 obtain ⟨hk,hall⟩:=hI
 refine zg<|zg<|za<|e_mv rfl<|e_mv rfl<|e_p (zN ya rfl)<|e_p (zY rfl rfl)<|zh<|zd<|zC rfl (fun h1=> ?_) (fun h1=> ?_)
 ·
  have hm1:(k+1)%n<n:=Nat.mod_lt _ om
  have hm2:(k+n - 1)%n<n:=Nat.mod_lt _ om
  have hg0:Pg.inR (l.getD k (0,0)):=Pg.Ok.gt hrng om
  have hg1:Pg.inR (l.getD ((k+1)%n) (0,0)):=Pg.Ok.gt hrng om
  have hg2:Pg.inR (l.getD ((k+n - 1)%n) (0,0)):=Pg.Ok.gt hrng om
  have hcb: -35184372088832≤(Pg.crs ((l.getD ((k+n - 1)%n) (0,0)).1,(l.getD ((k+n - 1)%n) (0,0)).2) ((l.getD k (0,0)).1,(l.getD k (0,0)).2) ((l.getD ((k+1)%n) (0,0)).1,(l.getD ((k+1)%n) (0,0)).2))∧(Pg.crs ((l.getD ((k+n - 1)%n) (0,0)).1,(l.getD ((k+n - 1)%n) (0,0)).2) ((l.getD k (0,0)).1,(l.getD k (0,0)).2) ((l.getD ((k+1)%n) (0,0)).1,(l.getD ((k+1)%n) (0,0)).2))≤35184372088832:=(Pg.cb hg2 hg0 hg1).c
  have hsti:Pg.st l k↔(Pg.crs ((l.getD ((k+n - 1)%n) (0,0)).1,(l.getD ((k+n - 1)%n) (0,0)).2) ((l.getD k (0,0)).1,(l.getD k (0,0)).2) ((l.getD ((k+1)%n) (0,0)).1,(l.getD ((k+1)%n) (0,0)).2))=0:=Pg.st_n hn k
  refine zA<|zd<|zg<|zB<|zg<|zW (OW:=[]) (O:=[]) 100000 mixed (.then (.block (.then (.then (.block (.then .ret)))))) kr<|e_dm 0 rfl rfl rfl<|e_dm 1 rfl rfl rfl<|e_dm 2 rfl rfl rfl<|e_pv 3 rfl rfl (zN ya rfl)<|e_pv 4 rfl rfl (zI (z:=(((k+n):Nat):Int)) rfl rfl (w64 om))<|e_pv 5 rfl rfl (zla (z:=((((k+n):Nat):Int) - 1)) rfl rfl (w64 om)) ?_
  have e2:(((((k+n):Nat):Int) - 1):Int)=(((k+n - 1):Nat):Int):=by omega
  rw [e2]
  refine e_dm 6 rfl rfl rfl<|e_pv 7 rfl rfl (zN ya rfl)<|e_pv 8 rfl rfl (zwa (z:=((((k+n - 1)%n):Nat):Int)) rfl rfl om (remN om om))<|zZ (x0:=(l.getD ((k+n - 1)%n) (0,0))) 9 rfl rfl kr kr 0 ((k+n - 1)%n) rfl ya sz30 rfl rfl rfl cbo rfl rfl (gD (d:=(0,0)) om) (fun b3 o4 hok5=> ?_)
  obtain ⟨hok5x,hok5y⟩:=hok5
  replace hok5x:=zD.1 hok5x
  replace hok5y:=zD.1 hok5y
  refine e_u 10 rfl rfl (zq (j:=0) 0 ty30 rfl rfl rfl (.t2 .nil))<|e_dm 11 rfl rfl rfl<|e_dm 12 rfl rfl rfl<|zZ (x0:=(l.getD k (0,0))) 13 rfl rfl kr kr 1 k rfl ya sz30 rfl rfl rfl cbo rfl rfl (gD (d:=(0,0)) om) (fun b6 o7 hok8=> ?_)
  obtain ⟨hok8x,hok8y⟩:=hok8
  replace hok8x:=zD.1 hok8x
  replace hok8y:=zD.1 hok8y
  refine e_u 14 rfl rfl (zq (j:=0) 0 ty30 rfl rfl rfl (.t2 .nil))<|e_dm 15 rfl rfl rfl<|e_dm 16 rfl rfl rfl<|e_pv 17 rfl rfl (zI (z:=(((k+1):Nat):Int)) rfl rfl (w64 om))<|e_dm 18 rfl rfl rfl<|e_pv 19 rfl rfl (zN ya rfl)<|e_pv 20 rfl rfl (zwa (z:=((((k+1)%n):Nat):Int)) rfl rfl om (remN om om))<|zZ (x0:=(l.getD ((k+1)%n) (0,0))) 21 rfl rfl kr kr 2 ((k+1)%n) rfl ya sz30 rfl rfl rfl cbo rfl rfl (gD (d:=(0,0)) om) (fun b9 o10 hok11=> ?_)
  obtain ⟨hok11x,hok11y⟩:=hok11
  replace hok11x:=zD.1 hok11x
  replace hok11y:=zD.1 hok11y
  refine e_u 22 rfl rfl (zq (j:=0) 0 ty30 rfl rfl rfl (.t2 .nil))<|e_one 23 (zpa rfl rfl rfl rfl (.c rfl (.c rfl (.c rfl .n))) ce55 (zsb (ex:=(l.getD ((k+n - 1)%n) (0,0)).1) (ey:=(l.getD ((k+n - 1)%n) (0,0)).2) (fx:=(l.getD k (0,0)).1) (fy:=(l.getD k (0,0)).2) (gx:=(l.getD ((k+1)%n) (0,0)).1) (gy:=(l.getD ((k+1)%n) (0,0)).2) (hre:=by first|rfl|assumption|omega|exact Pg.er_in hrng|(rw [List.length_eraseIdx,if_pos om];omega)) (hrf:=by first|rfl|assumption|omega|exact Pg.er_in hrng|(rw [List.length_eraseIdx,if_pos om];omega)) (hrg:=by first|rfl|assumption|omega|exact Pg.er_in hrng|(rw [List.length_eraseIdx,if_pos om];omega))) (.n) ?_)
  refine e_pv 24 rfl rfl (zua rfl rfl)<|zT kr<|zd<|zC rfl (fun hst=> ?_) (fun hst=> ?_)
  ·
   refine zg<|za<|zFa rfl rfl (zva (rI2 .i64) ya inf30) (fun b12 _=> ?_)
   refine e_p (zb rfl)<|zh<|zd<|zg<|zg<|za<|e_p (zb rfl)<|zh<|zd<|zB<|zka (X:=Nat×(Option Addr)×Nat) (fun x:Nat×(Option Addr)×Nat=>x.1≤n) (fun x=>[(4,.slice (x.2.1) ((Pg.er' l k x.1).length) (x.2.2)),(5,.int .i64 ((x.1:Nat):Int)),(3,.int .i64 ((k:Nat):Int)),(0,.slice p n cap)]) (fun x=>[rowA 30 (rI2 .i64) (x.2.1) (x.2.2) (Pg.er' l k x.1)]) (fun x=>[atF b9 o10 [.int .i64 ((l.getD ((k+1)%n) (0,0)).1),.int .i64 ((l.getD ((k+1)%n) (0,0)).2)],atF b6 o7 [.int .i64 ((l.getD k (0,0)).1),.int .i64 ((l.getD k (0,0)).2)],atF b3 o4 [.int .i64 ((l.getD ((k+n - 1)%n) (0,0)).1),.int .i64 ((l.getD ((k+n - 1)%n) (0,0)).2)],slF (rI2 .i64) p cap l]) (fun x:Nat×(Option Addr)×Nat=>n - x.1) (0,some ⟨b12,0,none⟩,0) (show 0≤n from by exact Nat.zero_le _) ((.e rfl (by first|rfl|(congr 1;omega)|simp_all) (.e rfl (by first|rfl|(congr 1;omega)|simp_all) (.c rfl (.c rfl .n)))):SubM _ _) (ho:=((.e (i:=0) rfl (by first|rfl|(congr 1;omega)|simp_all) .n):PickO _ _ _)) ((.of [0,1,2,3] rfl):SelR _ _ _) ?_
   rintro ⟨j,p7,c7⟩ hJ
   replace hJ:j≤n:=hJ
   try dsimp only
   refine zg<|zg<|za<|e_mv rfl<|e_mv rfl<|e_p (zN ya rfl)<|e_p (zY rfl rfl)<|zh<|zd<|zC rfl (fun h13=> ?_) (fun h13=> ?_)
   ·
    have herl:(Pg.er' l k j).length≤j:=Pg.er_len om om
    refine zA<|zd<|zg<|zB<|zg<|za<|e_mv rfl<|e_mv rfl<|e_p (zMa rfl rfl)<|zh<|zd<|zC rfl (fun hne=> ?_) (fun hne=> ?_)
    ·
     refine za<|e_mv rfl<|e_mv rfl<|e_mv rfl<|zP (x0:=(l.getD j (0,0))) 3 j rfl ya sz30 rfl rfl rfl cbo rfl rfl (gD (d:=(0,0)) om) (fun b14 o15 hok16=> ?_)
     obtain ⟨hok16x,hok16y⟩:=hok16
     replace hok16x:=zD.1 hok16x
     replace hok16y:=zD.1 hok16y
     refine e_ru (zq (j:=0) 0 ty30 rfl rfl rfl (.t2 .nil))<|zFa rfl rfl (zV (enc:=fun z:Int×Int=>[.int .i64 z.1,.int .i64 z.2]) (ok:=fun z=>InK .i64 z.1∧InK .i64 z.2) (h1:=fun _=>rfl) (h2:=fun _=>rfl) (k:=1) ya inf30 rfl dd dd dd (.c (x:=((l.getD j (0,0)).1,(l.getD j (0,0)).2)) rfl rfl (fun _ _=>by exact ⟨zD.2 (by first|omega|decide|(dsimp only;omega)),zD.2 (by first|omega|decide|(dsimp only;omega))⟩) .n)) (fun b17 _=> ?_)
     refine zma 0 rfl .z<|zIa 1 rfl rfl rfl (zsa 0 rfl ya inf30 dd rfl rfl cbo rfl cbo om om) (fun _=>(.s .z)) ?_
     rintro ⟨p18,c19⟩ -
     dsimp only [aq,nq,cq]
     refine e_p (zb rfl)<|zh<|zO<|zd<|za<|e_mv rfl<|e_p (zI (z:=(((j+1):Nat):Int)) rfl rfl (w64 om))<|e_p (zb rfl)<|zh<|zda ((j+1),p18,c19) (show (j+1)≤n from by show j+1≤n;omega) (by show n - (j+1)<n - j;omega) ((.e rfl (by first|rfl|(rw [Pg.er_ne om om,List.length_append];rfl)) (.of rfl)):SubM _ _) (ho:=((.e (i:=1) rfl (by first|rfl|(rw [Pg.er_ne om om])) .n):PickO _ _ _)) ((.of [2,3,4,5] rfl):SelR _ _ _)
    ·
     refine zA<|zO<|zd<|za<|e_mv rfl<|e_p (zI (z:=(((j+1):Nat):Int)) rfl rfl (w64 om))<|e_p (zb rfl)<|zh<|zda ((j+1),p7,c7) (show (j+1)≤n from by show j+1≤n;omega) (by show n - (j+1)<n - j;omega) ((.e rfl (by first|rfl|(rw [show j=k by omega,Pg.er_eq om])) (.of rfl)):SubM _ _) (ho:=((.e (i:=0) rfl (by first|rfl|(rw [show j=k by omega,Pg.er_eq om])) .n):PickO _ _ _)) ((.of [0,1,2,3] rfl):SelR _ _ _)
   ·
    refine zja<|zj<|zj<|zt<|zd<|zg ?_
    have here:Pg.er' l k j=l.eraseIdx k:=Pg.er_all (show l.length≤j by omega)
    have hel:(l.eraseIdx k).length=n - 1:=by rw [List.length_eraseIdx,if_pos (show k<l.length by omega),hn]
    have hel2:(l.eraseIdx k).length=(Pg.er' l k j).length:=by rw [here]
    have e20:(Pg.er' l k j)=(l.eraseIdx k):=by exact here
    rw [e20]
    refine zye 0 rfl .z ?_
    have hri:=Pg.er_in (k:=k) hrng
    have hel3:(Pg.er' l k j).length≤64∧(Pg.er' l k j).length<m:=by omega
    refine za<|e_mv rfl<|zE rfl rfl (.c rfl .n) ce42 (ih (p:=p7) (n:=(l.eraseIdx k).length) (cap:=c7) (l:=(l.eraseIdx k)) (hn:=by exact rfl) (h64:=by rw [hel2];exact hel3.1) (hrng:=by exact hri) (hm:=by rw [hel2];exact hel3.2)) (.c (j:=0) rfl .n) ?_
    rintro ⟨p921,c922⟩ -
    dsimp only [aq,nq,cq]
    refine e_p (zb rfl)<|zh<|zd<|zH<|zp<|zi<|zi<|zp<|zi ?_
    exact zy Tryz.results42 (p921,c922) trivial (zl rfl) (by rw [Pg.td_some (l:=l) (k:=k) om (hsti.2 hst) (fun j hj=>hall j om)]) (ho:=(.n:PickO _ _ _)) ((.e (j:=0) rfl (by rw [Pg.td_some (l:=l) (k:=k) om (hsti.2 hst) (fun j hj=>hall j om)]) .n):SelR _ _ _)
  ·
   refine zA<|zO<|zd<|za<|e_mv rfl<|e_p (zI (z:=(((k+1):Nat):Int)) rfl rfl (w64 om))<|e_p (zb rfl)<|zh<|zda (k+1) (show (k+1)≤n∧∀j,j<(k+1)→¬Pg.st l j from by exact ⟨by omega,Ms.all_lt_succ hall (fun h=>hst (hsti.1 h))⟩) (by show n - (k+1)<n - k;omega) ((.c rfl (.c rfl .n)):SubM _ _) (ho:=(.n:PickO _ _ _)) ((.c (j:=3) rfl .n):SelR _ _ _)
 ·
  refine zja<|zj<|zj<|zt<|zd<|zg<|za<|e_mv rfl<|e_p (zb rfl)<|zh<|zd<|zH ?_
  have htn:=Pg.td_none (l:=l) (fun j hj=>hall j om)
  exact zy Tryz.results42 (p,cap) trivial (zl rfl) (by rw [htn,hn]) (ho:=(.n:PickO _ _ _)) ((.e (j:=0) rfl (by rw [htn]) .n):SelR _ _ _)
theorem zFf {m:Nat} {p:Option Addr} {n:Nat} {cap:Nat} {l:List Pg.P2} (hn:l.length=n) (h64:n≤64) (hrng:∀x∈l,Pg.inR x) (hm:n<m):Con ye 42 [.slice (p) (n) (cap)] [] [slF (rI2 .i64) (p) (cap) (l)] (Y:=(Option Addr)×(Nat)) (fun y=>True) (fun y=> .slice (y.1) ((Pg.tdV l).length) (y.2)) (fun y=>[]) (fun y=>[slF (rI2 .i64) (y.1) (y.2) ((Pg.tdV l))]):=by
  induction m generalizing p n cap l with
  |zero=>exact absurd hm (Nat.not_lt_zero _)
  |succ m ih=>exact zeg hn h64 hrng hm (fun p n cap l hn h64 hrng hm=>ih hn h64 hrng hm)
end Go.Proofs.YtjcpbhlijoigfaaGreat.Sp
namespace Go.Proofs.YtjcpbhlijoigfaaGreat.Sp
open Go
set_option linter.unusedVariables false
def rR:Rp (Rat×Rat):=⟨8,Wd×Wd×Wd×Wd,fun _ w=>[w.1.b,w.1.l,w.2.1.b,w.2.1.l,w.2.2.1.b,w.2.2.1.l,w.2.2.2.b,w.2.2.2.l],fun g q w=>(qF true w.1 w.2.1 q.1).on g∧(qF true w.2.2.1 w.2.2.2 q.2).on g,fun _ _ _ _ h k=>⟨(qF true _ _ _).mono _ _ h k.1,(qF true _ _ _).mono _ _ h k.2⟩,fun _ _=>rfl,fun _ _=>rfl⟩
theorem open_rR {A:Fa} {q:Rat×Rat} {w1 w2 w3 w4:Wd} {R:List Fa}:∀g,Holds g (A :: okF rR q (w1,w2,w3,w4) :: R)→Holds g (A :: qF true w1 w2 q.1 :: qF true w3 w4 q.2 :: R):=fun g ⟨h,a,r⟩=>⟨h,a.1,a.2,r⟩
section
variable {P : Program} {c : Cx} {O : List As} {R : List Fa} {α : Type} {T e : TypeId} {r : Rp α} {l : List α} {b : Nat}
end
end Go.Proofs.YtjcpbhlijoigfaaGreat.Sp
