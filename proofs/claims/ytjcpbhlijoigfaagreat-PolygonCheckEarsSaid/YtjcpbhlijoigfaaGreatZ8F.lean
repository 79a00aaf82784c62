/- Lemmas on the walk and plain lemmas that the claim of this folder uses; each states its own conditions. Lines were printed by a program of ours. -/
import Derived.Test.YtjcpbhlijoigfaaGreatZ8E
set_option linter.unusedVariables false
set_option linter.unusedSimpArgs false
set_option linter.unusedSectionVars false
open Go.Proofs.Tryz renaming underlying50 → ya, underlying103 → yb, underlying102 → yc, results31 → yd, underlying22 → ye, underlying54 → yf
namespace Go.Proofs.YtjcpbhlijoigfaaGreat.Sp
open Go
set_option linter.unusedVariables false
set_option maxRecDepth 100000
set_option maxHeartbeats 8000000
theorem zsc {p:Option Addr} {n:Nat} {cap:Nat} {l:List Pg.P2} {pt:Option Addr} {nt:Nat} {ct:Nat} {T:List Pg.T3} (hn:l.length=n) (hnt:T.length=nt) (hb:nt≤1000):Con Tryz.prog 31 [.slice p n cap,.slice pt nt ct] [] [slF (rI2 .i64) p cap l,slF (rI3 .i64) pt ct T] (Y:=Unit) (fun y=>True) (fun y=> .int .i64 (Pg.ceC n l T)) (fun y=>[]) (fun y=>[]):=by
 refine zp Tryz.func31 rfl rfl rfl (fun c=> ?_)
 show RunC _ _ _ _ _ [(0,.slice p n cap),(1,.slice pt nt ct)] [] [slF (rI2 .i64) p cap l,slF (rI3 .i64) pt ct T]
 refine zfa 0 rfl (fun hL0=> ?_)
 refine zfa 1 rfl (fun hL1=> ?_)
 refine ze<|za<|e_p (zb rfl)<|zh<|zd<|ze<|ze<|za<|e_mv rfl<|zO rfl rfl (.c rfl .n) ce15 (zmc (p:=p) (n:=n) (cap:=cap) (l:=l) (hn:=ass)) (.c (j:=0) rfl .n)<|e_p (zb rfl)<|zh<|zd<|ze<|za<|e_mv rfl<|e_p (zLa rfl rfl)<|zh<|zd<|zB rfl (fun hbad=> ?_) (fun hbad=> ?_)
 ·
  refine ze<|za<|e_mv rfl<|e_p (zb rfl)<|zh<|zd<|zJ<|zi ?_
  exact zx yd () trivial (zn rfl) (by rw [Pg.ce_bad hbad]) (ho:=(.n:PickO _ _ _)) (.n:SelR _ _ _)
 ·
  have hz:=Decidable.not_not.1 hbad
  have hok:=Pg.ok hz
  have hrng:=hok.rng
  have h64:n≤64:=by have:=hok.n64;omega
  have h3:3≤n:=by have:=hok.n3;omega
  have hsr:=Pg.sg_rng l
  refine zt<|zd<|ze<|za<|e_mv rfl<|e_p (zQ ye rfl)<|e_p (zb rfl)<|zh<|zd<|ze<|ze<|za<|e_mv rfl<|e_p (zQ yf rfl)<|e_mv rfl<|e_p (zja (z:=(((n:Nat):Int) - 2)) rfl rfl (w64 om))<|e_p (zLa rfl rfl)<|zh<|zd<|zB rfl (fun hlen=> ?_) (fun hlen=> ?_)
  ·
   refine ze<|za<|e_p (zb rfl)<|zh<|zd<|zJ<|zi ?_
   exact zx yd () trivial (zn rfl) (by rw [Pg.ce_no hz (fun h=>absurd ((Pg.acP_n hnt).1 h).1 om)]) (ho:=(.n:PickO _ _ _)) (.n:SelR _ _ _)
  ·
   refine zt<|zd<|ze<|za<|e_mv rfl<|zL rfl rfl (.c rfl .n) ce75 (zRc (p:=p) (n:=n) (cap:=cap) (l:=l) (hn:=ass) (h64:=cbo) (hrng:=cbo)) (.c (j:=0) rfl .n) ?_
   rintro ⟨b1,B2,N3⟩ hR0
   dsimp only [aq,nq,cq]
   replace hR0:Pg.Rg n (List.range n) B2 N3:=hR0
   have hLB:=hR0.lb
   have hLN:=hR0.ln
   refine e_p (zU rfl)<|e_p (zg Tryz.underlying98 rfl sz3 rfl rfl)<|e_ru (zf 0 ty3 rfl rfl (rg_s rgl rgl))<|e_p (zb rfl)<|zh<|zd<|ze<|za<|zNa rfl rfl (zFe (κ:=Int×Int) (ν:=Bool) (fun z:Int×Int=> .agg #[.int .i64 z.1,.int .i64 z.2]) (fun z:Bool=> .bool z) (fun z=>InK .i64 z.1∧InK .i64 z.2)) (fun b4 _=> ?_)
   refine e_p (zb rfl)<|zh<|zd<|ze<|ze<|za<|e_mv rfl<|e_p (zQ yf rfl)<|e_mv rfl<|zh<|zd<|zv<|zma (X:=Nat×(List (Pg.E2×Bool))) (fun x:Nat×(List (Pg.E2×Bool))=>x.1≤nt∧(∀j,j<x.1→Pg.okP n l (T.getD j (0,0,0)))∧Pg.Sn x.2 (Pg.eds (T.take x.1))∧(Pg.eds (T.take x.1)).Nodup) (fun x=>[(37,.int .i64 ((x.1:Nat):Int)),(36,.int .i64 ((nt:Nat):Int)),(35,.slice pt nt ct),(8,.map (some b4)),(7,.int .i64 (Pg.sg l)),(6,.int .i64 ((n:Nat):Int)),(0,.slice p n cap)]) (fun x=>[mapA b4 (fun z:Int×Int=> .agg #[.int .i64 z.1,.int .i64 z.2]) (fun z:Bool=> .bool z) (fun z=>InK .i64 z.1∧InK .i64 z.2) (x.2),boxA b1 98 (rgC p n cap B2 N3 ((n:Nat):Int) (Pg.sg l))]) (fun x=>[slF (rI2 .i64) p cap l,slF (rI3 .i64) pt ct T]) (fun x:Nat×(List (Pg.E2×Bool))=>nt - x.1) (0,[]) (show 0≤nt∧(∀j,j<0→Pg.okP n l (T.getD j (0,0,0)))∧Pg.Sn ([]) (Pg.eds (T.take 0))∧(Pg.eds (T.take 0)).Nodup from by exact ⟨Nat.zero_le _,fun j h=>by omega,Pg.Sn.nil,List.nodup_nil⟩) ((.e rfl (by first|rfl|(congr 1;omega)|simp_all) (.of rfl)):SubM _ _) (ho:=((.of [0,0] rfl):PickO _ _ _)) ((.of [0,1] rfl):SelR _ _ _) ?_
   rintro ⟨i,sm⟩ hI
   replace hI:i≤nt∧(∀j,j<i→Pg.okP n l (T.getD j (0,0,0)))∧Pg.Sn sm (Pg.eds (T.take i))∧(Pg.eds (T.take i)).Nodup:=hI
   try dsimp only
   obtain ⟨hi,hall,hsm,hnd⟩:=hI
   refine ze<|za<|e_p (zR rfl rfl)<|zh<|zd<|ze<|zB rfl (fun h5=> ?_) (fun h5=> ?_)
   ·
    refine zt<|zd<|ze<|zv<|ze<|za<|zI (x0:=(T.getD i (0,0,0))) 1 i rfl yf sz50 rfl rfl rfl cbs rfl rfl (gD (d:=(0,0,0)) om) (fun b6 o7 hok8=> ?_)
    obtain ⟨hok8x,hok8y,hok8z⟩:=hok8
    replace hok8x:=zm.1 hok8x
    replace hok8y:=zm.1 hok8y
    replace hok8z:=zm.1 hok8z
    refine e_ru (zG (j:=0) 0 ty50 rfl rfl rfl (.t2 (.take .nil)))<|zP rfl rfl (zu zr50 rfl) (fun b9=> ?_)
    refine zq 0 rfl rfl rfl rfl rfl sz50 rfl (.t2 (.take .nil)) .z<|zh<|zd<|ze<|ze<|za<|e_ru (zc 0 ty50 rfl rfl (.t2 (.take .nil)))<|e_mv rfl<|zh<|zd<|zv<|zvc<|zpa<|ze<|za<|e_p (zR rfl rfl)<|zh<|zd<|ze<|zva rfl rfl<|zt<|zd<|ze<|zv<|ze<|za<|e_p (zKb (i:=0) ya ty3 rfl rfl dd rfl)<|e_p (zb rfl)<|zh<|zd<|zAa (X:=Unit) (fun x=>True) (fun x=>[(51,.bool (decide (((T.getD i (0,0,0)).1<0)∨(((n:Nat):Int)≤(T.getD i (0,0,0)).1)))),(12,.int .i64 ((T.getD i (0,0,0)).1)),(44,.int .i64 ((T.getD i (0,0,0)).1)),(43,.bool true),(42,.int .i64 0),(41,.agg #[.int .i64 ((T.getD i (0,0,0)).1),.int .i64 ((T.getD i (0,0,0)).2.1),.int .i64 ((T.getD i (0,0,0)).2.2)]),(10,.pointer (some ⟨b9,0,none⟩)),(37,.int .i64 ((i:Nat):Int)),(36,.int .i64 ((nt:Nat):Int)),(35,.slice pt nt ct),(8,.map (some b4)),(7,.int .i64 (Pg.sg l)),(6,.int .i64 ((n:Nat):Int)),(0,.slice p n cap)]) (fun x=>[boxA b9 50 [.int .i64 ((T.getD i (0,0,0)).1),.int .i64 ((T.getD i (0,0,0)).2.1),.int .i64 ((T.getD i (0,0,0)).2.2)],mapA b4 (fun z:Int×Int=> .agg #[.int .i64 z.1,.int .i64 z.2]) (fun z:Bool=> .bool z) (fun z=>InK .i64 z.1∧InK .i64 z.2) sm,boxA b1 98 (rgC p n cap B2 N3 ((n:Nat):Int) (Pg.sg l))]) (fun x=>[atF b6 o7 [.int .i64 ((T.getD i (0,0,0)).1),.int .i64 ((T.getD i (0,0,0)).2.1),.int .i64 ((T.getD i (0,0,0)).2.2)],slF (rI2 .i64) p cap l,slF (rI3 .i64) pt ct T]) ?_ ?_
    ·
     refine za<|e_mv rfl<|e_p (zR rfl rfl)<|zS rfl rfl (zT rfl) (fun h10=> ?_) (fun h10=> ?_)
     ·
      refine e_no<|e_no<|e_no<|e_p (zo rfl rfl)<|zh ?_
      exact zY () (show True from by first|trivial|omega|simp_all) ((.e rfl (congrArg Value.bool cbu) (.of rfl)):SubM _ _) (ho:=((.of [0,0,0] rfl):PickO _ _ _)) ((.of [0,1,2] rfl):SelR _ _ _)
     ·
      refine e_mv rfl<|e_mv rfl<|e_p (zIa rfl rfl)<|e_p (zo rfl rfl)<|zh ?_
      exact zY () (show True from by first|trivial|omega|simp_all) ((.e rfl (congrArg Value.bool cbu) (.of rfl)):SubM _ _) (ho:=((.of [0,0,0] rfl):PickO _ _ _)) ((.of [0,1,2] rfl):SelR _ _ _)
    ·
     rintro ⟨⟩ -
     try dsimp only
     refine zB rfl (fun hr=> ?_) (fun hr=> ?_)
     ·
      have hr0:=hr
      refine ze<|za<|e_p (zb rfl)<|zh<|zd<|zJ<|zk<|zi<|zi<|zk<|zi<|zk<|zi<|zi<|zk<|zi ?_
      exact zx yd () trivial (zn rfl) (by rw [Pg.ce_no hz (fun h=>by have h9:=(((Pg.acP_n hnt).1 h).2.1 i om).1;unfold Pg.inT at h9;omega)]) (ho:=(.n:PickO _ _ _)) (.n:SelR _ _ _)
     ·
      have hr0:=hr
      refine zt<|zK<|zd<|za<|e_p (zw (z:=1) rfl rfl (w64 dd))<|e_mv rfl<|zh<|zxa<|zpa<|ze<|za<|e_p (zR rfl rfl)<|zh<|zd<|ze<|zva rfl rfl<|zt<|zd<|ze<|zv<|ze<|za<|e_p (zKb (i:=1) ya ty3 rfl rfl dd rfl)<|e_p (zb rfl)<|zh<|zd<|zAa (X:=Unit) (fun x=>True) (fun x=>[(51,.bool (decide (((T.getD i (0,0,0)).2.1<0)∨(((n:Nat):Int)≤(T.getD i (0,0,0)).2.1)))),(12,.int .i64 ((T.getD i (0,0,0)).2.1)),(44,.int .i64 ((T.getD i (0,0,0)).2.1)),(43,.bool true),(42,.int .i64 1),(52,.int .i64 1),(41,.agg #[.int .i64 ((T.getD i (0,0,0)).1),.int .i64 ((T.getD i (0,0,0)).2.1),.int .i64 ((T.getD i (0,0,0)).2.2)]),(10,.pointer (some ⟨b9,0,none⟩)),(37,.int .i64 ((i:Nat):Int)),(36,.int .i64 ((nt:Nat):Int)),(35,.slice pt nt ct),(8,.map (some b4)),(7,.int .i64 (Pg.sg l)),(6,.int .i64 ((n:Nat):Int)),(0,.slice p n cap)]) (fun x=>[boxA b9 50 [.int .i64 ((T.getD i (0,0,0)).1),.int .i64 ((T.getD i (0,0,0)).2.1),.int .i64 ((T.getD i (0,0,0)).2.2)],mapA b4 (fun z:Int×Int=> .agg #[.int .i64 z.1,.int .i64 z.2]) (fun z:Bool=> .bool z) (fun z=>InK .i64 z.1∧InK .i64 z.2) sm,boxA b1 98 (rgC p n cap B2 N3 ((n:Nat):Int) (Pg.sg l))]) (fun x=>[atF b6 o7 [.int .i64 ((T.getD i (0,0,0)).1),.int .i64 ((T.getD i (0,0,0)).2.1),.int .i64 ((T.getD i (0,0,0)).2.2)],slF (rI2 .i64) p cap l,slF (rI3 .i64) pt ct T]) ?_ ?_
      ·
       refine za<|e_mv rfl<|e_p (zR rfl rfl)<|zS rfl rfl (zT rfl) (fun h11=> ?_) (fun h11=> ?_)
       ·
        refine e_no<|e_no<|e_no<|e_p (zo rfl rfl)<|zh ?_
        exact zY () (show True from by first|trivial|omega|simp_all) ((.e rfl (congrArg Value.bool cbu) (.of rfl)):SubM _ _) (ho:=((.of [0,0,0] rfl):PickO _ _ _)) ((.of [0,1,2] rfl):SelR _ _ _)
       ·
        refine e_mv rfl<|e_mv rfl<|e_p (zIa rfl rfl)<|e_p (zo rfl rfl)<|zh ?_
        exact zY () (show True from by first|trivial|omega|simp_all) ((.e rfl (congrArg Value.bool cbu) (.of rfl)):SubM _ _) (ho:=((.of [0,0,0] rfl):PickO _ _ _)) ((.of [0,1,2] rfl):SelR _ _ _)
      ·
       rintro ⟨⟩ -
       try dsimp only
       refine zB rfl (fun hr=> ?_) (fun hr=> ?_)
       ·
        have hr1:=hr
        refine ze<|za<|e_p (zb rfl)<|zh<|zd<|zJ<|zk<|zi<|zi<|zk<|zi<|zk<|zi<|zi<|zk<|zi ?_
        exact zx yd () trivial (zn rfl) (by rw [Pg.ce_no hz (fun h=>by have h9:=(((Pg.acP_n hnt).1 h).2.1 i om).1;unfold Pg.inT at h9;omega)]) (ho:=(.n:PickO _ _ _)) (.n:SelR _ _ _)
       ·
        have hr1:=hr
        refine zt<|zK<|zd<|za<|e_p (zw (z:=2) rfl rfl (w64 dd))<|e_mv rfl<|zh<|zxa<|zpa<|ze<|za<|e_p (zR rfl rfl)<|zh<|zd<|ze<|zva rfl rfl<|zt<|zd<|ze<|zv<|ze<|za<|e_p (zKb (i:=2) ya ty3 rfl rfl dd rfl)<|e_p (zb rfl)<|zh<|zd<|zAa (X:=Unit) (fun x=>True) (fun x=>[(51,.bool (decide (((T.getD i (0,0,0)).2.2<0)∨(((n:Nat):Int)≤(T.getD i (0,0,0)).2.2)))),(12,.int .i64 ((T.getD i (0,0,0)).2.2)),(44,.int .i64 ((T.getD i (0,0,0)).2.2)),(43,.bool true),(42,.int .i64 2),(52,.int .i64 2),(41,.agg #[.int .i64 ((T.getD i (0,0,0)).1),.int .i64 ((T.getD i (0,0,0)).2.1),.int .i64 ((T.getD i (0,0,0)).2.2)]),(10,.pointer (some ⟨b9,0,none⟩)),(37,.int .i64 ((i:Nat):Int)),(36,.int .i64 ((nt:Nat):Int)),(35,.slice pt nt ct),(8,.map (some b4)),(7,.int .i64 (Pg.sg l)),(6,.int .i64 ((n:Nat):Int)),(0,.slice p n cap)]) (fun x=>[boxA b9 50 [.int .i64 ((T.getD i (0,0,0)).1),.int .i64 ((T.getD i (0,0,0)).2.1),.int .i64 ((T.getD i (0,0,0)).2.2)],mapA b4 (fun z:Int×Int=> .agg #[.int .i64 z.1,.int .i64 z.2]) (fun z:Bool=> .bool z) (fun z=>InK .i64 z.1∧InK .i64 z.2) sm,boxA b1 98 (rgC p n cap B2 N3 ((n:Nat):Int) (Pg.sg l))]) (fun x=>[atF b6 o7 [.int .i64 ((T.getD i (0,0,0)).1),.int .i64 ((T.getD i (0,0,0)).2.1),.int .i64 ((T.getD i (0,0,0)).2.2)],slF (rI2 .i64) p cap l,slF (rI3 .i64) pt ct T]) ?_ ?_
        ·
         refine za<|e_mv rfl<|e_p (zR rfl rfl)<|zS rfl rfl (zT rfl) (fun h12=> ?_) (fun h12=> ?_)
         ·
          refine e_no<|e_no<|e_no<|e_p (zo rfl rfl)<|zh ?_
          exact zY () (show True from by first|trivial|omega|simp_all) ((.e rfl (congrArg Value.bool cbu) (.of rfl)):SubM _ _) (ho:=((.of [0,0,0] rfl):PickO _ _ _)) ((.of [0,1,2] rfl):SelR _ _ _)
         ·
          refine e_mv rfl<|e_mv rfl<|e_p (zIa rfl rfl)<|e_p (zo rfl rfl)<|zh ?_
          exact zY () (show True from by first|trivial|omega|simp_all) ((.e rfl (congrArg Value.bool cbu) (.of rfl)):SubM _ _) (ho:=((.of [0,0,0] rfl):PickO _ _ _)) ((.of [0,1,2] rfl):SelR _ _ _)
        ·
         rintro ⟨⟩ -
         try dsimp only
         refine zB rfl (fun hr=> ?_) (fun hr=> ?_)
         ·
          have hr2:=hr
          refine ze<|za<|e_p (zb rfl)<|zh<|zd<|zJ<|zk<|zi<|zi<|zk<|zi<|zk<|zi<|zi<|zk<|zi ?_
          exact zx yd () trivial (zn rfl) (by rw [Pg.ce_no hz (fun h=>by have h9:=(((Pg.acP_n hnt).1 h).2.1 i om).1;unfold Pg.inT at h9;omega)]) (ho:=(.n:PickO _ _ _)) (.n:SelR _ _ _)
         ·
          have hr2:=hr
          refine zt<|zK<|zd<|za<|e_p (zw (z:=3) rfl rfl (w64 dd))<|e_mv rfl<|zh<|zxa<|zpa<|ze<|za<|e_p (zR rfl rfl)<|zh<|zd<|ze<|zBa rfl rfl<|zga<|zj<|zj<|zr<|zd<|ze<|ze ?_
          have hin:Pg.inT n (T.getD i (0,0,0)):=⟨by omega,by omega,by omega⟩
          obtain ⟨hin1,hin2,hin3⟩:=id hin
          have hq0:Pg.inR (l.getD (((T.getD i (0,0,0)).1).toNat) (0,0)):=Pg.Ok.gt hrng om
          have hq1:Pg.inR (l.getD (((T.getD i (0,0,0)).2.1).toNat) (0,0)):=Pg.Ok.gt hrng om
          have hq2:Pg.inR (l.getD (((T.getD i (0,0,0)).2.2).toNat) (0,0)):=Pg.Ok.gt hrng om
          have hsg:=Pg.s_mul (z:=Pg.crs ((l.getD (((T.getD i (0,0,0)).1).toNat) (0,0)).1,(l.getD (((T.getD i (0,0,0)).1).toNat) (0,0)).2) ((l.getD (((T.getD i (0,0,0)).2.1).toNat) (0,0)).1,(l.getD (((T.getD i (0,0,0)).2.1).toNat) (0,0)).2) ((l.getD (((T.getD i (0,0,0)).2.2).toNat) (0,0)).1,(l.getD (((T.getD i (0,0,0)).2.2).toNat) (0,0)).2)) hsr
          refine zZ (OW:=[]) (O:=[boxA b9 50 [.int .i64 ((T.getD i (0,0,0)).1),.int .i64 ((T.getD i (0,0,0)).2.1),.int .i64 ((T.getD i (0,0,0)).2.2)],mapA b4 (fun z:Int×Int=> .agg #[.int .i64 z.1,.int .i64 z.2]) (fun z:Bool=> .bool z) (fun z=>InK .i64 z.1∧InK .i64 z.2) sm,boxA b1 98 (rgC p n cap B2 N3 ((n:Nat):Int) (Pg.sg l))]) 100000 mixed (.then (.then (.block (.then (.then (.block (.then .ret))))))) kr<|e_dm 0 rfl rfl rfl<|e_dm 1 rfl rfl rfl<|e_pv 2 rfl rfl (zy (i:=0) ya sz3 rfl rfl dd rfl)<|e_u 3 rfl rfl (zf 0 ty3 rfl rfl rfl)<|zca (x0:=(l.getD (((T.getD i (0,0,0)).1).toNat) (0,0))) 4 rfl rfl kr kr 1 (((T.getD i (0,0,0)).1).toNat) rfl ye sz30 rfl rfl rfl cbs rfl om (gD (d:=(0,0)) om) (fun b13 o14 hok15=> ?_)
          obtain ⟨hok15x,hok15y⟩:=hok15
          replace hok15x:=zm.1 hok15x
          replace hok15y:=zm.1 hok15y
          refine e_u 5 rfl rfl (zG (j:=0) 0 ty30 rfl rfl rfl (.t2 .nil))<|e_dm 6 rfl rfl rfl<|e_pv 7 rfl rfl (zy (i:=1) ya sz3 rfl rfl dd rfl)<|e_u 8 rfl rfl (zf 0 ty3 rfl rfl rfl)<|zca (x0:=(l.getD (((T.getD i (0,0,0)).2.1).toNat) (0,0))) 9 rfl rfl kr kr 2 (((T.getD i (0,0,0)).2.1).toNat) rfl ye sz30 rfl rfl rfl cbs rfl om (gD (d:=(0,0)) om) (fun b16 o17 hok18=> ?_)
          obtain ⟨hok18x,hok18y⟩:=hok18
          replace hok18x:=zm.1 hok18x
          replace hok18y:=zm.1 hok18y
          refine e_u 10 rfl rfl (zG (j:=0) 0 ty30 rfl rfl rfl (.t2 .nil))<|e_dm 11 rfl rfl rfl<|e_pv 12 rfl rfl (zy (i:=2) ya sz3 rfl rfl dd rfl)<|e_u 13 rfl rfl (zf 0 ty3 rfl rfl rfl)<|zca (x0:=(l.getD (((T.getD i (0,0,0)).2.2).toNat) (0,0))) 14 rfl rfl kr kr 3 (((T.getD i (0,0,0)).2.2).toNat) rfl ye sz30 rfl rfl rfl cbs rfl om (gD (d:=(0,0)) om) (fun b19 o20 hok21=> ?_)
          obtain ⟨hok21x,hok21y⟩:=hok21
          replace hok21x:=zm.1 hok21x
          replace hok21y:=zm.1 hok21y
          refine e_u 15 rfl rfl (zG (j:=0) 0 ty30 rfl rfl rfl (.t2 .nil))<|e_one 16 (zua rfl rfl rfl rfl (.c rfl (.c rfl (.c rfl .n))) ce54 (zYa (ex:=(l.getD (((T.getD i (0,0,0)).1).toNat) (0,0)).1) (ey:=(l.getD (((T.getD i (0,0,0)).1).toNat) (0,0)).2) (fx:=(l.getD (((T.getD i (0,0,0)).2.1).toNat) (0,0)).1) (fy:=(l.getD (((T.getD i (0,0,0)).2.1).toNat) (0,0)).2) (gx:=(l.getD (((T.getD i (0,0,0)).2.2).toNat) (0,0)).1) (gy:=(l.getD (((T.getD i (0,0,0)).2.2).toNat) (0,0)).2) (hre:=cbo) (hrf:=cbo) (hrg:=cbo)) (.n) ?_)
          refine e_pv 17 rfl rfl (zGa (z:=((Pg.sg l)*(Pg.crs (((l.getD (((T.getD i (0,0,0)).1).toNat) (0,0)).1),((l.getD (((T.getD i (0,0,0)).1).toNat) (0,0)).2)) (((l.getD (((T.getD i (0,0,0)).2.1).toNat) (0,0)).1),((l.getD (((T.getD i (0,0,0)).2.1).toNat) (0,0)).2)) (((l.getD (((T.getD i (0,0,0)).2.2).toNat) (0,0)).1),((l.getD (((T.getD i (0,0,0)).2.2).toNat) (0,0)).2))).sign)) rfl rfl (w64 om))<|e_pv 18 rfl rfl (zVa rfl rfl)<|zX kr<|zd<|zB rfl (fun hs=> ?_) (fun hs=> ?_)
          ·
           refine ze<|za<|e_p (zb rfl)<|zh<|zd<|zJ<|zi<|zk<|zi<|zi<|zk<|zi ?_
           exact zx yd () trivial (zn rfl) (by rw [Pg.ce_no hz (fun h=>by have h9:0<Pg.sg l*(Pg.crs ((l.getD (((T.getD i (0,0,0)).1).toNat) (0,0)).1,(l.getD (((T.getD i (0,0,0)).1).toNat) (0,0)).2) ((l.getD (((T.getD i (0,0,0)).2.1).toNat) (0,0)).1,(l.getD (((T.getD i (0,0,0)).2.1).toNat) (0,0)).2) ((l.getD (((T.getD i (0,0,0)).2.2).toNat) (0,0)).1,(l.getD (((T.getD i (0,0,0)).2.2).toNat) (0,0)).2)).sign:=(((Pg.acP_n hnt).1 h).2.1 i om).2;omega)]) (ho:=(.n:PickO _ _ _)) (.n:SelR _ _ _)
          ·
           have hs0:=hsm
           have hn0:=hnd
           refine zt<|zd<|ze<|za<|e_mv rfl<|zh<|zd<|zv<|zvc<|zpa<|ze<|za<|e_p (zR rfl rfl)<|zh<|zd<|ze<|zva rfl rfl<|zt<|zd<|ze<|zv<|ze<|za<|e_mv rfl<|e_p (zb rfl)<|zh<|zd<|ze<|zZ (OW:=[]) (O:=[boxA b9 50 [.int .i64 ((T.getD i (0,0,0)).1),.int .i64 ((T.getD i (0,0,0)).2.1),.int .i64 ((T.getD i (0,0,0)).2.2)],mapA b4 (fun z:Int×Int=> .agg #[.int .i64 z.1,.int .i64 z.2]) (fun z:Bool=> .bool z) (fun z=>InK .i64 z.1∧InK .i64 z.2) sm,boxA b1 98 (rgC p n cap B2 N3 ((n:Nat):Int) (Pg.sg l))]) 10 mixed (.then (.block (.then (.then (.block (.block (.then (.then (.block (.then .ret)))))))))) kr<|e_dm 0 rfl rfl rfl<|e_pv 1 rfl rfl (zy (i:=0) ya sz3 rfl rfl dd rfl)<|e_u 2 rfl rfl (zf 0 ty3 rfl rfl rfl)<|e_dm 3 rfl rfl rfl<|e_pv 4 rfl rfl (zw (z:=1) rfl rfl (w64 dd))<|e_pv 5 rfl rfl (zoa (z:=1) rfl rfl dd dd)<|e_pv 6 rfl rfl (zy (i:=1) ya sz3 rfl rfl dd rfl)<|e_u 7 rfl rfl (zf 0 ty3 rfl rfl rfl)<|e_pv 8 rfl rfl (zya zr103 rfl yb sz3 (.c rfl (.c rfl .n)) (.c rfl rfl rfl (.take .nil) (.c rfl rfl rfl (.skip (.take .nil)) .n)))<|e_one 9 (zra rfl rfl rfl rfl (zu zr103 rfl) (fun b22 _=> ?_))
           refine e_one 10 (zA kr rfl rfl rfl rfl rfl sz103 rfl (.t2 .nil) ?_)
           refine zX kr<|zd<|ze<|ze<|za<|e_mv rfl<|e_ru (zc 0 ty103 rfl rfl (.t2 .nil))<|e_ru (zuc (z:=false) (a0:=((T.getD i (0,0,0)).1,(T.getD i (0,0,0)).2.1)) (v:= .bool ((mget sm ((T.getD i (0,0,0)).1,(T.getD i (0,0,0)).2.1)).getD false)) 2 rfl ky103 yc zr4 rfl rfl (⟨zm.2 om,zm.2 om⟩) rfl)<|zh<|zd<|zeb rfl (fun hseen=> ?_) (fun hseen=> ?_)
           ·
            have hfin:¬Pg.acP n l T:=fun h=>Pg.dup_no (A:=Pg.eds (T.take i)) (B:=((T.getD i (0,0,0)).2.1,(T.getD i (0,0,0)).2.2) :: ((T.getD i (0,0,0)).2.2,(T.getD i (0,0,0)).1) :: Pg.eds (T.drop (i+1))) (e:=((T.getD i (0,0,0)).1,(T.getD i (0,0,0)).2.1)) (by rw [Pg.eds_cut (i:=i) om];first|done|simp) (hs0.yes hseen) ((Pg.acP_n hnt).1 h).2.2.1
            refine ze<|za<|e_p (zb rfl)<|zh<|zd<|zJ<|zi<|zk<|zi<|zi<|zk<|zk<|zi<|zi<|zk<|zi ?_
            exact zx yd () trivial (zn rfl) (by rw [Pg.ce_no hz hfin]) (ho:=(.n:PickO _ _ _)) (.n:SelR _ _ _)
           ·
            have hn1:=Pg.nd_snoc (e:=((T.getD i (0,0,0)).1,(T.getD i (0,0,0)).2.1)) hn0 (hs0.no hseen)
            have hs1:=hs0.step ((T.getD i (0,0,0)).1,(T.getD i (0,0,0)).2.1)
            refine zt<|zd<|za<|e_mv rfl<|e_ru (zc 0 ty103 rfl rfl (.t2 .nil))<|zOa 2 rfl rfl rfl (zMc (a0:=((T.getD i (0,0,0)).1,(T.getD i (0,0,0)).2.1)) (v:=true) ky103 yc rfl rfl rfl (⟨zm.2 om,zm.2 om⟩)) (fun _=>(.s (.s .z))) (fun _ _=> ?_)
            refine zh<|zK<|zd<|za<|e_p (zw (z:=1) rfl rfl (w64 dd))<|e_mv rfl<|zh<|zxa<|zpa<|ze<|za<|e_p (zR rfl rfl)<|zh<|zd<|ze<|zva rfl rfl<|zt<|zd<|ze<|zv<|ze<|za<|e_mv rfl<|e_p (zb rfl)<|zh<|zd<|ze<|zZ (OW:=[]) (O:=[boxA b22 103 [.int .i64 ((T.getD i (0,0,0)).1),.int .i64 ((T.getD i (0,0,0)).2.1)],boxA b9 50 [.int .i64 ((T.getD i (0,0,0)).1),.int .i64 ((T.getD i (0,0,0)).2.1),.int .i64 ((T.getD i (0,0,0)).2.2)],mapA b4 (fun z:Int×Int=> .agg #[.int .i64 z.1,.int .i64 z.2]) (fun z:Bool=> .bool z) (fun z=>InK .i64 z.1∧InK .i64 z.2) (mput sm ((T.getD i (0,0,0)).1,(T.getD i (0,0,0)).2.1) true),boxA b1 98 (rgC p n cap B2 N3 ((n:Nat):Int) (Pg.sg l))]) 10 mixed (.then (.block (.then (.then (.block (.block (.then (.then (.block (.then .ret)))))))))) kr<|e_dm 0 rfl rfl rfl<|e_pv 1 rfl rfl (zy (i:=1) ya sz3 rfl rfl dd rfl)<|e_u 2 rfl rfl (zf 1 ty3 rfl rfl rfl)<|e_dm 3 rfl rfl rfl<|e_pv 4 rfl rfl (zw (z:=2) rfl rfl (w64 dd))<|e_pv 5 rfl rfl (zoa (z:=2) rfl rfl dd dd)<|e_pv 6 rfl rfl (zy (i:=2) ya sz3 rfl rfl dd rfl)<|e_u 7 rfl rfl (zf 1 ty3 rfl rfl rfl)<|e_pv 8 rfl rfl (zya zr103 rfl yb sz3 (.c rfl (.c rfl .n)) (.c rfl rfl rfl (.take .nil) (.c rfl rfl rfl (.skip (.take .nil)) .n)))<|e_one 9 (zra rfl rfl rfl rfl (zu zr103 rfl) (fun b23 _=> ?_))
            refine e_one 10 (zA kr rfl rfl rfl rfl rfl sz103 rfl (.t2 .nil) ?_)
            refine zX kr<|zd<|ze<|ze<|za<|e_mv rfl<|e_ru (zc 0 ty103 rfl rfl (.t2 .nil))<|e_ru (zuc (z:=false) (a0:=((T.getD i (0,0,0)).2.1,(T.getD i (0,0,0)).2.2)) (v:= .bool ((mget (mput sm ((T.getD i (0,0,0)).1,(T.getD i (0,0,0)).2.1) true) ((T.getD i (0,0,0)).2.1,(T.getD i (0,0,0)).2.2)).getD false)) 3 rfl ky103 yc zr4 rfl rfl (⟨zm.2 om,zm.2 om⟩) rfl)<|zh<|zd<|zeb rfl (fun hseen=> ?_) (fun hseen=> ?_)
            ·
             have hfin:¬Pg.acP n l T:=fun h=>Pg.dup_no (A:=(Pg.eds (T.take i)++[((T.getD i (0,0,0)).1,(T.getD i (0,0,0)).2.1)])) (B:=((T.getD i (0,0,0)).2.2,(T.getD i (0,0,0)).1) :: Pg.eds (T.drop (i+1))) (e:=((T.getD i (0,0,0)).2.1,(T.getD i (0,0,0)).2.2)) (by rw [Pg.eds_cut (i:=i) om];first|done|simp) (hs1.yes hseen) ((Pg.acP_n hnt).1 h).2.2.1
             refine ze<|za<|e_p (zb rfl)<|zh<|zd<|zJ<|zi<|zk<|zi<|zi<|zk<|zk<|zi<|zi<|zk<|zi ?_
             exact zx yd () trivial (zn rfl) (by rw [Pg.ce_no hz hfin]) (ho:=(.n:PickO _ _ _)) (.n:SelR _ _ _)
            ·
             have hn2:=Pg.nd_snoc (e:=((T.getD i (0,0,0)).2.1,(T.getD i (0,0,0)).2.2)) hn1 (hs1.no hseen)
             have hs2:=hs1.step ((T.getD i (0,0,0)).2.1,(T.getD i (0,0,0)).2.2)
             refine zt<|zd<|za<|e_mv rfl<|e_ru (zc 0 ty103 rfl rfl (.t2 .nil))<|zOa 3 rfl rfl rfl (zMc (a0:=((T.getD i (0,0,0)).2.1,(T.getD i (0,0,0)).2.2)) (v:=true) ky103 yc rfl rfl rfl (⟨zm.2 om,zm.2 om⟩)) (fun _=>(.s (.s (.s .z)))) (fun _ _=> ?_)
             refine zh<|zK<|zd<|za<|e_p (zw (z:=2) rfl rfl (w64 dd))<|e_mv rfl<|zh<|zxa<|zpa<|ze<|za<|e_p (zR rfl rfl)<|zh<|zd<|ze<|zva rfl rfl<|zt<|zd<|ze<|zv<|ze<|za<|e_mv rfl<|e_p (zb rfl)<|zh<|zd<|ze<|zZ (OW:=[]) (O:=[boxA b23 103 [.int .i64 ((T.getD i (0,0,0)).2.1),.int .i64 ((T.getD i (0,0,0)).2.2)],boxA b22 103 [.int .i64 ((T.getD i (0,0,0)).1),.int .i64 ((T.getD i (0,0,0)).2.1)],boxA b9 50 [.int .i64 ((T.getD i (0,0,0)).1),.int .i64 ((T.getD i (0,0,0)).2.1),.int .i64 ((T.getD i (0,0,0)).2.2)],mapA b4 (fun z:Int×Int=> .agg #[.int .i64 z.1,.int .i64 z.2]) (fun z:Bool=> .bool z) (fun z=>InK .i64 z.1∧InK .i64 z.2) (mput (mput sm ((T.getD i (0,0,0)).1,(T.getD i (0,0,0)).2.1) true) ((T.getD i (0,0,0)).2.1,(T.getD i (0,0,0)).2.2) true),boxA b1 98 (rgC p n cap B2 N3 ((n:Nat):Int) (Pg.sg l))]) 10 mixed (.then (.block (.then (.then (.block (.block (.then (.then (.block (.then .ret)))))))))) kr<|e_dm 0 rfl rfl rfl<|e_pv 1 rfl rfl (zy (i:=2) ya sz3 rfl rfl dd rfl)<|e_u 2 rfl rfl (zf 2 ty3 rfl rfl rfl)<|e_dm 3 rfl rfl rfl<|e_pv 4 rfl rfl (zw (z:=3) rfl rfl (w64 dd))<|e_pv 5 rfl rfl (zoa (z:=0) rfl rfl dd dd)<|e_pv 6 rfl rfl (zy (i:=0) ya sz3 rfl rfl dd rfl)<|e_u 7 rfl rfl (zf 2 ty3 rfl rfl rfl)<|e_pv 8 rfl rfl (zya zr103 rfl yb sz3 (.c rfl (.c rfl .n)) (.c rfl rfl rfl (.take .nil) (.c rfl rfl rfl (.skip (.take .nil)) .n)))<|e_one 9 (zra rfl rfl rfl rfl (zu zr103 rfl) (fun b24 _=> ?_))
             refine e_one 10 (zA kr rfl rfl rfl rfl rfl sz103 rfl (.t2 .nil) ?_)
             refine zX kr<|zd<|ze<|ze<|za<|e_mv rfl<|e_ru (zc 0 ty103 rfl rfl (.t2 .nil))<|e_ru (zuc (z:=false) (a0:=((T.getD i (0,0,0)).2.2,(T.getD i (0,0,0)).1)) (v:= .bool ((mget (mput (mput sm ((T.getD i (0,0,0)).1,(T.getD i (0,0,0)).2.1) true) ((T.getD i (0,0,0)).2.1,(T.getD i (0,0,0)).2.2) true) ((T.getD i (0,0,0)).2.2,(T.getD i (0,0,0)).1)).getD false)) 4 rfl ky103 yc zr4 rfl rfl (⟨zm.2 om,zm.2 om⟩) rfl)<|zh<|zd<|zeb rfl (fun hseen=> ?_) (fun hseen=> ?_)
             ·
              have hfin:¬Pg.acP n l T:=fun h=>Pg.dup_no (A:=((Pg.eds (T.take i)++[((T.getD i (0,0,0)).1,(T.getD i (0,0,0)).2.1)])++[((T.getD i (0,0,0)).2.1,(T.getD i (0,0,0)).2.2)])) (B:=Pg.eds (T.drop (i+1))) (e:=((T.getD i (0,0,0)).2.2,(T.getD i (0,0,0)).1)) (by rw [Pg.eds_cut (i:=i) om];first|done|simp) (hs2.yes hseen) ((Pg.acP_n hnt).1 h).2.2.1
              refine ze<|za<|e_p (zb rfl)<|zh<|zd<|zJ<|zi<|zk<|zi<|zi<|zk<|zk<|zi<|zi<|zk<|zi ?_
              exact zx yd () trivial (zn rfl) (by rw [Pg.ce_no hz hfin]) (ho:=(.n:PickO _ _ _)) (.n:SelR _ _ _)
             ·
              have hn3:=Pg.nd_snoc (e:=((T.getD i (0,0,0)).2.2,(T.getD i (0,0,0)).1)) hn2 (hs2.no hseen)
              have hs3:=hs2.step ((T.getD i (0,0,0)).2.2,(T.getD i (0,0,0)).1)
              refine zt<|zd<|za<|e_mv rfl<|e_ru (zc 0 ty103 rfl rfl (.t2 .nil))<|zOa 4 rfl rfl rfl (zMc (a0:=((T.getD i (0,0,0)).2.2,(T.getD i (0,0,0)).1)) (v:=true) ky103 yc rfl rfl rfl (⟨zm.2 om,zm.2 om⟩)) (fun _=>(.s (.s (.s (.s .z))))) (fun _ _=> ?_)
              refine zh<|zK<|zd<|za<|e_p (zw (z:=3) rfl rfl (w64 dd))<|e_mv rfl<|zh<|zxa<|zpa<|ze<|za<|e_p (zR rfl rfl)<|zh<|zd<|ze<|zBa rfl rfl<|zga<|zj<|zj<|zr<|zK<|zd<|za<|e_p (zw (z:=(((i+1):Nat):Int)) rfl rfl (w64 om))<|e_mv rfl<|zh<|zda ((i+1),mput (mput (mput sm ((T.getD i (0,0,0)).1,(T.getD i (0,0,0)).2.1) true) ((T.getD i (0,0,0)).2.1,(T.getD i (0,0,0)).2.2) true) ((T.getD i (0,0,0)).2.2,(T.getD i (0,0,0)).1) true) (show (i+1)≤nt∧(∀j,j<(i+1)→Pg.okP n l (T.getD j (0,0,0)))∧Pg.Sn (mput (mput (mput sm ((T.getD i (0,0,0)).1,(T.getD i (0,0,0)).2.1) true) ((T.getD i (0,0,0)).2.1,(T.getD i (0,0,0)).2.2) true) ((T.getD i (0,0,0)).2.2,(T.getD i (0,0,0)).1) true) (Pg.eds (T.take (i+1)))∧(Pg.eds (T.take (i+1))).Nodup from by exact ⟨by omega,Ms.all_lt_succ hall ⟨hin,by show 0<Pg.sg l*(Pg.crs ((l.getD (((T.getD i (0,0,0)).1).toNat) (0,0)).1,(l.getD (((T.getD i (0,0,0)).1).toNat) (0,0)).2) ((l.getD (((T.getD i (0,0,0)).2.1).toNat) (0,0)).1,(l.getD (((T.getD i (0,0,0)).2.1).toNat) (0,0)).2) ((l.getD (((T.getD i (0,0,0)).2.2).toNat) (0,0)).1,(l.getD (((T.getD i (0,0,0)).2.2).toNat) (0,0)).2)).sign;omega⟩,by rw [Pg.eds_take om];exact hs3,by rw [Pg.eds_take om];exact hn3⟩) (by show nt - (i+1)<nt - i;omega) ((.of rfl):SubM _ _) (ho:=((.of [4,4] rfl):PickO _ _ _)) ((.of [4,5] rfl):SelR _ _ _)
   ·
    have hallN:∀j,j<nt→Pg.okP n l (T.getD j (0,0,0)):=fun j hj=>hall j om
    have hsmN:Pg.Sn sm (Pg.eds T):=by have h9:=hsm;rwa [List.take_of_length_le om] at h9
    have hndN:(Pg.eds T).Nodup:=by have h9:=hnd;rwa [List.take_of_length_le om] at h9
    refine zga<|zj<|zj<|zr<|zd<|ze<|ze<|za<|e_mv rfl<|zOa 0 rfl rfl rfl (zOf yc rfl) (fun _=> .z) (fun it25 _=> ?_)
    refine zh<|zd<|zv<|zma (X:=(List (Pg.E2×Bool))) (fun x:(List (Pg.E2×Bool))=>Pg.MV n T sm x) (fun x=>[(92,.pointer (some ⟨it25,0,none⟩)),(8,.map (some b4)),(6,.int .i64 ((n:Nat):Int)),(0,.slice p n cap)]) (fun x=>[itA b4 it25 (fun z:Int×Int=> .agg #[.int .i64 z.1,.int .i64 z.2]) (fun z:Bool=> .bool z) (fun z=>InK .i64 z.1∧InK .i64 z.2) sm x,boxA b1 98 (rgC p n cap B2 N3 ((n:Nat):Int) (Pg.sg l))]) (fun x=>[slF (rI2 .i64) p cap l,slF (rI3 .i64) pt ct T]) (fun x:(List (Pg.E2×Bool))=>sm.length - x.length) ([]:List (Pg.E2×Bool)) (show Pg.MV n T sm ([]:List (Pg.E2×Bool)) from by exact Pg.MV.nil) ((.of rfl):SubM _ _) (ho:=((.e (i:=0) rfl (by first|rfl|(congr 1;omega)|simp_all) (.c (i:=0) rfl .n)):PickO _ _ _)) ((.of [0,1] rfl):SelR _ _ _) ?_
    rintro vis hJ
    replace hJ:Pg.MV n T sm vis:=hJ
    try dsimp only
    refine ze<|za<|r_next 0 rfl rfl rfl rfl (fun _=> .z) (fun e hem hen=> ?_) (fun hperm=> ?_)
    ·
     have he9:=hsmN.mem e hem
     have her:=Pg.eds_rng hnt hallN he9
     refine e_p (zD rfl rfl)<|zh<|zd<|ze<|zva rfl rfl<|zt<|zd<|zv<|ze<|za<|e_ru (zPf (p:=e) 0 rfl rfl)<|e_p (zD rfl rfl)<|zP rfl rfl (zu zr103 rfl) (fun b26=> ?_)
     refine zq 0 rfl rfl rfl rfl rfl sz103 rfl (.t2 .nil) .z<|zh<|zd<|zAa (X:=Unit) (fun x=>True) (fun x=>[(114,.bool (decide ((e.1.2≠((e.1.1+1)%((n:Nat):Int)))∧((!((mget sm (e.1.2,e.1.1)).getD false))=true)))),(92,.pointer (some ⟨it25,0,none⟩)),(8,.map (some b4)),(6,.int .i64 ((n:Nat):Int)),(0,.slice p n cap)]) (fun x=>[boxA b26 103 [.int .i64 (e.1.1),.int .i64 (e.1.2)],itA b4 it25 (fun z:Int×Int=> .agg #[.int .i64 z.1,.int .i64 z.2]) (fun z:Bool=> .bool z) (fun z=>InK .i64 z.1∧InK .i64 z.2) sm (vis++[e]),boxA b1 98 (rgC p n cap B2 N3 ((n:Nat):Int) (Pg.sg l))]) (fun x=>[slF (rI2 .i64) p cap l,slF (rI3 .i64) pt ct T]) ?_ ?_
     ·
      refine zZ (OW:=[]) (O:=[boxA b26 103 [.int .i64 (e.1.1),.int .i64 (e.1.2)],itA b4 it25 (fun z:Int×Int=> .agg #[.int .i64 z.1,.int .i64 z.2]) (fun z:Bool=> .bool z) (fun z=>InK .i64 z.1∧InK .i64 z.2) sm (vis++[e]),boxA b1 98 (rgC p n cap B2 N3 ((n:Nat):Int) (Pg.sg l))]) 100000 mixed (.then (.block (.then (.block (.then .ret))))) kr<|e_pv 0 rfl rfl (zy (i:=1) yb sz3 rfl rfl dd rfl)<|e_u 1 rfl rfl (zf 0 ty3 rfl rfl rfl)<|e_pv 2 rfl rfl (zy (i:=0) yb sz3 rfl rfl dd rfl)<|e_u 3 rfl rfl (zf 0 ty3 rfl rfl rfl)<|e_pv 4 rfl rfl (zw (z:=(e.1.1+1)) rfl rfl (w64 om))<|e_dm 5 rfl rfl rfl<|e_pv 6 rfl rfl (zoa (z:=((e.1.1+1)%((n:Nat):Int))) rfl rfl om (remN om om))<|e_pv 7 rfl rfl (zLa rfl rfl)<|zzb 8 rfl rfl kr kr rfl rfl (zT rfl) (fun h27=> ?_) (fun h27=> ?_)
      ·
       refine e_dm 9 rfl rfl rfl<|e_pv 10 rfl rfl (zy (i:=1) yb sz3 rfl rfl dd rfl)<|e_u 11 rfl rfl (zf 0 ty3 rfl rfl rfl)<|e_pv 12 rfl rfl (zy (i:=0) yb sz3 rfl rfl dd rfl)<|e_u 13 rfl rfl (zf 0 ty3 rfl rfl rfl)<|e_pv 14 rfl rfl (zya zr103 rfl yb sz3 (.c rfl (.c rfl .n)) (.c rfl rfl rfl (.take .nil) (.c rfl rfl rfl (.skip (.take .nil)) .n)))<|e_u 15 rfl rfl (zjc (z:=false) (a0:=(e.1.2,e.1.1)) (v:= .bool ((mget sm (e.1.2,e.1.1)).getD false)) 1 rfl ky103 yc zr4 rfl rfl (⟨zm.2 om,zm.2 om⟩) rfl)<|e_pv 16 rfl rfl (zHb rfl)<|e_pv 17 rfl rfl (zo rfl rfl)<|zX kr ?_
       exact zY () (show True from by first|trivial|omega|simp_all) ((.e rfl (congrArg Value.bool cbu) (.of rfl)):SubM _ _) (ho:=((.of [0,0,0] rfl):PickO _ _ _)) ((.of [0,1] rfl):SelR _ _ _)
      ·
       refine e_skip 9 rfl rfl<|e_skip 10 rfl rfl<|e_skip 11 rfl rfl<|e_skip 12 rfl rfl<|e_skip 13 rfl rfl<|e_skip 14 rfl rfl<|e_skip 15 rfl rfl<|e_skip 16 rfl rfl<|e_pv 17 rfl rfl (zo rfl rfl)<|zX kr ?_
       exact zY () (show True from by first|trivial|omega|simp_all) ((.e rfl (congrArg Value.bool cbu) (.of rfl)):SubM _ _) (ho:=((.of [0,0,0] rfl):PickO _ _ _)) ((.of [0,1] rfl):SelR _ _ _)
     ·
      rintro ⟨⟩ -
      try dsimp only
      refine zB rfl (fun hx=> ?_) (fun hx=> ?_)
      ·
       refine ze<|za<|e_p (zb rfl)<|zh<|zd<|zJ<|zk<|zi<|zk<|zi ?_
       exact zx yd () trivial (zn rfl) (by rw [Pg.ce_no hz (fun h=>hsmN.no (by simpa using hx.2) (((Pg.acP_n hnt).1 h).2.2.2.1 e.1 he9 hx.1))]) (ho:=(.n:PickO _ _ _)) (.n:SelR _ _ _)
      ·
       refine zt<|zK<|zda (vis++[e]) (show Pg.MV n T sm (vis++[e]) from by exact hJ.step hem hen (Pg.MV.test hsmN hx)) (by exact hJ.mu hem hen) ((.of rfl):SubM _ _) (ho:=((.of [1,1] rfl):PickO _ _ _)) ((.of [0,1] rfl):SelR _ _ _)
    ·
     have hrevN:=hJ.fin hsmN hperm
     refine e_p (zD rfl rfl)<|zh<|zd<|ze<|zBa rfl rfl<|zga<|zj<|zj<|zr<|zd<|ze<|ze<|za<|e_mv rfl<|e_p (zQ ye rfl)<|e_mv rfl<|zh<|zd<|zv<|zma (X:=Nat) (fun x:Nat=>x≤n∧∀j:Nat,j<x→((j:Int),(((j+1)%n:Nat):Int))∈Pg.eds T) (fun x=>[(117,.int .i64 ((x:Nat):Int)),(116,.int .i64 ((n:Nat):Int)),(8,.map (some b4)),(6,.int .i64 ((n:Nat):Int))]) (fun x=>[itA b4 it25 (fun z:Int×Int=> .agg #[.int .i64 z.1,.int .i64 z.2]) (fun z:Bool=> .bool z) (fun z=>InK .i64 z.1∧InK .i64 z.2) sm vis,boxA b1 98 (rgC p n cap B2 N3 ((n:Nat):Int) (Pg.sg l))]) (fun x=>[slF (rI2 .i64) p cap l,slF (rI3 .i64) pt ct T]) (fun x:Nat=>n - x) 0 (show 0≤n∧∀j:Nat,j<0→((j:Int),(((j+1)%n:Nat):Int))∈Pg.eds T from by exact ⟨Nat.zero_le _,fun j h=>by omega⟩) ((.e rfl (by first|rfl|(congr 1;omega)|simp_all) (.of rfl)):SubM _ _) (ho:=((.of [0,0] rfl):PickO _ _ _)) ((.of [0,1] rfl):SelR _ _ _) ?_
     rintro k hK
     replace hK:k≤n∧∀j:Nat,j<k→((j:Int),(((j+1)%n:Nat):Int))∈Pg.eds T:=hK
     try dsimp only
     obtain ⟨hk,hall5⟩:=hK
     refine ze<|za<|e_p (zR rfl rfl)<|zh<|zd<|ze<|zB rfl (fun h28=> ?_) (fun h28=> ?_)
     ·
      refine zt<|zd<|ze<|zv<|ze<|za<|e_mv rfl<|e_p (zb rfl)<|zh<|zd<|ze<|za ?_
      have hmd:=Nat.mod_lt (k+1) (show 0<n by omega)
      refine e_mv rfl<|e_mv rfl<|e_mv rfl<|e_p (zw (z:=(((k+1):Nat):Int)) rfl rfl (w64 om))<|e_mv rfl<|e_p (zoa (z:=((((k+1)%n):Nat):Int)) rfl rfl om (remN om om))<|e_p (zya zr103 rfl yb sz3 (.c rfl (.c rfl .n)) (.c rfl rfl rfl (.take .nil) (.c rfl rfl rfl (.skip (.take .nil)) .n)))<|e_ru (zjc (z:=false) (a0:=(((k:Nat):Int),((((k+1)%n):Nat):Int))) (v:= .bool ((mget sm (((k:Nat):Int),((((k+1)%n):Nat):Int))).getD false)) 0 rfl ky103 yc zr4 rfl rfl (⟨zm.2 om,zm.2 om⟩) rfl)<|e_p (zHb rfl)<|zh<|zd<|zeb rfl (fun hy=> ?_) (fun hy=> ?_)
      ·
       refine ze<|za<|e_p (zb rfl)<|zh<|zd<|zJ<|zk<|zi<|zi<|zk<|zi ?_
       exact zx yd () trivial (zn rfl) (by rw [Pg.ce_no hz (fun h=>hsmN.no (by simpa using hy) (((Pg.acP_n hnt).1 h).2.2.2.2 k om))]) (ho:=(.n:PickO _ _ _)) (.n:SelR _ _ _)
      ·
       refine zt<|zK<|zd<|za<|e_p (zw (z:=(((k+1):Nat):Int)) rfl rfl (w64 om))<|e_mv rfl<|zh<|zda (k+1) (show (k+1)≤n∧∀j:Nat,j<(k+1)→((j:Int),(((j+1)%n:Nat):Int))∈Pg.eds T from by exact ⟨by omega,Ms.all_lt_succ (P:=fun j:Nat=>((j:Int),(((j+1)%n:Nat):Int))∈Pg.eds T) hall5 (hsmN.yes (by simpa using hy))⟩) (by show n - (k+1)<n - k;omega) ((.of rfl):SubM _ _) (ho:=((.of [0,0] rfl):PickO _ _ _)) ((.of [0,1] rfl):SelR _ _ _)
     ·
      refine zga<|zj<|zj<|zr<|zd<|ze<|za<|e_p (zb rfl)<|zh<|zd<|zJ ?_
      exact zx yd () trivial (zn rfl) (by rw [Pg.ce_yes hz ((Pg.acP_n hnt).2 ⟨by omega,hallN,hndN,hrevN,fun j hj=>hall5 j om⟩)]) (ho:=(.n:PickO _ _ _)) (.n:SelR _ _ _)
end Go.Proofs.YtjcpbhlijoigfaaGreat.Sp
namespace Go.Proofs.YtjcpbhlijoigfaaGreat.Sp
open Go
set_option linter.unusedVariables false
set_option maxRecDepth 100000
set_option maxHeartbeats 8000000
theorem zXb {p:Option Addr} {n:Nat} {cap:Nat} {l:List Pg.P2} {pt:Option Addr} {nt:Nat} {ct:Nat} {T:List Pg.T3} (hn:l.length=n) (hnt:T.length=nt):Con Tryz.prog 8 [.slice p n cap,.slice pt nt ct] [] [slF (rI2 .i64) p cap l,slF (rI3 .i64) pt ct T] (Y:=Unit) (fun y=>True) (fun y=> .bool true) (fun y=>[]) (fun y=>[]):=by
 refine zp Tryz.func8 rfl rfl rfl (fun c=> ?_)
 show RunC _ _ _ _ _ [(0,.slice p n cap),(1,.slice pt nt ct)] [] [slF (rI2 .i64) p cap l,slF (rI3 .i64) pt ct T]
 refine zfa 0 rfl (fun hL0=> ?_)
 refine zfa 1 rfl (fun hL1=> ?_)
 refine ze<|za<|e_p (zb rfl)<|zh<|zd<|ze<|ze<|za<|zO rfl rfl (.n) ce11 (zJf) (.n)<|e_p (zHb rfl)<|zh<|zd<|zBa rfl rfl<|zt<|zd<|ze<|zAa (X:=Unit) (fun x=>True) (fun x=>[(15,.bool (decide ((¬(((n:Nat):Int)≤70∧(((n:Nat):Int)≤12∨64<((n:Nat):Int))))∨(14<((nt:Nat):Int))))),(4,.bool false),(0,.slice p n cap),(1,.slice pt nt ct)]) (fun x=>[]) (fun x=>[slF (rI2 .i64) p cap l,slF (rI3 .i64) pt ct T]) ?_ ?_
 ·
  refine za<|e_mv rfl<|zO rfl rfl (.c rfl .n) ce12 (zBg (p:=p) (n:=n) (cap:=cap) (l:=l) (hn:=ass)) (.c (j:=0) rfl .n)<|e_p (zmb rfl)<|zS rfl rfl (zT rfl) (fun h1=> ?_) (fun h1=> ?_)
  ·
   refine e_no<|e_no<|e_no<|e_p (zo rfl rfl)<|zh ?_
   exact zY () (show True from by first|trivial|omega|simp_all) ((.e rfl (congrArg Value.bool cbu) (.of rfl)):SubM _ _) (ho:=(.n:PickO _ _ _)) ((.of [0,1] rfl):SelR _ _ _)
  ·
   refine e_mv rfl<|e_p (zQ yf rfl)<|e_p (zFa rfl rfl)<|e_p (zo rfl rfl)<|zh ?_
   exact zY () (show True from by first|trivial|omega|simp_all) ((.e rfl (congrArg Value.bool cbu) (.of rfl)):SubM _ _) (ho:=(.n:PickO _ _ _)) ((.of [0,1] rfl):SelR _ _ _)
 ·
  rintro ⟨⟩ -
  try dsimp only
  refine zB rfl (fun hfw=> ?_) (fun hfw=> ?_)
  ·
   refine ze<|za<|e_p (zb rfl)<|zh<|zd<|zJ<|zi ?_
   exact zx Tryz.results8 () trivial (zn rfl) rfl (ho:=(.n:PickO _ _ _)) (.n:SelR _ _ _)
  ·
   refine zt<|zd<|ze<|za<|e_mv rfl<|zO rfl rfl (.c rfl .n) ce16 (zWe (p:=p) (n:=n) (cap:=cap) (l:=l) (hn:=ass)) (.c (j:=0) rfl .n)<|e_p (zb rfl)<|zh<|zd<|ze<|zAa (X:=Unit) (fun x=>True) (fun x=>[(25,.bool (decide ((Pg.ck l=0)∧(¬(Pg.acR n l T))))),(5,.int .i64 (Pg.ck l)),(4,.bool false),(0,.slice p n cap),(1,.slice pt nt ct)]) (fun x=>[]) (fun x=>[slF (rI2 .i64) p cap l,slF (rI3 .i64) pt ct T]) ?_ ?_
   ·
    refine za<|e_mv rfl<|e_p (zsa rfl rfl)<|zS rfl rfl (zT rfl) (fun hz=> ?_) (fun hz=> ?_)
    ·
     have hok:=Pg.ok hz
     have hrng:=hok.rng
     have h64:n≤64:=by have:=hok.n64;omega
     have h3:3≤n:=by have:=hok.n3;omega
     refine e_mv rfl<|e_mv rfl<|zO rfl rfl (.c rfl (.c rfl .n)) ce34 (zdd (p:=p) (n:=n) (cap:=cap) (l:=l) (pt:=pt) (nt:=nt) (ct:=ct) (T:=T) (hn:=ass) (hnt:=ass) (hb:=cbo) (h64:=cbo) (h3:=cbo) (hrng:=cbo)) (.c (j:=0) rfl (.c (j:=1) rfl .n))<|e_p (zmb rfl)<|e_p (zo rfl rfl)<|zh ?_
     exact zY () (show True from by first|trivial|omega|simp_all) ((.e rfl (congrArg Value.bool cbu) (.of rfl)):SubM _ _) (ho:=(.n:PickO _ _ _)) ((.of [0,1] rfl):SelR _ _ _)
    ·
     refine e_no<|e_no<|e_no<|e_no<|e_p (zo rfl rfl)<|zh ?_
     exact zY () (show True from by first|trivial|omega|simp_all) ((.e rfl (congrArg Value.bool cbu) (.of rfl)):SubM _ _) (ho:=(.n:PickO _ _ _)) ((.of [0,1] rfl):SelR _ _ _)
   ·
    rintro ⟨⟩ -
    try dsimp only
    refine zB rfl (fun hw=> ?_) (fun hw=> ?_)
    ·
     refine za<|e_p (zb rfl)<|zh<|zd<|ze<|za<|e_mv rfl<|e_mv rfl<|zO rfl rfl (.c rfl (.c rfl .n)) ce31 (zsc (p:=p) (n:=n) (cap:=cap) (l:=l) (pt:=pt) (nt:=nt) (ct:=ct) (T:=T) (hn:=ass) (hnt:=ass) (hb:=cbo)) (.c (j:=0) rfl (.c (j:=1) rfl .n))<|e_mv rfl<|e_p (zsa rfl rfl) ?_
     rw [show (decide ((Pg.ceC n l T)=12))=true from by exact decide_eq_true (by first|exact Pg.ce_eq1 hn hw|exact Pg.ce_eq2 hn hw)]
     refine e_p (zb rfl)<|zh<|zd<|zJ ?_
     exact zx Tryz.results8 () trivial (zn rfl) rfl (ho:=(.n:PickO _ _ _)) (.n:SelR _ _ _)
    ·
     refine zt<|zd<|ze<|za<|e_mv rfl<|e_mv rfl<|zO rfl rfl (.c rfl (.c rfl .n)) ce31 (zsc (p:=p) (n:=n) (cap:=cap) (l:=l) (pt:=pt) (nt:=nt) (ct:=ct) (T:=T) (hn:=ass) (hnt:=ass) (hb:=cbo)) (.c (j:=0) rfl (.c (j:=1) rfl .n))<|e_mv rfl<|e_p (zsa rfl rfl) ?_
     rw [show (decide ((Pg.ceC n l T)=Pg.ck l))=true from by exact decide_eq_true (by first|exact Pg.ce_eq1 hn hw|exact Pg.ce_eq2 hn hw)]
     refine e_p (zb rfl)<|zh<|zd<|zJ ?_
     exact zx Tryz.results8 () trivial (zn rfl) rfl (ho:=(.n:PickO _ _ _)) (.n:SelR _ _ _)
end Go.Proofs.YtjcpbhlijoigfaaGreat.Sp
