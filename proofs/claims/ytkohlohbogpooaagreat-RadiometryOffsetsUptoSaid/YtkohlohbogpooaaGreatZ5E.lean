/- Lemmas on the walk and plain lemmas that the claim of this folder uses; each states its own conditions. Lines were printed by a program of ours. -/
import Derived.Test.YtkohlohbogpooaaGreatZ5D
set_option linter.unusedVariables false
set_option linter.unusedSimpArgs false
set_option linter.unusedSectionVars false
open Go.Value renaming int → ya, pointer → yc
open Go.IntKind renaming i64 → yb
open Go.Proofs.Tryz renaming underlying42 → yd, underlying68 → ye, underlying56 → yf, underlying55 → yg, underlying24 → yh, underlying88 → yi, prog → yj, underlying28 → yl, underlying26 → ym, results38 → yn, results31 → yo, results32 → yp, underlying44 → yq
open Go.Proofs.YtkohlohbogpooaaGreat.Big renaming hq → yk
namespace Go.Proofs.YtkohlohbogpooaaGreat.Sp
open Go
set_option linter.unusedVariables false
set_option maxRecDepth 100000
set_option maxHeartbeats 8000000
theorem zDg {p1:Option Addr} {n1:Nat} {c1:Nat} {l1:List Int} {p2:Option Addr} {n2:Nat} {c2:Nat} {l2:List Int} (hn1:l1.length=n1) (hn2:l2.length=n2) (hnn:n2=n1) (hn9:1≤n1∧n1≤4096) (hl1:∀i,i<n1→0≤Rd.lg l1 i∧Rd.lg l1 i≤65535) (hl2:∀i,i<n1→0≤Rd.lg l2 i∧Rd.lg l2 i≤65535) (hdg:((n1:Nat):Int)*(Rd.sI (fun jj=>Rd.lg l1 jj*Rd.lg l1 jj) n1)≠(Rd.sI (Rd.lg l1) n1)*(Rd.sI (Rd.lg l1) n1)):Con yj 47 [.slice p1 n1 c1,.slice p2 n2 c2] [] [slF (rI .i64) p1 c1 l1,slF (rI .i64) p2 c2 l2] (Y:=Wd×Wd×Wd×Wd) (fun y=>True) (fun y=> .tuple #[.agg #[y.1.b,y.1.l,y.2.1.b,y.2.1.l],.agg #[y.2.2.1.b,y.2.2.1.l,y.2.2.2.b,y.2.2.2.l],ya yb 0]) (fun y=>[]) (fun y=>[qF true y.1 y.2.1 (Rat.divInt (((n1:Nat):Int)*(Rd.sI (fun jj=>Rd.lg l1 jj*Rd.lg l2 jj) n1) - (Rd.sI (Rd.lg l1) n1)*(Rd.sI (Rd.lg l2) n1)) (((n1:Nat):Int)*(Rd.sI (fun jj=>Rd.lg l1 jj*Rd.lg l1 jj) n1) - (Rd.sI (Rd.lg l1) n1)*(Rd.sI (Rd.lg l1) n1))),qF true y.2.2.1 y.2.2.2 (Rat.divInt (Rd.sI (Rd.lg l2) n1) ((n1:Nat):Int) - Rat.divInt (((n1:Nat):Int)*(Rd.sI (fun jj=>Rd.lg l1 jj*Rd.lg l2 jj) n1) - (Rd.sI (Rd.lg l1) n1)*(Rd.sI (Rd.lg l2) n1)) (((n1:Nat):Int)*(Rd.sI (fun jj=>Rd.lg l1 jj*Rd.lg l1 jj) n1) - (Rd.sI (Rd.lg l1) n1)*(Rd.sI (Rd.lg l1) n1))*Rat.divInt (Rd.sI (Rd.lg l1) n1) ((n1:Nat):Int))]):=by
 refine zm Tryz.func47 rfl rfl rfl (fun c=> ?_)
 show RunC _ _ _ _ _ [(0,.slice p1 n1 c1),(1,.slice p2 n2 c2)] [] [slF (rI .i64) p1 c1 l1,slF (rI .i64) p2 c2 l2]
 refine zY 0 rfl (fun hL0=> ?_)
 refine zY 1 rfl (fun hL1=> ?_)
 refine ze<|za<|zK rfl rfl (zw zr28 rfl) (fun b1=> ?_)
 refine zK rfl rfl (zw zr28 rfl) (fun b2=> ?_)
 refine e_p (zb rfl)<|zf<|zc<|ze<|za<|e_mv rfl<|e_p (zC yd rfl)<|e_p (zb rfl)<|zf<|zc<|ze<|zDa (X:=Unit) (fun x=>True) (fun x=>[(26,.bool (decide ((((n1:Nat):Int)=0)∨(4096<((n1:Nat):Int))))),(7,ya yb ((n1:Nat):Int)),(6,ya yb 0),(5,yc (some ⟨b2,0,none⟩)),(4,yc (some ⟨b1,0,none⟩)),(0,.slice p1 n1 c1),(1,.slice p2 n2 c2)]) (fun x=>[boxA b2 28 (cw [wz,wz]),boxA b1 28 (cw [wz,wz])]) (fun x=>[slF (rI .i64) p1 c1 l1,slF (rI .i64) p2 c2 l2]) ?_ ?_
 ·
  refine za<|e_mv rfl<|e_p (zpa rfl rfl)<|zO rfl rfl (zS rfl) (fun h3=> ?_) (fun h3=> ?_)
  ·
   refine e_no<|e_no<|e_p (zk rfl rfl)<|zf ?_
   exact zda () (show True from by first|trivial|omega|simp_all) ((.e rfl (congrArg Value.bool cbu) (.of rfl)):SubM _ _) (ho:=((.of [0,0] rfl):PickO _ _ _)) ((.of [0,1] rfl):SelR _ _ _)
  ·
   refine e_mv rfl<|e_p (zka rfl rfl)<|e_p (zk rfl rfl)<|zf ?_
   exact zda () (show True from by first|trivial|omega|simp_all) ((.e rfl (congrArg Value.bool cbu) (.of rfl)):SubM _ _) (ho:=((.of [0,0] rfl):PickO _ _ _)) ((.of [0,1] rfl):SelR _ _ _)
 ·
  rintro ⟨⟩ -
  try dsimp only [cw]
  refine zA rfl (fun h26=> ?_) (fun h26=> ?_)
  ·
   exact absurd h26 om
  ·
   refine zv<|zc<|ze<|ze<|za<|e_mv rfl<|e_p (zC yd rfl)<|e_mv rfl<|e_p (zwa rfl rfl)<|zf<|zc<|zA rfl (fun h32=> ?_) (fun h32=> ?_)
   ·
    exact absurd h32 om
   ·
    refine zv<|zc<|ze<|za<|e_p (zb rfl)<|e_p (zb rfl)<|e_p (zb rfl)<|e_p (zb rfl)<|zf<|zc<|ze<|ze<|za<|e_mv rfl<|e_p (zC yd rfl)<|e_mv rfl<|zf<|zc<|zt<|zga (X:=Nat) (fun x:Nat=>x≤n1) (fun x=>[(11,ya yb (Rd.sI (fun jj=>Rd.lg l1 jj*Rd.lg l2 jj) x)),(10,ya yb (Rd.sI (fun jj=>Rd.lg l1 jj*Rd.lg l1 jj) x)),(9,ya yb (Rd.sI (Rd.lg l2) x)),(8,ya yb (Rd.sI (Rd.lg l1) x)),(37,ya yb ((x:Nat):Int)),(36,ya yb ((n1:Nat):Int)),(35,.slice p1 n1 c1),(7,ya yb ((n1:Nat):Int)),(5,yc (some ⟨b2,0,none⟩)),(4,yc (some ⟨b1,0,none⟩)),(1,.slice p2 n2 c2)]) (fun x=>[boxA b2 28 (cw [wz,wz]),boxA b1 28 (cw [wz,wz])]) (fun x=>[slF (rI .i64) p1 c1 l1,slF (rI .i64) p2 c2 l2]) (fun x:Nat=>n1 - x) 0 (show 0≤n1 from by exact Nat.zero_le _) ((.e rfl rfl (.e rfl rfl (.e rfl rfl (.e rfl rfl (.e rfl (by first|rfl|(congr 1;omega)|simp_all) (.of rfl)))))):SubM _ _) (ho:=((.of [0,0] rfl):PickO _ _ _)) ((.of [0,1] rfl):SelR _ _ _) ?_
    rintro i hI
    replace hI:i≤n1:=hI
    try dsimp only [cw]
    refine ze<|za<|e_p (zT rfl rfl)<|zf<|zc<|ze<|zA rfl (fun h4=> ?_) (fun h4=> ?_)
    ·
     have hsx:=Rd.sI_bn (B:=65535) hl1 i om
     have hsy:=Rd.sI_bn (B:=65535) hl2 i om
     have hsxx:=Rd.sI_bn (B:=4294836225) (f:=fun jj=>Rd.lg l1 jj*Rd.lg l1 jj) (fun i hi=>Bl.mul_b (hl1 i hi) (hl1 i hi)) i om
     have hsxy:=Rd.sI_bn (B:=4294836225) (f:=fun jj=>Rd.lg l1 jj*Rd.lg l2 jj) (fun i hi=>Bl.mul_b (hl1 i hi) (hl2 i hi)) i om
     have hva:0≤l1.getD i 0∧l1.getD i 0≤65535:=hl1 i om
     have hvb:0≤l2.getD i 0∧l2.getD i 0≤65535:=hl2 i om
     have hm1:=Bl.mul_b hva hva
     have hm2:=Bl.mul_b hva hvb
     refine zv<|zc<|ze<|zt<|ze<|za<|e_mv rfl<|zV (x0:=(l1.getD i 0)) 0 i rfl yd sz3 rfl rfl rfl cbs rfl rfl (gD (d:=0) om) (fun b5 o6 hok7=> ?_)
     replace hok7:=zN.1 hok7
     refine e_ru (zj (j:=0) 0 ty3 rfl rfl rfl rfl)<|e_p (zb rfl)<|e_p (zb rfl)<|zf<|zc<|ze<|za<|e_mv rfl<|e_mv rfl<|zV (x0:=(l2.getD i 0)) 2 i rfl yd sz3 rfl rfl rfl cbs rfl rfl (gD (d:=0) om) (fun b8 o9 hok10=> ?_)
     replace hok10:=zN.1 hok10
     refine e_ru (zj (j:=0) 0 ty3 rfl rfl rfl rfl)<|e_p (zb rfl)<|zf<|zc<|ze<|zDa (X:=Unit) (fun x=>True) (fun x=>[(59,.bool (decide (((((l1.getD i 0)<0)∨(65535<(l1.getD i 0)))∨((l2.getD i 0)<0))∨(65535<(l2.getD i 0))))),(14,ya yb (l2.getD i 0)),(13,ya yb (l1.getD i 0)),(11,ya yb (Rd.sI (fun jj=>Rd.lg l1 jj*Rd.lg l2 jj) i)),(10,ya yb (Rd.sI (fun jj=>Rd.lg l1 jj*Rd.lg l1 jj) i)),(9,ya yb (Rd.sI (Rd.lg l2) i)),(8,ya yb (Rd.sI (Rd.lg l1) i)),(37,ya yb ((i:Nat):Int)),(36,ya yb ((n1:Nat):Int)),(35,.slice p1 n1 c1),(7,ya yb ((n1:Nat):Int)),(5,yc (some ⟨b2,0,none⟩)),(4,yc (some ⟨b1,0,none⟩)),(1,.slice p2 n2 c2)]) (fun x=>[boxA b2 28 (cw [wz,wz]),boxA b1 28 (cw [wz,wz])]) (fun x=>[atF b8 o9 [ya yb (l2.getD i 0)],atF b5 o6 [ya yb (l1.getD i 0)],slF (rI .i64) p1 c1 l1,slF (rI .i64) p2 c2 l2]) ?_ ?_
     ·
      refine za<|e_mv rfl<|e_p (zT rfl rfl)<|zO rfl rfl (zS rfl) (fun h11=> ?_) (fun h11=> ?_)
      ·
       refine e_no<|e_no<|e_p (zk rfl rfl)<|e_mv rfl<|e_no<|e_no<|e_p (zk rfl rfl)<|e_mv rfl<|e_no<|e_no<|e_p (zk rfl rfl)<|zf ?_
       exact zda () (show True from by first|trivial|omega|simp_all) ((.e rfl (congrArg Value.bool cbu) (.of rfl)):SubM _ _) (ho:=((.of [0,0] rfl):PickO _ _ _)) ((.of [0,1,2,3] rfl):SelR _ _ _)
      ·
       refine e_mv rfl<|e_p (zka rfl rfl)<|e_p (zk rfl rfl)<|zO rfl rfl (zS rfl) (fun h12=> ?_) (fun h12=> ?_)
       ·
        refine e_no<|e_no<|e_p (zk rfl rfl)<|e_mv rfl<|e_no<|e_no<|e_p (zk rfl rfl)<|zf ?_
        exact zda () (show True from by first|trivial|omega|simp_all) ((.e rfl (congrArg Value.bool cbu) (.of rfl)):SubM _ _) (ho:=((.of [0,0] rfl):PickO _ _ _)) ((.of [0,1,2,3] rfl):SelR _ _ _)
       ·
        refine e_mv rfl<|e_p (zT rfl rfl)<|e_p (zk rfl rfl)<|zO rfl rfl (zS rfl) (fun h13=> ?_) (fun h13=> ?_)
        ·
         refine e_no<|e_no<|e_p (zk rfl rfl)<|zf ?_
         exact zda () (show True from by first|trivial|omega|simp_all) ((.e rfl (congrArg Value.bool cbu) (.of rfl)):SubM _ _) (ho:=((.of [0,0] rfl):PickO _ _ _)) ((.of [0,1,2,3] rfl):SelR _ _ _)
        ·
         refine e_mv rfl<|e_p (zka rfl rfl)<|e_p (zk rfl rfl)<|zf ?_
         exact zda () (show True from by first|trivial|omega|simp_all) ((.e rfl (congrArg Value.bool cbu) (.of rfl)):SubM _ _) (ho:=((.of [0,0] rfl):PickO _ _ _)) ((.of [0,1,2,3] rfl):SelR _ _ _)
     ·
      rintro ⟨⟩ -
      try dsimp only [cw]
      refine zA rfl (fun h59=> ?_) (fun h59=> ?_)
      ·
       exact absurd h59 om
      ·
       refine zv<|zc<|za<|e_mv rfl<|e_mv rfl<|e_p (zH (z:=((Rd.sI (Rd.lg l1) i)+(l1.getD i 0))) rfl rfl (w64 om))<|e_mv rfl<|e_mv rfl<|e_p (zH (z:=((Rd.sI (Rd.lg l2) i)+(l2.getD i 0))) rfl rfl (w64 om))<|e_mv rfl<|e_mv rfl<|e_mv rfl<|e_p (zza (z:=((l1.getD i 0)*(l1.getD i 0))) rfl rfl (w64 om))<|e_p (zH (z:=((Rd.sI (fun jj=>Rd.lg l1 jj*Rd.lg l1 jj) i)+((l1.getD i 0)*(l1.getD i 0)))) rfl rfl (w64 om))<|e_mv rfl<|e_mv rfl<|e_mv rfl<|e_p (zza (z:=((l1.getD i 0)*(l2.getD i 0))) rfl rfl (w64 om))<|e_p (zH (z:=((Rd.sI (fun jj=>Rd.lg l1 jj*Rd.lg l2 jj) i)+((l1.getD i 0)*(l2.getD i 0)))) rfl rfl (w64 om))<|e_p (zb rfl)<|e_p (zb rfl)<|e_p (zb rfl)<|e_p (zb rfl)<|zf<|zL<|zc<|za<|e_p (zH (z:=(((i+1):Nat):Int)) rfl rfl (w64 om))<|e_mv rfl<|zf<|zba (i+1) (show (i+1)≤n1 from by show i+1≤n1;omega) (by show n1 - (i+1)<n1 - i;omega) ((.e rfl (by first|rfl|(congr 1;omega)|simp_all) (.e rfl (by first|rfl|(congr 1;omega)|simp_all) (.e rfl (by first|rfl|(congr 1;omega)|simp_all) (.e rfl (by first|rfl|(congr 1;omega)|simp_all) (.of rfl))))):SubM _ _) (ho:=((.of [0,0] rfl):PickO _ _ _)) ((.of [2,3] rfl):SelR _ _ _)
    ·
     refine zea<|zi<|zi<|zp<|zc<|ze<|ze ?_
     have ein:i=n1:=by omega
     have e14:Rd.sI (Rd.lg l1) i=Rd.sI (Rd.lg l1) n1:=by rw [ein]
     rw [e14]
     have e15:Rd.sI (Rd.lg l2) i=Rd.sI (Rd.lg l2) n1:=by rw [ein]
     rw [e15]
     have e16:Rd.sI (fun jj=>Rd.lg l1 jj*Rd.lg l1 jj) i=Rd.sI (fun jj=>Rd.lg l1 jj*Rd.lg l1 jj) n1:=by rw [ein]
     rw [e16]
     have e17:Rd.sI (fun jj=>Rd.lg l1 jj*Rd.lg l2 jj) i=Rd.sI (fun jj=>Rd.lg l1 jj*Rd.lg l2 jj) n1:=by rw [ein]
     rw [e17]
     have hsx:=Rd.sI_bn (B:=65535) hl1 n1 om
     have hsy:=Rd.sI_bn (B:=65535) hl2 n1 om
     have hsxx:=Rd.sI_bn (B:=4294836225) (f:=fun jj=>Rd.lg l1 jj*Rd.lg l1 jj) (fun i hi=>Bl.mul_b (hl1 i hi) (hl1 i hi)) n1 om
     have hsxy:=Rd.sI_bn (B:=4294836225) (f:=fun jj=>Rd.lg l1 jj*Rd.lg l2 jj) (fun i hi=>Bl.mul_b (hl1 i hi) (hl2 i hi)) n1 om
     have hk1:=Bl.mul_b (x:=((n1:Nat):Int)) (y:=(Rd.sI (fun jj=>Rd.lg l1 jj*Rd.lg l1 jj) n1)) (m:=4096) (n:=17591649177600) om om
     have hk2:=Bl.mul_b (x:=((n1:Nat):Int)) (y:=(Rd.sI (fun jj=>Rd.lg l1 jj*Rd.lg l2 jj) n1)) (m:=4096) (n:=17591649177600) om om
     have hk3:=Bl.mul_b (x:=(Rd.sI (Rd.lg l1) n1)) (y:=(Rd.sI (Rd.lg l1) n1)) (m:=268431360) (n:=268431360) om om
     have hk4:=Bl.mul_b (x:=(Rd.sI (Rd.lg l1) n1)) (y:=(Rd.sI (Rd.lg l2) n1)) (m:=268431360) (n:=268431360) om om
     refine za<|e_mv rfl<|e_mv rfl<|e_p (zza (z:=(((n1:Nat):Int)*(Rd.sI (fun jj=>Rd.lg l1 jj*Rd.lg l1 jj) n1))) rfl rfl (w64 om))<|e_mv rfl<|e_mv rfl<|e_p (zza (z:=((Rd.sI (Rd.lg l1) n1)*(Rd.sI (Rd.lg l1) n1))) rfl rfl (w64 om))<|e_p (zpa rfl rfl)<|zf<|zc<|zA rfl (fun h85=> ?_) (fun h85=> ?_)
     ·
      exact absurd h85 hdg
     ·
      refine zv<|zc<|ze<|za<|e_mv rfl<|e_mv rfl<|e_p (zza (z:=(((n1:Nat):Int)*(Rd.sI (fun jj=>Rd.lg l1 jj*Rd.lg l2 jj) n1))) rfl rfl (w64 om))<|e_mv rfl<|e_mv rfl<|e_p (zza (z:=((Rd.sI (Rd.lg l1) n1)*(Rd.sI (Rd.lg l2) n1))) rfl rfl (w64 om))<|e_p (zla (z:=((((n1:Nat):Int)*(Rd.sI (fun jj=>Rd.lg l1 jj*Rd.lg l2 jj) n1)) - ((Rd.sI (Rd.lg l1) n1)*(Rd.sI (Rd.lg l2) n1)))) rfl rfl (w64 om))<|e_mv rfl<|e_mv rfl<|e_p (zza (z:=(((n1:Nat):Int)*(Rd.sI (fun jj=>Rd.lg l1 jj*Rd.lg l1 jj) n1))) rfl rfl (w64 om))<|e_mv rfl<|e_mv rfl<|e_p (zza (z:=((Rd.sI (Rd.lg l1) n1)*(Rd.sI (Rd.lg l1) n1))) rfl rfl (w64 om))<|e_p (zla (z:=((((n1:Nat):Int)*(Rd.sI (fun jj=>Rd.lg l1 jj*Rd.lg l1 jj) n1)) - ((Rd.sI (Rd.lg l1) n1)*(Rd.sI (Rd.lg l1) n1)))) rfl rfl (w64 om))<|zu rfl rfl (.c rfl (.c rfl .n)) ce54 (zzb (z1:=((((n1:Nat):Int)*(Rd.sI (fun jj=>Rd.lg l1 jj*Rd.lg l2 jj) n1)) - ((Rd.sI (Rd.lg l1) n1)*(Rd.sI (Rd.lg l2) n1)))) (z2:=((((n1:Nat):Int)*(Rd.sI (fun jj=>Rd.lg l1 jj*Rd.lg l1 jj) n1)) - ((Rd.sI (Rd.lg l1) n1)*(Rd.sI (Rd.lg l1) n1)))) (hz1:=cbo) (hz2:=cbo) (hy:=cbo)) (.n) ?_
      rintro ⟨w318,w419⟩ -
      dsimp only [aq,nq,cq]
      refine e_mv rfl<|e_p (zr rfl rfl)<|e_p (zr rfl rfl)<|zl 1 rfl rfl rfl rfl rfl sz28 rfl (.t4 .nil) (.s .z)<|zf<|zc<|ze<|za<|e_mv rfl<|e_mv rfl<|zu rfl rfl (.c rfl (.c rfl .n)) ce54 (zzb (z1:=(Rd.sI (Rd.lg l2) n1)) (z2:=((n1:Nat):Int)) (hz1:=cbo) (hz2:=cbo) (hy:=cbo)) (.n) ?_
      rintro ⟨w320,w421⟩ -
      dsimp only [aq,nq,cq]
      refine e_mv rfl<|e_p (zr rfl rfl)<|e_p (zr rfl rfl)<|zK rfl rfl (zw zr28 rfl) (fun b22=> ?_)
      refine zl 0 rfl rfl rfl rfl rfl sz28 rfl (.t4 .nil) .z<|e_p (zb rfl)<|zf<|zc<|ze<|za<|e_mv rfl<|e_mv rfl<|zu rfl rfl (.c rfl (.c rfl .n)) ce54 (zzb (z1:=(Rd.sI (Rd.lg l1) n1)) (z2:=((n1:Nat):Int)) (hz1:=cbo) (hz2:=cbo) (hy:=cbo)) (.n) ?_
      rintro ⟨w323,w424⟩ -
      dsimp only [aq,nq,cq]
      refine e_mv rfl<|e_p (zr rfl rfl)<|e_p (zr rfl rfl)<|zK rfl rfl (zw zr28 rfl) (fun b25=> ?_)
      refine zl 0 rfl rfl rfl rfl rfl sz28 rfl (.t4 .nil) .z<|e_p (zb rfl)<|zf<|zc<|ze ?_
      have d1:=Rd.dq (n:=((n1:Nat):Int)*(Rd.sI (fun jj=>Rd.lg l1 jj*Rd.lg l2 jj) n1) - (Rd.sI (Rd.lg l1) n1)*(Rd.sI (Rd.lg l2) n1)) (d:=((n1:Nat):Int)*(Rd.sI (fun jj=>Rd.lg l1 jj*Rd.lg l1 jj) n1) - (Rd.sI (Rd.lg l1) n1)*(Rd.sI (Rd.lg l1) n1)) om om om
      have d2:=Rd.dq (n:=(Rd.sI (Rd.lg l1) n1)) (d:=((n1:Nat):Int)) om om om
      have d3:=Rd.dq (n:=(Rd.sI (Rd.lg l2) n1)) (d:=((n1:Nat):Int)) om om om
      have d4:=Big.hq_mul (Rat.divInt (((n1:Nat):Int)*(Rd.sI (fun jj=>Rd.lg l1 jj*Rd.lg l2 jj) n1) - (Rd.sI (Rd.lg l1) n1)*(Rd.sI (Rd.lg l2) n1)) (((n1:Nat):Int)*(Rd.sI (fun jj=>Rd.lg l1 jj*Rd.lg l1 jj) n1) - (Rd.sI (Rd.lg l1) n1)*(Rd.sI (Rd.lg l1) n1))) (Rat.divInt (Rd.sI (Rd.lg l1) n1) ((n1:Nat):Int))
      refine zma (.c (i:=3) rfl (.c (i:=2) rfl (.c (i:=0) rfl (.c (i:=0) rfl .n))))<|zca (OW:=[boxA b1 28 (cw [w318,w419]),boxA b2 28 (cw [wz,wz])]) (O:=[boxA b25 28 (cw [w323,w424]),boxA b22 28 (cw [w320,w421])]) 6 mixed (.then .ret) kr<|e_uw 0 rfl rfl (zd 0 ty28 rfl rfl (.t4 .nil))<|e_uw 1 rfl rfl (zd 3 ty28 rfl rfl (.t4 .nil))<|e_uw 2 rfl rfl (zd 0 ty28 rfl rfl (.t4 .nil))<|e_uw 3 rfl rfl (zd 2 ty28 rfl rfl (.t4 .nil))<|e_one 4 (zx rfl rfl rfl rfl (.c rfl (.c rfl .n)) ce60 (zCb (k1:=true) (u1:=w318) (v1:=w419) (q1:=Rat.divInt ((((n1:Nat):Int)*(Rd.sI (fun jj=>Rd.lg l1 jj*Rd.lg l2 jj) n1)) - ((Rd.sI (Rd.lg l1) n1)*(Rd.sI (Rd.lg l2) n1))) ((((n1:Nat):Int)*(Rd.sI (fun jj=>Rd.lg l1 jj*Rd.lg l1 jj) n1)) - ((Rd.sI (Rd.lg l1) n1)*(Rd.sI (Rd.lg l1) n1)))) (k2:=true) (u2:=w323) (v2:=w424) (q2:=Rat.divInt (Rd.sI (Rd.lg l1) n1) ((n1:Nat):Int)) (hl:=cbo)) (.c (j:=2) rfl (.c (j:=0) rfl .n)) ?_)
      rintro ⟨w326,w427⟩ -
      dsimp only [aq,nq,cq]
      refine e_one 5 (zx rfl rfl rfl rfl (.c rfl (.c rfl .n)) ce78 (zxe (k1:=true) (u1:=w320) (v1:=w421) (q1:=Rat.divInt (Rd.sI (Rd.lg l2) n1) ((n1:Nat):Int)) (k2:=true) (u2:=w326) (v2:=w427) (q2:=(Rat.divInt ((((n1:Nat):Int)*(Rd.sI (fun jj=>Rd.lg l1 jj*Rd.lg l2 jj) n1)) - ((Rd.sI (Rd.lg l1) n1)*(Rd.sI (Rd.lg l2) n1))) ((((n1:Nat):Int)*(Rd.sI (fun jj=>Rd.lg l1 jj*Rd.lg l1 jj) n1)) - ((Rd.sI (Rd.lg l1) n1)*(Rd.sI (Rd.lg l1) n1))))*(Rat.divInt (Rd.sI (Rd.lg l1) n1) ((n1:Nat):Int))) (hl:=cbo)) (.c (j:=2) rfl (.c (j:=0) rfl .n)) ?_)
      rintro ⟨w328,w429⟩ -
      dsimp only [aq,nq,cq]
      refine e_one 6 (zD kr rfl rfl rfl rfl rfl sz28 rfl (.t4 .nil) ?_)
      refine zIa (zha (i:=1) rfl)<|e_one 7 (zD kr rfl rfl rfl rfl rfl sz28 rfl (.t4 .nil) ?_)
      refine e_pv 8 rfl rfl (zb rfl)<|zZ kr<|zc<|zJ ?_
      exact zDc Tryz.results47 (w318,w419,w328,w429) trivial (zq 1 ty28 rfl rfl (.t4 .nil)) (zq 0 ty28 rfl rfl (.t4 .nil)) (zo rfl) rfl (ho:=(.n:PickO _ _ _)) ((.of [4,0] rfl):SelR _ _ _)
theorem zyc {p:Option Addr} {n:Nat} {cap:Nat} {l:List Int} (hn:l.length=n) (hn9:n≤4096):Con yj 73 [.slice p n cap] [] [slF (rI .i64) p cap l] (Y:=Unit) (fun y=>True) (fun y=> .tuple #[ya yb ((Rd.cntV l).1),ya yb ((Rd.cntV l).2)]) (fun y=>[]) (fun y=>[]):=by
 refine zm Tryz.func73 rfl rfl rfl (fun c=> ?_)
 show RunC _ _ _ _ _ [(0,.slice p n cap)] [] [slF (rI .i64) p cap l]
 refine zY 0 rfl (fun hL0=> ?_)
 refine ze<|za<|e_p (zb rfl)<|e_p (zb rfl)<|zf<|zc<|ze<|za<|e_p (zb rfl)<|zf<|zc<|ze<|ze<|za<|e_mv rfl<|e_p (zC yd rfl)<|e_mv rfl<|zf<|zc<|zt<|zga (X:=Nat) (fun x:Nat=>x≤n∧∀j,j<x→0≤Rd.lg l j∧Rd.lg l j≤262144) (fun x=>[(4,ya yb (Rd.sI (Rd.lg l) x)),(9,ya yb ((x:Nat):Int)),(8,ya yb ((n:Nat):Int)),(7,.slice p n cap)]) (fun x=>[]) (fun x=>[slF (rI .i64) p cap l]) (fun x:Nat=>n - x) 0 (show 0≤n∧∀j,j<0→0≤Rd.lg l j∧Rd.lg l j≤262144 from by exact ⟨Nat.zero_le _,fun j h=>by omega⟩) ((.e rfl rfl (.e rfl (by first|rfl|(congr 1;omega)|simp_all) (.c rfl (.c rfl .n)))):SubM _ _) (ho:=(.n:PickO _ _ _)) ((.c (j:=0) rfl .n):SelR _ _ _) ?_
 rintro i hI
 replace hI:i≤n∧∀j,j<i→0≤Rd.lg l j∧Rd.lg l j≤262144:=hI
 try dsimp only
 obtain ⟨hi,hall⟩:=hI
 refine ze<|za<|e_p (zT rfl rfl)<|zf<|zc<|ze<|zA rfl (fun h1=> ?_) (fun h1=> ?_)
 ·
  have hb:=Rd.sI_bn (f:=Rd.lg l) (B:=262144) (N:=i) hall i (Nat.le_refl _)
  refine zv<|zc<|ze<|zt<|ze<|za<|zV (x0:=(l.getD i 0)) 0 i rfl yd sz3 rfl rfl rfl cbs rfl rfl (gD (d:=0) om) (fun b2 o3 hok4=> ?_)
  replace hok4:=zN.1 hok4
  refine e_ru (zj (j:=0) 0 ty3 rfl rfl rfl rfl)<|e_p (zb rfl)<|zf<|zc<|ze<|zDa (X:=Unit) (fun x=>True) (fun x=>[(18,.bool (decide (((l.getD i 0)<0)∨(262144<(l.getD i 0))))),(6,ya yb (l.getD i 0)),(4,ya yb (Rd.sI (Rd.lg l) i)),(9,ya yb ((i:Nat):Int)),(8,ya yb ((n:Nat):Int)),(7,.slice p n cap)]) (fun x=>[]) (fun x=>[atF b2 o3 [ya yb (l.getD i 0)],slF (rI .i64) p cap l]) ?_ ?_
  ·
   refine za<|e_mv rfl<|e_p (zT rfl rfl)<|zO rfl rfl (zS rfl) (fun h5=> ?_) (fun h5=> ?_)
   ·
    refine e_no<|e_no<|e_p (zk rfl rfl)<|zf ?_
    exact zda () (show True from by first|trivial|omega|simp_all) ((.e rfl (congrArg Value.bool cbu) (.of rfl)):SubM _ _) (ho:=(.n:PickO _ _ _)) ((.of [0,1] rfl):SelR _ _ _)
   ·
    refine e_mv rfl<|e_p (zka rfl rfl)<|e_p (zk rfl rfl)<|zf ?_
    exact zda () (show True from by first|trivial|omega|simp_all) ((.e rfl (congrArg Value.bool cbu) (.of rfl)):SubM _ _) (ho:=(.n:PickO _ _ _)) ((.of [0,1] rfl):SelR _ _ _)
  ·
   rintro ⟨⟩ -
   try dsimp only
   refine zA rfl (fun h18=> ?_) (fun h18=> ?_)
   ·
    refine ze<|za<|e_p (zb rfl)<|e_p (zb rfl)<|zf<|zc<|zJ<|zn<|zR<|zn<|zn<|zR<|zn ?_
    exact zsa Tryz.results73 () trivial (zo rfl) (zo rfl) (by rw [Rd.cnt_no (fun k=>by have h9:0≤l.getD i 0∧l.getD i 0≤262144:=k i om;omega)]) (ho:=(.n:PickO _ _ _)) (.n:SelR _ _ _)
   ·
    refine zv<|zc<|za<|e_mv rfl<|e_mv rfl<|e_p (zH (z:=((Rd.sI (Rd.lg l) i)+(l.getD i 0))) rfl rfl (w64 om))<|e_p (zb rfl)<|zf<|zL<|zc<|za<|e_p (zH (z:=(((i+1):Nat):Int)) rfl rfl (w64 om))<|e_mv rfl<|zf<|zba (i+1) (show (i+1)≤n∧∀j,j<(i+1)→0≤Rd.lg l j∧Rd.lg l j≤262144 from by refine ⟨by omega,fun j hj=> ?_⟩;by_cases e:j=i;subst e;show 0≤l.getD j 0∧l.getD j 0≤262144;omega;exact hall j om) (by show n - (i+1)<n - i;omega) ((.e rfl (by first|rfl|(congr 1;omega)|simp_all) (.of rfl)):SubM _ _) (ho:=(.n:PickO _ _ _)) ((.c (j:=1) rfl .n):SelR _ _ _)
 ·
  refine zea<|zi<|zi<|zp<|zc<|ze<|za<|e_mv rfl<|e_p (zb rfl)<|e_p (zb rfl)<|zf<|zc<|zJ ?_
  exact zsa Tryz.results73 () trivial (zo rfl) (zo rfl) (by rw [Rd.cnt_ok (fun j hj=>hall j om),show i=l.length by omega];rfl) (ho:=(.n:PickO _ _ _)) (.n:SelR _ _ _)
theorem zMf {p1:Option Addr} {n1:Nat} {c1:Nat} {l1:List Int} {p2:Option Addr} {n2:Nat} {c2:Nat} {l2:List Int} (hn1:l1.length=n1) (hn2:l2.length=n2):Con yj 38 [.slice p1 n1 c1,.slice p2 n2 c2] [] [slF (rI .i64) p1 c1 l1,slF (rI .i64) p2 c2 l2] (Y:=(Option Addr)×Nat×(List Int)) (fun y=>((Rd.tbC l1 l2)=0→Rd.Tb l1 l2 y.2.2)∧((Rd.tbC l1 l2)≠0→y.2.2=[])) (fun y=> .tuple #[.slice (y.1) (y.2.2.length) (y.2.1),ya yb (Rd.tbC l1 l2)]) (fun y=>[]) (fun y=>[slF (rI .i64) (y.1) (y.2.1) (y.2.2)]):=by
 refine zm Tryz.func38 rfl rfl rfl (fun c=> ?_)
 show RunC _ _ _ _ _ [(0,.slice p1 n1 c1),(1,.slice p2 n2 c2)] [] [slF (rI .i64) p1 c1 l1,slF (rI .i64) p2 c2 l2]
 refine zY 0 rfl (fun hL0=> ?_)
 refine zY 1 rfl (fun hL1=> ?_)
 refine ze<|za<|e_p (zb rfl)<|e_p (zb rfl)<|zf<|zc<|ze<|zDa (X:=Unit) (fun x=>True) (fun x=>[(33,.bool (decide ((((((n1:Nat):Int)=0)∨(4096<((n1:Nat):Int)))∨(((n2:Nat):Int)=0))∨(4096<((n2:Nat):Int))))),(5,ya yb 0),(4,.slice none 0 0),(0,.slice p1 n1 c1),(1,.slice p2 n2 c2)]) (fun x=>[]) (fun x=>[slF (rI .i64) p1 c1 l1,slF (rI .i64) p2 c2 l2]) ?_ ?_
 ·
  refine za<|e_mv rfl<|e_p (zC yd rfl)<|e_p (zpa rfl rfl)<|zO rfl rfl (zS rfl) (fun h1=> ?_) (fun h1=> ?_)
  ·
   refine e_no<|e_no<|e_no<|e_p (zk rfl rfl)<|e_mv rfl<|e_no<|e_no<|e_no<|e_p (zk rfl rfl)<|e_mv rfl<|e_no<|e_no<|e_no<|e_p (zk rfl rfl)<|zf ?_
   exact zda () (show True from by first|trivial|omega|simp_all) ((.e rfl (congrArg Value.bool cbu) (.of rfl)):SubM _ _) (ho:=(.n:PickO _ _ _)) ((.of [0,1] rfl):SelR _ _ _)
  ·
   refine e_mv rfl<|e_p (zC yd rfl)<|e_p (zka rfl rfl)<|e_p (zk rfl rfl)<|zO rfl rfl (zS rfl) (fun h2=> ?_) (fun h2=> ?_)
   ·
    refine e_no<|e_no<|e_no<|e_p (zk rfl rfl)<|e_mv rfl<|e_no<|e_no<|e_no<|e_p (zk rfl rfl)<|zf ?_
    exact zda () (show True from by first|trivial|omega|simp_all) ((.e rfl (congrArg Value.bool cbu) (.of rfl)):SubM _ _) (ho:=(.n:PickO _ _ _)) ((.of [0,1] rfl):SelR _ _ _)
   ·
    refine e_mv rfl<|e_p (zC yd rfl)<|e_p (zpa rfl rfl)<|e_p (zk rfl rfl)<|zO rfl rfl (zS rfl) (fun h3=> ?_) (fun h3=> ?_)
    ·
     refine e_no<|e_no<|e_no<|e_p (zk rfl rfl)<|zf ?_
     exact zda () (show True from by first|trivial|omega|simp_all) ((.e rfl (congrArg Value.bool cbu) (.of rfl)):SubM _ _) (ho:=(.n:PickO _ _ _)) ((.of [0,1] rfl):SelR _ _ _)
    ·
     refine e_mv rfl<|e_p (zC yd rfl)<|e_p (zka rfl rfl)<|e_p (zk rfl rfl)<|zf ?_
     exact zda () (show True from by first|trivial|omega|simp_all) ((.e rfl (congrArg Value.bool cbu) (.of rfl)):SubM _ _) (ho:=(.n:PickO _ _ _)) ((.of [0,1] rfl):SelR _ _ _)
 ·
  rintro ⟨⟩ -
  try dsimp only
  refine zA rfl (fun h33=> ?_) (fun h33=> ?_)
  ·
   refine ze<|za<|e_p (zb rfl)<|e_p (zb rfl)<|zf<|zc<|zJ<|zn<|zwb (rI .i64) ?_
   have hof:(Rd.tbC l1 l2)=3:=if_neg om
   exact zsa yn (none,0,([]:List Int)) (⟨fun k=>absurd (hof.symm.trans k) dd,fun _=>rfl⟩) (zo rfl) (zo rfl) (by rw [hof];rfl) (ho:=(.n:PickO _ _ _)) ((.c (j:=0) rfl .n):SelR _ _ _)
  ·
   have hle:1≤l1.length∧l1.length≤4096∧1≤l2.length∧l2.length≤4096:=by omega
   refine zv<|zc<|ze<|za<|e_mv rfl<|zP rfl rfl (.c rfl .n) ce73 (zyc (p:=p1) (n:=n1) (cap:=c1) (l:=l1) (hn:=ass) (hn9:=cbo)) (.c (j:=0) rfl .n)<|e_mv rfl<|e_p (zr rfl rfl)<|e_p (zr rfl rfl)<|e_p (zb rfl)<|e_p (zb rfl)<|zf<|zc<|ze<|za<|e_mv rfl<|zP rfl rfl (.c rfl .n) ce73 (zyc (p:=p2) (n:=n2) (cap:=c2) (l:=l2) (hn:=ass) (hn9:=cbo)) (.c (j:=1) rfl .n)<|e_mv rfl<|e_p (zr rfl rfl)<|e_p (zr rfl rfl)<|e_p (zb rfl)<|e_p (zb rfl)<|zf<|zc<|ze<|zDa (X:=Unit) (fun x=>True) (fun x=>[(49,.bool (decide (((Rd.cntV l1).2≠0)∨((Rd.cntV l2).2≠0)))),(8,ya yb ((Rd.cntV l2).1)),(6,ya yb ((Rd.cntV l1).1)),(5,ya yb 0),(4,.slice none 0 0),(0,.slice p1 n1 c1),(1,.slice p2 n2 c2)]) (fun x=>[]) (fun x=>[slF (rI .i64) p1 c1 l1,slF (rI .i64) p2 c2 l2]) ?_ ?_
   ·
    refine za<|e_mv rfl<|e_p (zwa rfl rfl)<|zO rfl rfl (zS rfl) (fun h4=> ?_) (fun h4=> ?_)
    ·
     refine e_no<|e_no<|e_p (zk rfl rfl)<|zf ?_
     exact zda () (show True from by first|trivial|omega|simp_all) ((.e rfl (congrArg Value.bool cbu) (.of rfl)):SubM _ _) (ho:=(.n:PickO _ _ _)) ((.of [0,1] rfl):SelR _ _ _)
    ·
     refine e_mv rfl<|e_p (zwa rfl rfl)<|e_p (zk rfl rfl)<|zf ?_
     exact zda () (show True from by first|trivial|omega|simp_all) ((.e rfl (congrArg Value.bool cbu) (.of rfl)):SubM _ _) (ho:=(.n:PickO _ _ _)) ((.of [0,1] rfl):SelR _ _ _)
   ·
    rintro ⟨⟩ -
    try dsimp only
    refine zA rfl (fun h49=> ?_) (fun h49=> ?_)
    ·
     refine ze<|za<|e_p (zb rfl)<|e_p (zb rfl)<|zf<|zc<|zJ<|zn<|zwb (rI .i64) ?_
     have hof:(Rd.tbC l1 l2)=2:=by unfold Rd.tbC;rw [if_pos hle,if_neg (fun k=>by rw [Rd.cnt_ok k.1,Rd.cnt_ok k.2] at h49;exact h49.elim (fun z=>z rfl) (fun z=>z rfl))]
     exact zsa yn (none,0,([]:List Int)) (⟨fun k=>absurd (hof.symm.trans k) dd,fun _=>rfl⟩) (zo rfl) (zo rfl) (by rw [hof];rfl) (ho:=(.n:PickO _ _ _)) ((.c (j:=0) rfl .n):SelR _ _ _)
    ·
     have ho1:Rd.okH l1:=Decidable.byContradiction fun k=>h49 (.inl (by rw [Rd.cnt_no k];decide))
     have ho2:Rd.okH l2:=Decidable.byContradiction fun k=>h49 (.inr (by rw [Rd.cnt_no k];decide))
     have e5:(Rd.cntV l1).1=Rd.tot l1:=by rw [Rd.cnt_ok ho1]
     rw [e5]
     have e6:(Rd.cntV l2).1=Rd.tot l2:=by rw [Rd.cnt_ok ho2]
     rw [e6]
     have ht1:=Rd.tot_nn ho1
     have ht2:=Rd.tot_nn ho2
     refine zv<|zc<|ze<|zDa (X:=Unit) (fun x=>True) (fun x=>[(55,.bool (decide ((Rd.tot l1=0)∨(Rd.tot l2=0)))),(8,ya yb (Rd.tot l2)),(6,ya yb (Rd.tot l1)),(5,ya yb 0),(4,.slice none 0 0),(0,.slice p1 n1 c1),(1,.slice p2 n2 c2)]) (fun x=>[]) (fun x=>[slF (rI .i64) p1 c1 l1,slF (rI .i64) p2 c2 l2]) ?_ ?_
     ·
      refine za<|e_mv rfl<|e_p (zpa rfl rfl)<|zO rfl rfl (zS rfl) (fun h7=> ?_) (fun h7=> ?_)
      ·
       refine e_no<|e_no<|e_p (zk rfl rfl)<|zf ?_
       exact zda () (show True from by first|trivial|omega|simp_all) ((.e rfl (congrArg Value.bool cbu) (.of rfl)):SubM _ _) (ho:=(.n:PickO _ _ _)) ((.of [0,1] rfl):SelR _ _ _)
      ·
       refine e_mv rfl<|e_p (zpa rfl rfl)<|e_p (zk rfl rfl)<|zf ?_
       exact zda () (show True from by first|trivial|omega|simp_all) ((.e rfl (congrArg Value.bool cbu) (.of rfl)):SubM _ _) (ho:=(.n:PickO _ _ _)) ((.of [0,1] rfl):SelR _ _ _)
     ·
      rintro ⟨⟩ -
      try dsimp only
      refine zA rfl (fun h55=> ?_) (fun h55=> ?_)
      ·
       refine ze<|za<|e_p (zb rfl)<|e_p (zb rfl)<|zf<|zc<|zJ<|zn<|zwb (rI .i64) ?_
       have hof:(Rd.tbC l1 l2)=13:=by unfold Rd.tbC;rw [if_pos hle,if_pos ⟨ho1,ho2⟩,if_neg (fun k=>h55.elim k.1 k.2)]
       exact zsa yn (none,0,([]:List Int)) (⟨fun k=>absurd (hof.symm.trans k) dd,fun _=>rfl⟩) (zo rfl) (zo rfl) (by rw [hof];rfl) (ho:=(.n:PickO _ _ _)) ((.c (j:=0) rfl .n):SelR _ _ _)
      ·
       have hof:(Rd.tbC l1 l2)=0:=by unfold Rd.tbC;rw [if_pos hle,if_pos ⟨ho1,ho2⟩,if_pos ⟨fun k=>h55 (.inl k),fun k=>h55 (.inr k)⟩]
       refine zv<|zc<|ze<|za<|e_mv rfl<|e_p (zC yd rfl)<|zta rfl rfl (zig (r:=rI .i64) (k:=n1) yd inf3 rfl rfl rfl rfl om om rfl dd) (fun b8 _=> ?_)
       refine e_p (zb rfl)<|zf<|zc<|ze ?_
       have e9:([]:List Int)=([]:List Int):=by rfl
       rw [e9]
       refine zca (OW:=[]) (O:=[rowA 3 (rI .i64) (some ⟨b8,0,none⟩) n1 ([]:List Int)]) 100000 mixed (.then .ret) kr<|e_dm 0 rfl rfl rfl<|zqa (x0:=(l2.getD 0 0)) 1 rfl rfl kr kr 1 0 rfl yd sz3 rfl rfl rfl cbs rfl rfl (gD (d:=0) om) (fun b10 o11 hok12=> ?_)
       replace hok12:=zN.1 hok12
       refine e_u 2 rfl rfl (zj (j:=0) 0 ty3 rfl rfl rfl rfl)<|e_pv 3 rfl rfl (zb rfl)<|e_pv 4 rfl rfl (zb rfl)<|e_pv 5 rfl rfl (zb rfl)<|zZ kr<|zc<|ze<|ze<|za<|e_mv rfl<|e_p (zC yd rfl)<|e_mv rfl<|zf<|zc<|zt<|zga (X:=Nat×Nat×(List Int)×(Option Addr)×Nat) (fun x:Nat×Nat×(List Int)×(Option Addr)×Nat=>x.1≤n1∧x.2.1<n2∧x.2.2.1.length=x.1∧(∀j,j<x.1→∃k:Nat,x.2.2.1.getD j 0=(k:Int)∧Rd.At l1 l2 j k)∧(∀j,j<x.2.1→Rd.sI (Rd.lg l2) (j+1)*Rd.tot l1<Rd.sI (Rd.lg l1) x.1*Rd.tot l2)) (fun x=>[(10,.slice (x.2.2.2.1) (x.1) (x.2.2.2.2)),(13,ya yb (Rd.sI (Rd.lg l1) x.1)),(12,ya yb (Rd.sI (Rd.lg l2) (x.2.1+1))),(11,ya yb ((x.2.1:Nat):Int)),(64,ya yb ((x.1:Nat):Int)),(63,ya yb ((n1:Nat):Int)),(62,.slice p1 n1 c1),(8,ya yb (Rd.tot l2)),(6,ya yb (Rd.tot l1)),(5,ya yb 0),(4,.slice none 0 0),(1,.slice p2 n2 c2)]) (fun x=>[rowA 3 (rI .i64) (x.2.2.2.1) (x.2.2.2.2) (x.2.2.1)]) (fun x=>[atF b10 o11 [ya yb (l2.getD 0 0)],slF (rI .i64) p1 c1 l1,slF (rI .i64) p2 c2 l2]) (fun x:Nat×Nat×(List Int)×(Option Addr)×Nat=>n1 - x.1) (0,0,([]:List Int),some ⟨b8,0,none⟩,n1) (show 0≤n1∧0<n2∧([]:List Int).length=0∧(∀j,j<0→∃k:Nat,([]:List Int).getD j 0=(k:Int)∧Rd.At l1 l2 j k)∧(∀j,j<0→Rd.sI (Rd.lg l2) (j+1)*Rd.tot l1<Rd.sI (Rd.lg l1) 0*Rd.tot l2) from by exact ⟨Nat.zero_le _,by omega,rfl,fun j h=>by omega,fun j h=>by omega⟩) ((.c rfl (.e rfl rfl (.e rfl (by show Value.int .i64 (l2.getD 0 0)=Value.int .i64 (0+Rd.lg l2 0);rw [Int.zero_add];rfl) (.e rfl (by first|rfl|(congr 1;omega)|simp_all) (.e rfl (by first|rfl|(congr 1;omega)|simp_all) (.of rfl)))))):SubM _ _) (ho:=((.c (i:=0) rfl .n):PickO _ _ _)) ((.of [0,1,2] rfl):SelR _ _ _) ?_
       rintro ⟨i,tt,o,pO,cO⟩ hI
       replace hI:i≤n1∧tt<n2∧o.length=i∧(∀j,j<i→∃k:Nat,o.getD j 0=(k:Int)∧Rd.At l1 l2 j k)∧(∀j,j<tt→Rd.sI (Rd.lg l2) (j+1)*Rd.tot l1<Rd.sI (Rd.lg l1) i*Rd.tot l2):=hI
       try dsimp only
       obtain ⟨hi,htt,hol,hoo,hno⟩:=hI
       refine ze<|za<|e_p (zT rfl rfl)<|zf<|zc<|ze<|zA rfl (fun h65=> ?_) (fun h65=> ?_)
       ·
        have hS:=Rd.sI_nn ho1 (show i+1≤l1.length by omega)
        have hS0:=Rd.sI_nn ho1 (show i≤l1.length by omega)
        have hv1:=ho1 i om
        have hv1b:Rd.lg l1 i=l1.getD i 0:=rfl
        refine zv<|zc<|ze<|zt<|ze<|za<|zV (x0:=(l1.getD i 0)) 1 i rfl yd sz3 rfl rfl rfl cbs rfl rfl (gD (d:=0) om) (fun b13 o14 hok15=> ?_)
        replace hok15:=zN.1 hok15
        refine e_ru (zj (j:=0) 0 ty3 rfl rfl rfl rfl)<|e_p (zb rfl)<|zf<|zc<|ze<|za<|e_mv rfl<|e_mv rfl<|e_p (zH (z:=((Rd.sI (Rd.lg l1) i)+(l1.getD i 0))) rfl rfl (w64 om)) ?_
        have e16:(Rd.sI (Rd.lg l1) i)+(l1.getD i 0)=Rd.sI (Rd.lg l1) (i+1):=by rfl
        rw [e16]
        refine e_p (zb rfl)<|zf<|zc<|ze<|zt<|zga (X:=Nat) (fun x:Nat=>x<n2∧∀j,j<x→Rd.sI (Rd.lg l2) (j+1)*Rd.tot l1<Rd.sI (Rd.lg l1) (i+1)*Rd.tot l2) (fun x=>[(12,ya yb (Rd.sI (Rd.lg l2) (x+1))),(11,ya yb ((x:Nat):Int)),(13,ya yb (Rd.sI (Rd.lg l1) (i+1))),(10,.slice pO i cO),(64,ya yb ((i:Nat):Int)),(63,ya yb ((n1:Nat):Int)),(62,.slice p1 n1 c1),(8,ya yb (Rd.tot l2)),(6,ya yb (Rd.tot l1)),(5,ya yb 0),(4,.slice none 0 0),(1,.slice p2 n2 c2)]) (fun x=>[rowA 3 (rI .i64) pO cO o]) (fun x=>[atF b13 o14 [ya yb (l1.getD i 0)],atF b10 o11 [ya yb (l2.getD 0 0)],slF (rI .i64) p1 c1 l1,slF (rI .i64) p2 c2 l2]) (fun x:Nat=>n2 - x) tt (show tt<n2∧∀j,j<tt→Rd.sI (Rd.lg l2) (j+1)*Rd.tot l1<Rd.sI (Rd.lg l1) (i+1)*Rd.tot l2 from by exact ⟨htt,Rd.no_at ho1 ho2 om hno⟩) ((.of rfl):SubM _ _) (ho:=((.c (i:=0) rfl .n):PickO _ _ _)) ((.of [0,1,2,3] rfl):SelR _ _ _) ?_
        rintro t2 hT
        replace hT:t2<n2∧∀j,j<t2→Rd.sI (Rd.lg l2) (j+1)*Rd.tot l1<Rd.sI (Rd.lg l1) (i+1)*Rd.tot l2:=hT
        try dsimp only
        obtain ⟨ht2,hn2a⟩:=hT
        have hP:=Rd.sI_nn ho2 (show t2+1≤l2.length by omega)
        have hm1:=Bl.mul_b (x:=Rd.sI (Rd.lg l2) (t2+1)) (y:=Rd.tot l1) (m:=1073741824) (n:=1073741824) om om
        have hm2:=Bl.mul_b (x:=Rd.sI (Rd.lg l1) (i+1)) (y:=Rd.tot l2) (m:=1073741824) (n:=1073741824) om om
        refine ze<|ze<|za<|e_mv rfl<|e_mv rfl<|e_p (zza (z:=((Rd.sI (Rd.lg l2) (t2+1))*Rd.tot l1)) rfl rfl (w64 om))<|e_mv rfl<|e_mv rfl<|e_p (zza (z:=((Rd.sI (Rd.lg l1) (i+1))*Rd.tot l2)) rfl rfl (w64 om))<|e_p (zT rfl rfl)<|zf<|zc<|zA rfl (fun h77=> ?_) (fun h77=> ?_)
        ·
         have hmore:=Rd.more ho1 ho2 (show i<l1.length by omega) (show t2<l2.length by omega) h77
         have hv2:=ho2 (t2+1) hmore
         have hv2b:Rd.lg l2 (t2+1)=l2.getD (t2+1) 0:=rfl
         have hP2:=Rd.sI_nn ho2 (show t2+2≤l2.length by omega)
         refine zv<|zc<|zt<|ze<|za<|e_mv rfl<|e_p (zH (z:=(((t2+1):Nat):Int)) rfl rfl (w64 om))<|e_p (zb rfl)<|zf<|zc<|za<|e_mv rfl<|e_mv rfl<|e_mv rfl<|zV (x0:=(l2.getD (t2+1) 0)) 3 (t2+1) rfl yd sz3 rfl rfl rfl cbs rfl rfl (gD (d:=0) om) (fun b17 o18 hok19=> ?_)
         replace hok19:=zN.1 hok19
         refine e_ru (zj (j:=0) 0 ty3 rfl rfl rfl rfl)<|e_p (zH (z:=((Rd.sI (Rd.lg l2) (t2+1))+(l2.getD (t2+1) 0))) rfl rfl (w64 om))<|e_p (zb rfl)<|zf<|zL<|zba (t2+1) (show (t2+1)<n2∧∀j,j<(t2+1)→Rd.sI (Rd.lg l2) (j+1)*Rd.tot l1<Rd.sI (Rd.lg l1) (i+1)*Rd.tot l2 from by refine ⟨by omega,fun j hj=> ?_⟩;by_cases e:j=t2;subst e;exact h77;exact hn2a j om) (by show n2 - (t2+1)<n2 - t2;omega) ((.e rfl (by first|rfl|(congr 1;omega)|simp_all) (.of rfl)):SubM _ _) (ho:=((.c (i:=0) rfl .n):PickO _ _ _)) ((.of [1,2,3,4] rfl):SelR _ _ _)
        ·
         refine zea<|zi<|zi<|zp<|zc<|za<|e_mv rfl<|e_mv rfl<|zta rfl rfl (zW (enc:=fun z:Int=>[ya yb z]) (ok:=InK .i64) (h1:=fun _=>rfl) (h2:=fun _=>rfl) (k:=1) yd inf3 rfl dd dd dd (.c (x:=((t2:Nat):Int)) rfl rfl (fun _ _=>by exact zN.2 om) .n)) (fun b20 _=> ?_)
         refine zja 0 rfl .z<|zya 1 rfl rfl rfl (zva 0 rfl yd inf3 dd rfl rfl cbs rfl cbs om om) (fun _=>(.s .z)) ?_
         rintro ⟨p21,c22⟩ -
         dsimp only [aq,nq,cq]
         refine e_p (zb rfl)<|zf<|zL<|zc<|za<|e_p (zH (z:=(((i+1):Nat):Int)) rfl rfl (w64 om))<|e_mv rfl<|zf<|zba ((i+1),t2,(o++([((t2:Nat):Int)])),p21,c22) (show (i+1)≤n1∧t2<n2∧(o++([((t2:Nat):Int)])).length=(i+1)∧(∀j,j<(i+1)→∃k:Nat,(o++([((t2:Nat):Int)])).getD j 0=(k:Int)∧Rd.At l1 l2 j k)∧(∀j,j<t2→Rd.sI (Rd.lg l2) (j+1)*Rd.tot l1<Rd.sI (Rd.lg l1) (i+1)*Rd.tot l2) from by exact ⟨by omega,by omega,(Rd.Tb_snoc hol hoo ⟨by omega,by omega,hn2a⟩).1,(Rd.Tb_snoc hol hoo ⟨by omega,by omega,hn2a⟩).2,hn2a⟩) (by show n1 - (i+1)<n1 - i;omega) ((.e rfl (by first|rfl|(congr 1;omega)|simp_all) (.of rfl)):SubM _ _) (ho:=((.c (i:=1) rfl .n):PickO _ _ _)) ((.of [2,3,4] rfl):SelR _ _ _)
       ·
        refine zea<|zi<|zi<|zp<|zc<|ze<|za<|e_mv rfl<|e_p (zb rfl)<|e_p (zb rfl)<|zf<|zc<|zJ<|zbb 0 rfl .z ?_
        exact zsa yn (pO,cO,o) (⟨fun _=>⟨hol.trans om,fun j hj=>hoo j om⟩,fun k=>absurd hof k⟩) (zo rfl) (zo rfl) (by rw [hof,hol]) (ho:=(.n:PickO _ _ _)) ((.c (j:=0) rfl .n):SelR _ _ _)
theorem zMa {z1:Int} {z2:Int} (hz1: -9223372036854775808≤z1∧z1≤9223372036854775807) (hz2: -9223372036854775808≤z2∧z2≤9223372036854775807) (hy:z2≠0):Con yj 25 [ya yb z1,ya yb z2] [] [] (Y:=Wd×Wd) (fun y=>True) (fun y=> .agg #[y.1.b,y.1.l,y.2.b,y.2.l]) (fun y=>[]) (fun y=>[qF true y.1 y.2 (Rat.divInt z1 z2)]):=by
 refine zm Tryz.func25 rfl rfl rfl (fun c=> ?_)
 show RunC _ _ _ _ _ [(0,ya yb z1),(1,ya yb z2)] [] []
 refine ze<|za<|zK rfl rfl (zw zr28 rfl) (fun b1=> ?_)
 refine zf<|zc<|ze<|za<|e_mv rfl<|e_mv rfl<|zu rfl rfl (.c rfl (.c rfl .n)) ce62 (zJe (z1:=z1) (z2:=z2) (hz1:=ass) (hz2:=ass) (hy:=ass)) (.n) ?_
 rintro ⟨w32,w43⟩ -
 dsimp only [aq,nq,cq]
 refine e_mv rfl<|e_p (zr rfl rfl)<|e_p (zr rfl rfl)<|zK rfl rfl (zw zr28 rfl) (fun b4=> ?_)
 refine zl 0 rfl rfl rfl rfl rfl sz28 rfl (.t4 .nil) .z<|e_p (zb rfl)<|zf<|zc<|ze<|za<|e_ru (zd 0 ty28 rfl rfl (.t4 .nil))<|zl 1 rfl rfl rfl rfl rfl sz28 rfl (.t4 .nil) (.s .z)<|zf<|zc<|zJ ?_
 exact zy Tryz.results25 (w32,w43) trivial (zq 1 ty28 rfl rfl (.t4 .nil)) rfl (ho:=(.n:PickO _ _ _)) ((.c (j:=0) rfl .n):SelR _ _ _)
end Go.Proofs.YtkohlohbogpooaaGreat.Sp
namespace Go.Proofs.YtkohlohbogpooaaGreat.Sp
open Go
set_option linter.unusedVariables false
set_option maxRecDepth 100000
set_option maxHeartbeats 8000000
theorem zud {p1:Option Addr} {n1:Nat} {c1:Nat} {l1:List Rat} {p2:Option Addr} {n2:Nat} {c2:Nat} {l2:List Rat} (hn1:l1.length=n1) (hn2:l2.length=n2) (hl:∀i,i<n1→i<n2→yk (l1.getD i 0)+yk (l2.getD i 0)+1≤1099511627776):Con yj 48 [.slice p1 n1 c1,.slice p2 n2 c2] [] [slF rQ p1 c1 l1,slF rQ p2 c2 l2] (Y:=Unit) (fun y=>True) (fun y=> .bool (decide (l1=l2))) (fun y=>[]) (fun y=>[]):=by
 refine zm Tryz.func48 rfl rfl rfl (fun c=> ?_)
 show RunC _ _ _ _ _ [(0,.slice p1 n1 c1),(1,.slice p2 n2 c2)] [] [slF rQ p1 c1 l1,slF rQ p2 c2 l2]
 refine zY 0 rfl (fun hL0=> ?_)
 refine zY 1 rfl (fun hL1=> ?_)
 refine ze<|za<|e_p (zb rfl)<|zf<|zc<|ze<|ze<|za<|e_mv rfl<|e_p (zC yf rfl)<|e_mv rfl<|e_p (zC yf rfl)<|e_p (zwa rfl rfl)<|zf<|zc<|zA rfl (fun hne=> ?_) (fun hne=> ?_)
 ·
  refine ze<|za<|e_p (zb rfl)<|zf<|zc<|zJ<|zn ?_
  exact zy Tryz.results48 () trivial (zo rfl) (congrArg Value.bool (decide_eq_false (fun e=>hne (by rw [← hn1,←hn2,e])))) (ho:=(.n:PickO _ _ _)) (.n:SelR _ _ _)
 ·
  refine zv<|zc<|ze<|ze<|za<|e_p (zb rfl)<|zf<|zc<|zt<|zga (X:=Nat) (fun x:Nat=>x≤n1∧∀j,j<x→l1.getD j 0=l2.getD j 0) (fun x=>[(5,ya yb ((x:Nat):Int)),(0,.slice p1 n1 c1),(1,.slice p2 n2 c2)]) (fun x=>[]) (fun x=>[slF rQ p1 c1 l1,slF rQ p2 c2 l2]) (fun x:Nat=>n1 - x) 0 (show 0≤n1∧∀j,j<0→l1.getD j 0=l2.getD j 0 from by exact ⟨Nat.zero_le _,fun j h=>by omega⟩) ((.e rfl (by first|rfl|(congr 1;omega)|simp_all) (.c rfl (.c rfl .n))):SubM _ _) (ho:=(.n:PickO _ _ _)) ((.of [0,1] rfl):SelR _ _ _) ?_
  rintro i hI
  replace hI:i≤n1∧∀j,j<i→l1.getD j 0=l2.getD j 0:=hI
  try dsimp only
  obtain ⟨hi,hall⟩:=hI
  refine ze<|ze<|za<|e_mv rfl<|e_mv rfl<|e_p (zC yf rfl)<|e_p (zT rfl rfl)<|zf<|zc<|zA rfl (fun h1=> ?_) (fun h1=> ?_)
  ·
   refine zv<|zc<|ze<|zt<|ze<|zca (OW:=[]) (O:=[]) 100000 mixed (.then (.block (.then (.then (.block (.then .ret)))))) kr<|e_dm 0 rfl rfl rfl<|e_dm 1 rfl rfl rfl<|d_vl 2 rfl rfl kr kr rfl rfl (zia (x0:=(l1.getD i (0:Rat))) 0 i rfl yf sz28 rfl cbs rfl rfl (gD (d:=(0:Rat)) om)) ?_
   rintro ⟨b2,o3,w4,w5⟩ -
   dsimp only [aq,nq,cq]
   refine zxb open_rQ<|e_u 3 rfl rfl (zaa (j:=0) 0 ty28 rfl rfl rfl (.t4 .nil))<|e_dm 4 rfl rfl rfl<|e_dm 5 rfl rfl rfl<|d_vl 6 rfl rfl kr kr rfl rfl (zia (x0:=(l2.getD i (0:Rat))) 3 i rfl yf sz28 rfl cbs rfl rfl (gD (d:=(0:Rat)) om)) ?_
   rintro ⟨b6,o7,w8,w9⟩ -
   dsimp only [aq,nq,cq]
   refine zxb open_rQ<|e_u 7 rfl rfl (zaa (j:=0) 0 ty28 rfl rfl rfl (.t4 .nil))<|e_one 8 (zTa rfl rfl rfl rfl (.c rfl (.c rfl .n)) ce18 (zRb (u1:=w4) (v1:=w5) (q1:=(l1.getD i (0:Rat))) (u2:=w8) (v2:=w9) (q2:=(l2.getD i (0:Rat))) (hl:=by first|rfl|assumption|exact hl i om om|omega)) (.c (j:=3) rfl (.c (j:=1) rfl .n)) ?_)
   refine e_pv 9 rfl rfl (zub rfl)<|zZ kr<|zc<|zA rfl (fun hd=> ?_) (fun hd=> ?_)
   ·
    refine ze<|za<|e_p (zb rfl)<|zf<|zc<|zJ<|zR<|zn<|zn<|zR<|zn ?_
    exact zy Tryz.results48 () trivial (zo rfl) (congrArg Value.bool (decide_eq_false (fun e=>hd (by rw [e])))) (ho:=(.n:PickO _ _ _)) (.n:SelR _ _ _)
   ·
    refine zv<|zL<|zc<|za<|e_mv rfl<|e_p (zH (z:=(((i+1):Nat):Int)) rfl rfl (w64 om))<|e_p (zb rfl)<|zf<|zba (i+1) (show (i+1)≤n1∧∀j,j<(i+1)→l1.getD j 0=l2.getD j 0 from by refine ⟨by omega,fun j hj=> ?_⟩;by_cases e:j=i;subst e;exact Decidable.not_not.1 hd;exact hall j om) (by show n1 - (i+1)<n1 - i;omega) ((.of rfl):SubM _ _) (ho:=(.n:PickO _ _ _)) ((.of [4,5] rfl):SelR _ _ _)
  ·
   refine zea<|zi<|zi<|zp<|zc<|ze<|za<|e_p (zb rfl)<|zf<|zc<|zJ ?_
   exact zy Tryz.results48 () trivial (zo rfl) (congrArg Value.bool (decide_eq_true (Big.ext_getR om (fun j hj=>hall j om)))) (ho:=(.n:PickO _ _ _)) (.n:SelR _ _ _)
end Go.Proofs.YtkohlohbogpooaaGreat.Sp
namespace Go.Proofs.YtkohlohbogpooaaGreat.Rd
open Mx
set_option linter.unusedVariables false
structure Cm where
  (a b d w:Int)
deriving DecidableEq
def c0:Cm:=⟨0,0,0,0⟩
def bad (n:Int) (c:Cm):Prop:=c.a<0∨n≤c.a∨c.b<0∨n≤c.b∨c.d< -65535∨65535<c.d∨c.w<1∨4096<c.w
instance (n:Int) (c:Cm):Decidable (bad n c):=inferInstanceAs (Decidable (_∨_))
def cc (n:Int) (c:Cm):Int:=if bad n c then 2 else if c.a=c.b then 1 else 0
def cfst (n:Int):List Cm→Int
  |[]=>0
  |c :: l=>if cc n c=0 then cfst n l else cc n c
theorem cfst_at {n:Int}:∀{l:List Cm} {i:Nat},(∀j,j<i→cc n (l.getD j c0)=0)→i<l.length→cc n (l.getD i c0)≠0→cfst n l=cc n (l.getD i c0)
  |[],i,_,h,_=>absurd h (by simp)
  |c :: l,0,_,_,h=>by
    have h':¬cc n c=0:=h
    unfold cfst;rw [if_neg h'];rfl
  |c :: l,i+1,h,hi,k=>by
    have h0:cc n c=0:=h 0 (by omega)
    unfold cfst;rw [if_pos h0]
    exact cfst_at (l:=l) (fun j hj=>h (j+1) (by omega)) (by simpa using hi) k
theorem cfst_all {n:Int}:∀{l:List Cm},(∀j,j<l.length→cc n (l.getD j c0)=0)→cfst n l=0
  |[],_=>rfl
  |c :: l,h=>by
    have h0:cc n c=0:=h 0 (by simp)
    unfold cfst;rw [if_pos h0]
    exact cfst_all fun j hj=>h (j+1) (by simpa using hj)
theorem cfst_ok {n:Int}:∀{l:List Cm},cfst n l=0→∀c∈l,cc n c=0
  |[],_,c,hc=>by cases hc
  |x :: l,h,c,hc=>by
    unfold cfst at h
    by_cases k:cc n x=0
    · rw [if_pos k] at h
      rcases List.mem_cons.1 hc with e|e
      · rw [e];exact k
      · exact cfst_ok h c e
    · rw [if_neg k] at h;exact absurd h k
theorem cc_ok {n:Int} {c:Cm} (h:cc n c=0):¬bad n c∧c.a≠c.b:=by
  unfold cc at h
  by_cases k:bad n c
  · rw [if_pos k] at h;exact absurd h (by decide)
  · rw [if_neg k] at h
    refine ⟨k,fun e=> ?_⟩
    rw [if_pos e] at h;exact absurd h (by decide)
def offC (n:Int) (l:List Cm):Int:=if n<1∨16<n∨64<l.length then 3 else cfst n l
structure Ok (n:Nat) (c:Cm):Prop where
  a:c.a.toNat<n
  b:c.b.toNat<n
  a0:0≤c.a
  b0:0≤c.b
  ne:c.a.toNat≠c.b.toNat
  d: -65535≤c.d∧c.d≤65535
  w:1≤c.w∧c.w≤4096
theorem ok_of {n:Nat} {c:Cm} (h:cc (n:Int) c=0):Ok n c:=by
  obtain ⟨h1,h2⟩:=cc_ok h
  unfold bad at h1
  exact ⟨by omega,by omega,by omega,by omega,by omega,by omega,by omega⟩
theorem cc_not {n:Nat} {c:Cm} (h:Ok n c):cc (n:Int) c=0:=by
  have h1:=h.a;have h2:=h.b;have h3:=h.a0;have h4:=h.b0;have h5:=h.ne;have h6:=h.d;have h7:=h.w
  unfold cc;rw [if_neg (by unfold bad;omega),if_neg (by omega)]
def Oks (n:Nat) (l:List Cm):Prop:=∀c∈l,Ok n c
theorem offC_ok {n:Nat} {l:List Cm} (h:offC (n:Int) l=0):1≤n∧n≤16∧l.length≤64∧Oks n l:=by
  unfold offC at h
  by_cases k:(n:Int)<1∨16<(n:Int)∨64<l.length
  · rw [if_pos k] at h;exact absurd h (by decide)
  · rw [if_neg k] at h
    exact ⟨by omega,by omega,by omega,fun c hc=>ok_of (cfst_ok h c hc)⟩
theorem Oks.getD {n:Nat} {l:List Cm} (h:Oks n l) {i:Nat} (hi:i<l.length):Ok n (l.getD i c0):=by
  refine h _ ?_
  rw [List.getD_eq_getElem?_getD,List.getElem?_eq_getElem hi]
  exact List.getElem_mem _
def st (p:List Int) (c:Cm):List Int:=(p.set c.a.toNat (min (p.getD c.a.toNat 0) (p.getD c.b.toNat 0))).set c.b.toNat (min (p.getD c.a.toNat 0) (p.getD c.b.toNat 0))
def rnd (l:List Cm) (p:List Int):List Int:=l.foldl st p
def ids (n:Nat):List Int:=(List.range n).map fun i:Nat=>(i:Int)
def rds (n:Nat) (l:List Cm):Nat→List Int
  |0=>ids n
  |k+1=>rnd l (rds n l k)
def prt (n:Nat) (l:List Cm):List Int:=rds n l n
theorem st_len (p:List Int) (c:Cm):(st p c).length=p.length:=by unfold st;simp
theorem rnd_len:∀(l:List Cm) (p:List Int),(rnd l p).length=p.length
  |[],p=>rfl
  |c :: l,p=>by show (rnd l (st p c)).length=_;rw [rnd_len l,st_len]
theorem ids_len (n:Nat):(ids n).length=n:=by unfold ids;simp
theorem rds_len (n:Nat) (l:List Cm):∀k,(rds n l k).length=n
  |0=>ids_len n
  |k+1=>by show (rnd l _).length=n;rw [rnd_len,rds_len n l k]
theorem prt_len (n:Nat) (l:List Cm):(prt n l).length=n:=rds_len n l n
theorem ids_get {n i:Nat} (h:i<n):(ids n).getD i 0=(i:Int):=by
  unfold ids;rw [List.getD_eq_getElem?_getD,List.getElem?_map,List.getElem?_range h];rfl
theorem st_get {n:Nat} {p:List Int} {c:Cm} (hp:p.length=n) (hc:Ok n c) (i:Nat):(st p c).getD i 0=if i=c.b.toNat∨i=c.a.toNat then min (p.getD c.a.toNat 0) (p.getD c.b.toNat 0) else p.getD i 0:=by
  have h1:=hc.a;have h2:=hc.b
  unfold st
  rw [getD_set (by simp;omega),getD_set (by omega)]
  by_cases e:i=c.b.toNat
  · rw [if_pos e,if_pos (.inl e)]
  · rw [if_neg e]
    by_cases k:i=c.a.toNat
    · rw [if_pos k,if_pos (.inr k)]
    · rw [if_neg k,if_neg (by omega)]
theorem st_le {n:Nat} {p:List Int} {c:Cm} (hp:p.length=n) (hc:Ok n c) (i:Nat):(st p c).getD i 0≤p.getD i 0:=by
  rw [st_get hp hc];split
  · rename_i h;rcases h with h|h <;> rw [h] <;> omega
  · exact Int.le_refl _
theorem rnd_le {n:Nat}:∀{l:List Cm} {p:List Int},Oks n l→p.length=n→∀i,(rnd l p).getD i 0≤p.getD i 0
  |[],p,_,_,i=>Int.le_refl _
  |c :: l,p,h,hp,i=>Int.le_trans (rnd_le (fun x hx=>h x (List.mem_cons_of_mem _ hx)) ((st_len p c).trans hp) i) (st_le hp (h c (List.mem_cons_self ..)) i)
theorem rnd_edge {n:Nat}:∀{l:List Cm} {p:List Int},Oks n l→p.length=n→∀c∈l,(rnd l p).getD c.a.toNat 0≤p.getD c.b.toNat 0∧(rnd l p).getD c.b.toNat 0≤p.getD c.a.toNat 0
  |[],p,_,_,c,hc=>by cases hc
  |x :: l,p,h,hp,c,hc=>by
    have ht:Oks n l:=fun y hy=>h y (List.mem_cons_of_mem _ hy)
    have hx:=h x (List.mem_cons_self ..)
    have hl:=(st_len p x).trans hp
    show (rnd l (st p x)).getD _ 0≤_∧(rnd l (st p x)).getD _ 0≤_
    rcases List.mem_cons.1 hc with e|e
    · subst e
      have h1:=rnd_le ht hl c.a.toNat
      have h2:=rnd_le ht hl c.b.toNat
      rw [st_get hp hx,if_pos (.inr rfl)] at h1
      rw [st_get hp hx,if_pos (.inl rfl)] at h2
      omega
    · obtain ⟨h1, h2⟩ := rnd_edge ht hl c e
      have h3:=st_le hp hx c.a.toNat
      have h4:=st_le hp hx c.b.toNat
      omega
def Cl (v:Int) (l:List Cm) (p:List Int):Prop:=∀c∈l,(p.getD c.a.toNat 0≤v↔p.getD c.b.toNat 0≤v)
theorem rnd_cl {n:Nat} {v:Int}:∀{l:List Cm} {p:List Int},Oks n l→p.length=n→Cl v l p→∀i,(rnd l p).getD i 0≤v↔p.getD i 0≤v
  |[],p,_,_,_,i=>Iff.rfl
  |x :: l,p,h,hp,hc,i=>by
    have ht:Oks n l:=fun y hy=>h y (List.mem_cons_of_mem _ hy)
    have hx:=h x (List.mem_cons_self ..)
    have hl:=(st_len p x).trans hp
    have key:∀i,(st p x).getD i 0≤v↔p.getD i 0≤v:=fun i=>by
      have:=hc x (List.mem_cons_self ..)
      rw [st_get hp hx];split
      · rename_i e;rcases e with e|e <;> rw [e] <;> omega
      · exact Iff.rfl
    show (rnd l (st p x)).getD i 0≤v↔_
    rw [rnd_cl ht hl (fun c hc'=>by rw [key,key];exact hc c (List.mem_cons_of_mem _ hc')) i,key]
def cn (P:Nat→Bool):Nat→Nat
  |0=>0
  |n+1=>cn P n+if P n then 1 else 0
theorem cn_le (P:Nat→Bool):∀n,cn P n≤n
  |0=>Nat.le_refl _
  |n+1=>by have:=cn_le P n;unfold cn;split <;> omega
theorem cn_mono {P Q:Nat→Bool} {n:Nat} (h:∀i,i<n→P i=true→Q i=true):cn P n≤cn Q n:=by
  induction n with
  |zero=>exact Nat.le_refl _
  |succ n ih=>
    have ih:=ih fun i hi=>h i (by omega)
    have h9:=h n (by omega)
    unfold cn
    by_cases hP:P n=true
    · rw [if_pos hP,if_pos (h9 hP)];omega
    · rw [if_neg hP];split <;> omega
theorem cn_lt {P Q:Nat→Bool} {k n:Nat} (h:∀i,i<n→P i=true→Q i=true) (hk:k<n) (h1:P k=false) (h2:Q k=true):cn P n<cn Q n:=by
  induction n with
  |zero=>omega
  |succ n ih=>
    unfold cn
    by_cases e:k=n
    · subst e
      have:=cn_mono (n:=k) fun i hi=>h i (by omega)
      rw [if_neg (by rw [h1];decide),if_pos h2];omega
    · have ih := ih (fun i hi => h i (by omega)) (by omega)
      have h9:=h n (by omega)
      by_cases hP:P n=true
      · rw [if_pos hP,if_pos (h9 hP)];omega
      · rw [if_neg hP];split <;> omega
theorem rds_cl {n:Nat} {v:Int} {l:List Cm} (h:Oks n l) (hv:0≤v) (hn:1≤n):∀k,Cl v l (rds n l k)∨k+1≤cn (fun i=>decide ((rds n l k).getD i 0≤v)) n
  |0=>by
    right
    have:cn (fun _=>false) n<cn (fun i=>decide ((rds n l 0).getD i 0≤v)) n:=cn_lt (k:=0) (fun i _ e=>by cases e) (by omega) rfl (by
      show decide ((ids n).getD 0 0≤v)=true
      rw [ids_get (by omega)];exact decide_eq_true hv)
    omega
  |k+1=>by
    have hl:=rds_len n l k
    rcases rds_cl h hv hn k with ih|ih
    · left
      intro c hc
      show (rnd l _).getD _ 0≤v↔(rnd l _).getD _ 0≤v
      rw [rnd_cl h hl ih,rnd_cl h hl ih];exact ih c hc
    · by_cases hC : Cl v l (rds n l k)
      · left
        intro c hc
        show (rnd l _).getD _ 0≤v↔(rnd l _).getD _ 0≤v
        rw [rnd_cl h hl hC,rnd_cl h hl hC];exact hC c hc
      · right
        have:∃c∈l,¬((rds n l k).getD c.a.toNat 0≤v↔(rds n l k).getD c.b.toNat 0≤v):=by
          apply Classical.byContradiction
          intro hne
          exact hC fun c hc=>Classical.byContradiction fun hx=>hne ⟨c,hc,hx⟩
        obtain ⟨c,hc,hx⟩:=this
        have ho:=h c hc
        obtain ⟨e1,e2⟩:=rnd_edge h hl c hc
        have mono:∀i,i<n→decide ((rds n l k).getD i 0≤v)=true→decide ((rds n l (k+1)).getD i 0≤v)=true:=fun i _ hi=>by
          have:=rnd_le h hl i
          have hi':=of_decide_eq_true hi
          exact decide_eq_true (Int.le_trans this hi')
        by_cases ha:(rds n l k).getD c.a.toNat 0≤v
        · have hb : ¬ (rds n l k).getD c.b.toNat 0 ≤ v := fun z => hx ⟨fun _ => z, fun _ => ha⟩
          have:=cn_lt (k:=c.b.toNat) mono ho.b (decide_eq_false hb) (decide_eq_true (show (rnd l _).getD _ 0≤v by omega))
          omega
        · have hb : (rds n l k).getD c.b.toNat 0 ≤ v := Classical.byContradiction fun z => hx ⟨fun k => absurd k ha, fun k => absurd k z⟩
          have:=cn_lt (k:=c.a.toNat) mono ho.a (decide_eq_false ha) (decide_eq_true (show (rnd l _).getD _ 0≤v by omega))
          omega
theorem rds_nn {n:Nat} {l:List Cm} (h:Oks n l):∀k i,0≤(rds n l k).getD i 0
  |0,i=>by
    show 0≤(ids n).getD i 0
    by_cases hi:i<n
    · rw [ids_get hi];omega
    · rw [List.getD_eq_getElem?_getD,List.getElem?_eq_none (by rw [ids_len];omega)];decide
  |k+1,i=>by
    have key:∀(l':List Cm) (p:List Int),Oks n l'→p.length=n→(∀i,0≤p.getD i 0)→∀i,0≤(rnd l' p).getD i 0:=by
      intro l'
      induction l' with
      |nil=>intro p _ _ hp i;exact hp i
      |cons x l' ih=>
        intro p h' hl hp i
        refine ih (st p x) (fun y hy=>h' y (List.mem_cons_of_mem _ hy)) ((st_len p x).trans hl) (fun i=> ?_) i
        have h1:=hp x.a.toNat;have h2:=hp x.b.toNat
        rw [st_get hl (h' x (List.mem_cons_self ..))];split
        · omega
        · exact hp i
    exact key l _ h (rds_len n l k) (rds_nn h k) i
theorem rds_lt {n:Nat} {l:List Cm} (h:Oks n l):∀k i,i<n→(rds n l k).getD i 0<n
  |0,i,hi=>by show (ids n).getD i 0<_;rw [ids_get hi];omega
  |k+1,i,hi=>Int.lt_of_le_of_lt (rnd_le h (rds_len n l k) i) (rds_lt h k i hi)
theorem prt_eq {n:Nat} {l:List Cm} (h:Oks n l) (hn:1≤n) {c:Cm} (hc:c∈l):(prt n l).getD c.a.toNat 0=(prt n l).getD c.b.toNat 0:=by
  have key:∀v,0≤v→Cl v l (prt n l):=fun v hv=>by
    rcases rds_cl h hv hn n with k|k
    · exact k
    · have:=cn_le (fun i=>decide ((rds n l n).getD i 0≤v)) n;omega
  have h1:=(key _ (rds_nn h n c.a.toNat) c hc).1 (Int.le_refl _)
  have h2:=(key _ (rds_nn h n c.b.toNat) c hc).2 (Int.le_refl _)
  have h1':(prt n l).getD c.b.toNat 0≤(prt n l).getD c.a.toNat 0:=h1
  have h2':(prt n l).getD c.a.toNat 0≤(prt n l).getD c.b.toNat 0:=h2
  omega
end Go.Proofs.YtkohlohbogpooaaGreat.Rd
namespace Go.Proofs.YtkohlohbogpooaaGreat.Rd
open Mx
set_option linter.unusedVariables false
abbrev Fi:=Nat→Nat→Int
def add1 (f:Fi) (a b:Nat) (v:Int):Fi:=fun i j=>if i=a∧j=b then f i j+v else f i j
def uf (f:Fi) (c:Cm):Fi:=add1 (add1 (add1 (add1 f c.a.toNat c.a.toNat c.w) c.b.toNat c.b.toNat c.w) c.a.toNat c.b.toNat (-c.w)) c.b.toNat c.a.toNat (-c.w)
def J0 (p:List Int):Fi:=fun i j=>if p.getD i 0=p.getD j 0 then 1 else 0
def FK (p:List Int) (l:List Cm):Fi:=l.foldl uf (J0 p)
def rs (r:List Int) (c:Cm):List Int:=
  let r1:=r.set c.a.toNat (r.getD c.a.toNat 0+c.w*c.d)
  r1.set c.b.toNat (r1.getD c.b.toNat 0 - c.w*c.d)
def RK (n:Nat) (l:List Cm):List Int:=l.foldl rs (List.replicate n 0)
def mkI (K N:Nat) (f:Fi):List (List Int):=(List.range K).map fun i=>(List.range N).map (f i)
theorem mkI_len (K N:Nat) (f:Fi):(mkI K N f).length=K:=by unfold mkI;simp
theorem mkI_row {K N i:Nat} {f:Fi} (h:i<K):(mkI K N f).getD i []=(List.range N).map (f i):=by
  unfold mkI;rw [List.getD_eq_getElem?_getD,List.getElem?_map,List.getElem?_range h];rfl
theorem mapI_get {N j:Nat} {g:Nat→Int} (h:j<N):((List.range N).map g).getD j 0=g j:=by
  rw [List.getD_eq_getElem?_getD,List.getElem?_map,List.getElem?_range h];rfl
theorem mkI_get {K N i j:Nat} {f:Fi} (h:i<K) (hj:j<N):((mkI K N f).getD i []).getD j 0=f i j:=by rw [mkI_row h,mapI_get hj]
theorem mkI_rl {K N i:Nat} {f:Fi} (h:i<K):((mkI K N f).getD i []).length=N:=by rw [mkI_row h];simp
theorem mkI_set {K N a b:Nat} {f:Fi} {v:Int} (ha:a<K) (hb:b<N):(mkI K N f).set a (((mkI K N f).getD a []).set b (f a b+v))=mkI K N (add1 f a b v):=by
  refine ext_getD [] (by rw [List.length_set,mkI_len,mkI_len]) fun i hi=> ?_
  rw [List.length_set,mkI_len] at hi
  rw [getD_set (by rw [mkI_len];exact ha),mkI_row (f:=add1 f a b v) hi]
  by_cases e:i=a
  · subst e
    rw [if_pos rfl]
    refine ext_getD 0 (by rw [List.length_set,mkI_rl hi];simp) fun j hj=> ?_
    rw [List.length_set,mkI_rl hi] at hj
    rw [getD_set (by rw [mkI_rl hi];exact hb),mapI_get hj,mkI_get hi hj]
    unfold add1
    by_cases k:j=b
    · subst k;rw [if_pos rfl,if_pos ⟨rfl,rfl⟩]
    · rw [if_neg k,if_neg (fun z=>k z.2)]
  · rw [if_neg e, mkI_row hi]
    exact List.map_congr_left fun j _=>by unfold add1;rw [if_neg (fun z=>e z.1)]
theorem mkI_sub {K N a b:Nat} {f:Fi} {v:Int} (ha:a<K) (hb:b<N):(mkI K N f).set a (((mkI K N f).getD a []).set b (f a b - v))=mkI K N (add1 f a b (-v)):=by rw [Int.sub_eq_add_neg];exact mkI_set ha hb
theorem take_fold {α:Type} {β:Type} (g:β→α→β) (z:β) {l:List α} {i:Nat} (d:α) (h:i<l.length):(l.take (i+1)).foldl g z=g ((l.take i).foldl g z) (l.getD i d):=by
  rw [List.take_add_one,List.getElem?_eq_getElem h,List.foldl_append,List.getD_eq_getElem?_getD,List.getElem?_eq_getElem h];rfl
theorem mkI_succ (K N:Nat) (f:Fi):mkI (K+1) N f=mkI K N f++[(List.range N).map (f K)]:=by unfold mkI;rw [List.range_succ,List.map_append];rfl
def fz (i n:Nat) (f:Nat→Int):List Int:=(List.range n).map fun c=>if c<i then f c else 0
theorem fz_len (i n:Nat) (f:Nat→Int):(fz i n f).length=n:=by unfold fz;simp
theorem fz_start (n:Nat) (f:Nat→Int):List.replicate n 0=fz 0 n f:=by
  refine ext_getD 0 (by rw [fz_len,List.length_replicate]) fun c hc=> ?_
  rw [List.length_replicate] at hc
  unfold fz
  rw [mapI_get hc,if_neg (by omega),List.getD_eq_getElem?_getD,List.getElem?_replicate,if_pos hc];rfl
theorem fz_step {i n:Nat} {f:Nat→Int} (hi:i<n):(fz i n f).set i (f i)=fz (i+1) n f:=by
  refine ext_getD 0 (by rw [List.length_set,fz_len,fz_len]) fun c hc=> ?_
  rw [List.length_set,fz_len] at hc
  rw [getD_set (by rw [fz_len];exact hi)]
  unfold fz
  rw [mapI_get hc,mapI_get hc]
  by_cases k:c=i
  · subst k;rw [if_pos rfl,if_pos (by omega)]
  · rw [if_neg k]
    by_cases q:c<i
    · rw [if_pos q,if_pos (by omega)]
    · rw [if_neg q,if_neg (by omega)]
theorem fz_step' {i n:Nat} {f:Nat→Int} {v:Int} (hi:i<n) (hv:f i=v):(fz i n f).set i v=fz (i+1) n f:=by rw [← hv];exact fz_step hi
theorem fz_skip {i n:Nat} {f:Nat→Int} (hi:i<n) (h0:f i=0):fz i n f=fz (i+1) n f:=by
  rw [← fz_step hi,h0]
  refine ext_getD 0 (by rw [List.length_set]) fun c hc=> ?_
  rw [fz_len] at hc
  rw [getD_set (by rw [fz_len];exact hi)]
  by_cases k:c=i
  · subst k;rw [if_pos rfl];unfold fz;rw [mapI_get hc,if_neg (by omega)]
  · rw [if_neg k]
theorem fz_end (n:Nat) (f:Nat→Int):fz n n f=(List.range n).map f:=by
  unfold fz;exact List.map_congr_left fun c hc=>by rw [if_pos (List.mem_range.1 hc)]
theorem rnd_take {l:List Cm} {i:Nat} {p:List Int} (h:i<l.length):rnd (l.take (i+1)) p=st (rnd (l.take i) p) (l.getD i c0):=take_fold st p c0 h
theorem FK_take {l:List Cm} {i:Nat} {p:List Int} (h:i<l.length):FK p (l.take (i+1))=uf (FK p (l.take i)) (l.getD i c0):=take_fold uf _ c0 h
theorem RK_take {l:List Cm} {i n:Nat} (h:i<l.length):RK n (l.take (i+1))=rs (RK n (l.take i)) (l.getD i c0):=take_fold rs _ c0 h
theorem J0_1 {p:List Int} {i j:Nat} (h:p.getD i 0=p.getD j 0):J0 p i j=1:=if_pos h
theorem J0_0 {p:List Int} {i j:Nat} (h:¬p.getD i 0=p.getD j 0):J0 p i j=0:=if_neg h
def fb (f:Fi) (B:Int):Prop:=∀i j,-B≤f i j∧f i j≤B
theorem fb_add {f:Fi} {B v W:Int} {a b:Nat} (h:fb f B) (hv: -W≤v∧v≤W):fb (add1 f a b v) (B+W):=fun i j=>by
  have:=h i j
  unfold add1;split <;> omega
theorem fb_uf {f:Fi} {B:Int} {c:Cm} (h:fb f B) (hw:1≤c.w∧c.w≤4096):fb (uf f c) (B+16384):=fun i j=>by
  have:=fb_add (W:=4096) (v:= -c.w) (a:=c.b.toNat) (b:=c.a.toNat) (fb_add (W:=4096) (v:= -c.w) (a:=c.a.toNat) (b:=c.b.toNat) (fb_add (W:=4096) (v:=c.w) (a:=c.b.toNat) (b:=c.b.toNat) (fb_add (W:=4096) (v:=c.w) (a:=c.a.toNat) (b:=c.a.toNat) h (by omega)) (by omega)) (by omega)) (by omega) i j
  unfold uf;omega
theorem fb_J0 (p:List Int):fb (J0 p) 1:=fun i j=>by unfold J0;split <;> omega
theorem mul_wd {w d:Int} (hw:1≤w∧w≤4096) (hd: -65535≤d∧d≤65535): -268431360≤w*d∧w*d≤268431360:=by
  have h1:0≤w*(65535 - d):=Int.mul_nonneg (by omega) (by omega)
  have h2:0≤w*(d+65535):=Int.mul_nonneg (by omega) (by omega)
  rw [Int.mul_sub] at h1
  rw [Int.mul_add] at h2
  omega
def rb (r:List Int) (B:Int):Prop:=∀i,-B≤r.getD i 0∧r.getD i 0≤B
theorem rb_set {r:List Int} {B v:Int} {k:Nat} (h:rb r B) (hv: -B≤v∧v≤B):rb (r.set k v) B:=fun i=>by
  by_cases hk:k<r.length
  · rw [getD_set hk]; split
    · exact hv
    · exact h i
  · rw [List.set_eq_of_length_le (by omega)];exact h i
theorem rb_up {r:List Int} {B C:Int} (h:rb r B) (k:B≤C):rb r C:=fun i=>by have:=h i;omega
theorem rb_rs {r:List Int} {B:Int} {c:Cm} (h:rb r B) (hw:1≤c.w∧c.w≤4096) (hd: -65535≤c.d∧c.d≤65535):rb (rs r c) (B+536862720):=by
  have h1:=mul_wd hw hd
  have h2:=h c.a.toNat
  have ha:rb (r.set c.a.toNat (r.getD c.a.toNat 0+c.w*c.d)) (B+268431360):=rb_set (rb_up h (by omega)) (by omega)
  have h3:=ha c.b.toNat
  exact rb_set (rb_up ha (by omega)) (by omega)
theorem rb_zero (n:Nat):rb (List.replicate n 0) 0:=fun i=>by
  rw [List.getD_eq_getElem?_getD,List.getElem?_replicate];split <;> exact ⟨Int.le_refl _,Int.le_refl _⟩
theorem FK_fb {p:List Int} {l:List Cm} {n:Nat} (h:Oks n l):∀k,k≤l.length→fb (FK p (l.take k)) (1+16384*k)
  |0,_=>fun i j=>by have:=fb_J0 p i j;show _≤J0 p i j∧J0 p i j≤_;omega
  |k+1,hk=>by
    have ih:=FK_fb (p:=p) h k (by omega)
    unfold FK at ih ⊢
    rw [take_fold uf (J0 p) c0 (by omega)]
    have:=fb_uf ih (h.getD (show k<l.length by omega)).w
    intro i j
    have:=this i j
    omega
theorem RK_rb {l:List Cm} {n:Nat} (h:Oks n l):∀k,k≤l.length→rb (RK n (l.take k)) (536862720*k)
  |0,_=>by have:=rb_zero n;exact rb_up this (by omega)
  |k+1,hk=>by
    have ih:=RK_rb h k (by omega)
    unfold RK at ih ⊢
    rw [take_fold rs _ c0 (by omega)]
    have ho:=h.getD (show k<l.length by omega)
    exact rb_up (rb_rs ih ho.w ho.d) (by omega)
theorem rs_len (r:List Int) (c:Cm):(rs r c).length=r.length:=by unfold rs;simp
theorem RKf_len:∀(l:List Cm) (r:List Int),(l.foldl rs r).length=r.length
  |[],r=>rfl
  |c :: l,r=>by show (l.foldl rs (rs r c)).length=_;rw [RKf_len l,rs_len]
theorem RK_len (n:Nat) (l:List Cm):(RK n l).length=n:=by unfold RK;rw [RKf_len];simp
def S (f:Cm→Rat):List Cm→Rat
  |[]=>0
  |c :: l=>f c+S f l
theorem S_cons (f:Cm→Rat) (c:Cm) (l:List Cm):S f (c :: l)=f c+S f l:=rfl
theorem S_congr {f g:Cm→Rat}:∀{l:List Cm},(∀c∈l,f c=g c)→S f l=S g l
  |[],_=>rfl
  |c :: l,h=>by unfold S;rw [h c (List.mem_cons_self ..),S_congr fun x hx=>h x (List.mem_cons_of_mem _ hx)]
theorem S_add (f g:Cm→Rat):∀l,S (fun c=>f c+g c) l=S f l+S g l
  |[]=>by unfold S;grind
  |c :: l=>by unfold S;rw [S_add f g l];grind
theorem S_mul (k:Rat) (f:Cm→Rat):∀l,S (fun c=>k*f c) l=k*S f l
  |[]=>by unfold S;grind
  |c :: l=>by unfold S;rw [S_mul k f l];grind
theorem S_zero {f:Cm→Rat}:∀{l:List Cm},(∀c∈l,f c=0)→S f l=0
  |[],_=>rfl
  |c :: l,h=>by unfold S;rw [h c (List.mem_cons_self ..),S_zero fun x hx=>h x (List.mem_cons_of_mem _ hx)];grind
theorem S_nn {f:Cm→Rat}:∀{l:List Cm},(∀c∈l,0≤f c)→0≤S f l
  |[],_=>by unfold S;grind
  |c :: l,h=>by
    have h1:=h c (List.mem_cons_self ..)
    have h2:=S_nn fun x hx=>h x (List.mem_cons_of_mem _ hx)
    unfold S;grind
theorem S_all0 {f:Cm→Rat}:∀{l:List Cm},(∀c∈l,0≤f c)→S f l≤0→∀c∈l,f c=0
  |[],_,_,c,hc=>by cases hc
  |x :: l,h,h0,c,hc=>by
    have h1:=h x (List.mem_cons_self ..)
    have h2:=S_nn fun y hy=>h y (List.mem_cons_of_mem _ hy)
    unfold S at h0
    rcases List.mem_cons.1 hc with e|e
    · rw [e];grind
    · exact S_all0 (fun y hy=>h y (List.mem_cons_of_mem _ hy)) (by grind) c e
theorem S_sm (n:Nat) (g:Nat→Cm→Rat):∀l,sm n (fun i=>S (g i) l)=S (fun c=>sm n (fun i=>g i c)) l
  |[]=>sm_zero fun _ _=>rfl
  |c :: l=>by
    unfold S
    rw [← S_sm n g l,←sm_add]
theorem S_snoc (f:Cm→Rat):∀(l:List Cm) (c:Cm),S f (l++[c])=S f l+f c
  |[],c=>by show f c+0=0+f c;grind
  |x :: l,c=>by show f x+S f (l++[c])=f x+S f l+f c;rw [S_snoc f l c];grind
def dl (i:Nat) (k:Int):Rat:=if i=k.toNat then 1 else 0
def xa (x:Nat→Rat) (k:Int):Rat:=x k.toNat
theorem sm_dl {n:Nat} {k:Int} {x:Nat→Rat} (h:k.toNat<n):sm n (fun i=>x i*dl i k)=xa x k:=by
  have:=sm_one (n:=n) (p:=k.toNat) (v:=0) (f:=x) h
  rw [xa,←this]
  exact sm_congr fun i _=>by unfold dl;split <;> grind
theorem add1_sm {n a b i:Nat} {f:Fi} {v:Int} {x:Nat→Rat} (hb:b<n):sm n (fun j=>((add1 f a b v i j:Int):Rat)*x j)=sm n (fun j=>((f i j:Int):Rat)*x j)+(if i=a then (v:Rat)*x b else 0):=by
  by_cases e:i=a
  · rw [if_pos e]
    have:=sm_one (n:=n) (p:=b) (v:=0) (f:=fun j=>(v:Rat)*x j) hb
    rw [← this,←sm_add]
    refine sm_congr fun j _=> ?_
    unfold add1
    by_cases k:j=b
    · rw [if_pos ⟨e,k⟩,if_pos k,Rat.intCast_add];grind
    · rw [if_neg (fun z=>k z.2),if_neg k];grind
  · rw [if_neg e]
    rw [sm_congr fun j _=>by unfold add1;rw [if_neg (fun z=>e z.1)]]
    grind
theorem uf_sm {n i:Nat} {f:Fi} {c:Cm} {x:Nat→Rat} (hc:Ok n c):sm n (fun j=>((uf f c i j:Int):Rat)*x j)=sm n (fun j=>((f i j:Int):Rat)*x j)+(c.w:Rat)*(dl i c.a - dl i c.b)*(xa x c.a - xa x c.b):=by
  have h1:=hc.a;have h2:=hc.b;have h3:=hc.ne
  unfold uf
  rw [add1_sm h1,add1_sm h2,add1_sm h2,add1_sm h1,Rat.intCast_neg]
  unfold dl xa
  by_cases e:i=c.a.toNat
  · have : ¬ i = c.b.toNat := by omega
    rw [if_pos e,if_neg this,if_pos e,if_neg this,if_pos e,if_neg this];grind
  · by_cases k : i = c.b.toNat
    · rw [if_neg e,if_pos k,if_neg e,if_pos k,if_neg e,if_pos k];grind
    · rw [if_neg e,if_neg k,if_neg e,if_neg k,if_neg e,if_neg k];grind
theorem foldl_sm {n i:Nat} {x:Nat→Rat}:∀{l:List Cm} {f:Fi},Oks n l→sm n (fun j=>((l.foldl uf f i j:Int):Rat)*x j)=sm n (fun j=>((f i j:Int):Rat)*x j)+S (fun c=>(c.w:Rat)*(dl i c.a - dl i c.b)*(xa x c.a - xa x c.b)) l
  |[],f,_=>by unfold S;show sm n (fun j=>((f i j:Int):Rat)*x j)=_;grind
  |c :: l,f,h=>by
    show sm n (fun j=>((l.foldl uf (uf f c) i j:Int):Rat)*x j)=_
    rw [foldl_sm (l:=l) (f:=uf f c) (fun y hy=>h y (List.mem_cons_of_mem _ hy)),uf_sm (h c (List.mem_cons_self ..)),S_cons]
    grind
def T (n:Nat) (p:List Int) (x:Nat→Rat) (v:Int):Rat:=sm n fun j=>if p.getD j 0=v then x j else 0
theorem J0_sm {n i:Nat} {p:List Int} {x:Nat→Rat}:sm n (fun j=>((J0 p i j:Int):Rat)*x j)=T n p x (p.getD i 0):=by
  refine sm_congr fun j _=> ?_
  unfold J0
  by_cases e:p.getD i 0=p.getD j 0
  · rw [if_pos e,if_pos e.symm];have:((1:Int):Rat)=1:=rfl;rw [this];grind
  · rw [if_neg e,if_neg (fun z=>e z.symm)];have:((0:Int):Rat)=0:=rfl;rw [this];grind
theorem FK_sm {n i:Nat} {p:List Int} {l:List Cm} {x:Nat→Rat} (h:Oks n l):sm n (fun j=>((FK p l i j:Int):Rat)*x j)=T n p x (p.getD i 0)+S (fun c=>(c.w:Rat)*(dl i c.a - dl i c.b)*(xa x c.a - xa x c.b)) l:=by
  unfold FK;rw [foldl_sm h,J0_sm]
theorem add1_symm {f:Fi} {c:Cm} (h:∀i j,f i j=f j i) (i j:Nat):uf f c i j=uf f c j i:=by
  unfold uf add1
  have:=h i j
  by_cases h1:i=c.a.toNat <;> by_cases h2:i=c.b.toNat <;> by_cases h3:j=c.a.toNat <;> by_cases h4:j=c.b.toNat <;> simp [h1,h2,h3,h4] <;> simp_all <;> omega
theorem FK_symm {p:List Int} (l:List Cm) (i j:Nat):FK p l i j=FK p l j i:=by
  have key:∀(l:List Cm) (f:Fi),(∀i j,f i j=f j i)→∀i j,l.foldl uf f i j=l.foldl uf f j i:=by
    intro l
    induction l with
    |nil=>intro f h i j;exact h i j
    |cons c l ih=>intro f h i j;exact ih (uf f c) (add1_symm h) i j
  exact key l _ (fun i j=>by unfold J0;split <;> split <;> omega) i j
end Go.Proofs.YtkohlohbogpooaaGreat.Rd
namespace Go.Proofs.YtkohlohbogpooaaGreat.Sp
open Go
set_option linter.unusedVariables false
abbrev Cm:=Rd.Cm
def okC (k:IntKind) (z:Cm):Prop:=InK k z.a∧InK k z.b∧InK k z.d∧InK k z.w
def rI4 (k:IntKind):Rp Cm:=fl 4 (fun z=>[.int k z.a,.int k z.b,.int k z.d,.int k z.w]) (okC k) (fun _=>rfl) (fun _=>rfl)
section
variable {P : Program} {n : Sz} {m : Fm} {O : List As} {R : List Fa} {d : Option Tmp} {ty : TypeId} {ps : String} {af : Array Edge} {gd : Option (Nat × Bool)} {T : TypeId} {hs : HP} {M : List (List Int)}
theorem zEb {t:TypeId} {x:Operand} {o:Nat} {x0:Int} (i k j:Nat) (hi:O[i]? =some (rowsM T (rI .i64) hs M)) (hk:k<hs.length) (hM:k<M.length) (ht:Ty P t 1 false) (h:evo m x=some (rowPtr (rp hs k) o)) (ho:o=j*1) (hx:(M.getD k [])[j]? =some x0):
    Vl P n ⟨d,.load t x,ty,ps,af,gd⟩ m O R (Y:=Unit) (fun _=>InK .i64 x0) (fun _=> .int .i64 x0) (fun _=>[]):=fun a f hh g sp hr=>by
  obtain ⟨k1,k2,ap,e0,hA,_,_⟩:=Sep.pick i hi sp
  have hA2:Sep g (List.zipWith (rmA T (rI .i64)) hs M) k1:=hA
  obtain ⟨y,hok,hR,hrun⟩:=zE (P:=P) (n:=n) (d:=d) (ty:=ty) (ps:=ps) (af:=af) (gd:=gd) (O:=List.zipWith (rmA T (rI .i64)) hs M) (R:=R) (v:= .int .i64 x0) k j (zip_at hk hM) ht h ho hx rfl a f k1 g hA2 hr
  exact ⟨(),hok,trivial,fun w hw hg=>hrun w (Has.mono hw (by rw [e0];exact Hp.le_joinL _ _)) hg⟩
end
theorem mkI_sm {hs:HP} (K N:Nat) (f:Rd.Fi) (hh:hs.length=K):Mx.Sm hs (Rd.mkI K N f) K N:=⟨hh,Rd.mkI_len ..,fun i hi=>Rd.mkI_rl hi⟩
theorem convM4C {k:IntKind} {m1 m2 m3 m4:Int→Nat}:∀g y γ,(rP (rI k) (rP (rI k) (rP (rI k) (rI k)))).ok g y γ→∃z δ,(rP (rI k) (rP (rI k) (rP (rI k) (rI k)))).enc y γ=(rI4 k).enc z δ∧(rI4 k).ok g z δ∧(fun z:Cm=>m1 z.a+(m2 z.b+(m3 z.d+m4 z.w))) z≤(fun y:Int×Int×Int×Int=>m1 y.1+(m2 y.2.1+(m3 y.2.2.1+m4 y.2.2.2))) y:=fun g y γ h=>⟨⟨y.1,y.2.1,y.2.2.1,y.2.2.2⟩,(),rfl,⟨h.1,h.2.1,h.2.2.1,h.2.2.2⟩,Nat.le_refl _⟩
end Go.Proofs.YtkohlohbogpooaaGreat.Sp
namespace Go.Proofs.YtkohlohbogpooaaGreat.Rd
open Mx
set_option linter.unusedVariables false
def A0 (n:Nat) (l:List Cm):Mt:=mk n n fun i j=>eI (mkI n n (FK (prt n l) l)) i j
theorem A0_e {n:Nat} {l:List Cm} {i j:Nat} (hi:i<n) (hj:j<n):e (A0 n l) i j=((FK (prt n l) l i j:Int):Rat):=by
  unfold A0;rw [mk_e hi hj];unfold eI;rw [mkI_get hi hj]
def rr (n:Nat) (l:List Cm):List Rat:=(RK n l).map fun z:Int=>(z:Rat)
theorem rr_get {n:Nat} {l:List Cm} {i:Nat}:(rr n l).getD i 0=(((RK n l).getD i 0:Int):Rat):=by
  unfold rr
  rw [List.getD_eq_getElem?_getD,List.getElem?_map,List.getD_eq_getElem?_getD]
  cases (RK n l)[i]? <;> rfl
theorem rs_get {r:List Int} {c:Cm} {n i:Nat} (hr:r.length=n) (hc:Ok n c):(((rs r c).getD i 0:Int):Rat)=((r.getD i 0:Int):Rat)+(c.w:Rat)*(c.d:Rat)*(dl i c.a - dl i c.b):=by
  have h1:=hc.a;have h2:=hc.b;have h3:=hc.ne
  unfold rs dl
  dsimp only
  rw [getD_set (by rw [List.length_set];omega),getD_set (by omega),getD_set (by omega)]
  by_cases e:i=c.b.toNat
  · have k : ¬ i = c.a.toNat := by omega
    have k2:¬c.b.toNat=c.a.toNat:=by omega
    rw [if_pos e,if_neg k2,if_neg k,if_pos e,e,Rat.intCast_sub,Rat.intCast_mul];grind
  · rw [if_neg e]
    by_cases k:i=c.a.toNat
    · rw [if_pos k,if_pos k,if_neg e,k,Rat.intCast_add,Rat.intCast_mul];grind
    · rw [if_neg k,if_neg k,if_neg e];grind
theorem RKf_get {n i:Nat}:∀{l:List Cm} {r:List Int},Oks n l→r.length=n→(((l.foldl rs r).getD i 0:Int):Rat)=((r.getD i 0:Int):Rat)+S (fun c=>(c.w:Rat)*(c.d:Rat)*(dl i c.a - dl i c.b)) l
  |[],r,_,_=>by unfold S;show ((r.getD i 0:Int):Rat)=_;grind
  |c :: l,r,h,hr=>by
    show (((l.foldl rs (rs r c)).getD i 0:Int):Rat)=_
    rw [RKf_get (l:=l) (r:=rs r c) (fun y hy=>h y (List.mem_cons_of_mem _ hy)) ((rs_len r c).trans hr),rs_get hr (h c (List.mem_cons_self ..)),S_cons]
    grind
theorem RK_get {n i:Nat} {l:List Cm} (h:Oks n l):(((RK n l).getD i 0:Int):Rat)=S (fun c=>(c.w:Rat)*(c.d:Rat)*(dl i c.a - dl i c.b)) l:=by
  unfold RK
  rw [RKf_get h (by simp)]
  have:(List.replicate n (0:Int)).getD i 0=0:=by rw [List.getD_eq_getElem?_getD,List.getElem?_replicate];split <;> rfl
  rw [this];have:((0:Int):Rat)=0:=rfl;rw [this];grind
theorem rr_len (n:Nat) (l:List Cm):(rr n l).length=n:=by unfold rr;rw [List.length_map,RK_len]
theorem rr_take {n i:Nat} {l:List Cm} (h:i<n):(rr n l).take (i+1)=(rr n l).take i++[(((RK n l).getD i 0:Int):Rat)]:=by
  rw [List.take_add_one,List.getElem?_eq_getElem (by rw [rr_len];exact h)]
  congr 1
  rw [← rr_get,List.getD_eq_getElem?_getD,List.getElem?_eq_getElem (by rw [rr_len];exact h)];rfl
theorem A0_hq {n:Nat} {l:List Cm} (h:Oks n l) (hl:l.length≤12) (i c:Nat):yk (e (A0 n l) i c)≤3:=by
  by_cases hi:i<n
  · by_cases hj : c < n
    · rw [A0_e hi hj]
      have:=FK_fb (p:=prt n l) h l.length (Nat.le_refl _) i c
      rw [List.take_length] at this
      exact Big.hq_64 (by omega) (by omega)
    · unfold e A0;rw [mk_row hi,range_getD,if_neg hj,Big.hq_zero];decide
  · unfold e
    have:(A0 n l).getD i []=[]:=by rw [List.getD_eq_getElem?_getD,List.getElem?_eq_none (by unfold A0;rw [mk_len];omega)];rfl
    rw [this];show yk (0:Rat)≤3;rw [Big.hq_zero];decide
theorem rr_hq {n:Nat} {l:List Cm} (h:Oks n l) (hl:l.length≤12) (i:Nat):yk ((rr n l).getD i 0)≤3:=by
  rw [rr_get]
  have:=RK_rb h l.length (Nat.le_refl _) i
  rw [List.take_length] at this
  exact Big.hq_64 (by omega) (by omega)
theorem H6 {n:Nat} (h:n≤6):H 3 n≤200000:=Nat.le_trans (H_mono 3 h) (by decide)
section
variable {n : Nat} {l : List Cm}
theorem sm_rr (h:Oks n l) (y:Nat→Rat):sm n (fun t=>y t*(rr n l).getD t 0)=S (fun c=>(c.w:Rat)*(c.d:Rat)*(xa y c.a - xa y c.b)) l:=by
  rw [sm_congr fun t _=>by rw [rr_get,RK_get h,←S_mul],S_sm]
  refine S_congr fun c hc=> ?_
  have ho:=h c hc
  rw [← sm_dl (x:=y) ho.a,←sm_dl (x:=y) ho.b,←sm_sub,←sm_mul]
  exact sm_congr fun t _=>by grind
theorem sm_A (h:Oks n l) (y x:Nat→Rat):sm n (fun i=>y i*sm n (fun j=>e (A0 n l) i j*x j))=sm n (fun i=>y i*T n (prt n l) x ((prt n l).getD i 0))+S (fun c=>(c.w:Rat)*(xa y c.a - xa y c.b)*(xa x c.a - xa x c.b)) l:=by
  have e1:sm n (fun i=>y i*sm n (fun j=>e (A0 n l) i j*x j))=sm n (fun i=>y i*T n (prt n l) x ((prt n l).getD i 0)+S (fun c=>y i*((c.w:Rat)*(dl i c.a - dl i c.b)*(xa x c.a - xa x c.b))) l):=by
    refine sm_congr fun i hi=> ?_
    rw [sm_congr fun j hj=>by rw [A0_e hi hj],FK_sm h,S_mul];grind
  rw [e1,sm_add,S_sm]
  congr 1
  refine S_congr fun c hc=> ?_
  have ho:=h c hc
  rw [← sm_dl (x:=y) ho.a,←sm_dl (x:=y) ho.b,←sm_sub]
  rw [show (c.w:Rat)*sm n (fun i=>y i*dl i c.a - y i*dl i c.b)*(xa x c.a - xa x c.b)=(c.w:Rat)*(xa x c.a - xa x c.b)*sm n (fun i=>y i*dl i c.a - y i*dl i c.b) by grind,←sm_mul]
  exact sm_congr fun t _=>by grind
theorem sq_nn (x:Rat):0≤x*x:=by
  rcases Rat.le_total (a:=0) (b:=x) with h|h
  · exact Rat.mul_nonneg h h
  · have:=Rat.mul_nonneg (show 0≤ -x by grind) (show 0≤ -x by grind);grind
theorem sm_nn {m:Nat} {f:Nat→Rat} (h:∀i,i<m→0≤f i):0≤sm m f:=by
  induction m with
  |zero=>unfold sm;grind
  |succ m ih=>rw [sm_succ];have a:=ih fun i hi=>h i (by omega);have b:=h m (by omega);grind
theorem T_sq (h:Oks n l) (y:Nat→Rat):sm n (fun i=>y i*T n (prt n l) y ((prt n l).getD i 0))=sm n (fun v=>T n (prt n l) y (v:Int)*T n (prt n l) y (v:Int)):=by
  have e1:sm n (fun v=>T n (prt n l) y (v:Int)*T n (prt n l) y (v:Int))=sm n (fun v=>sm n (fun i=>if v=((prt n l).getD i 0).toNat then y i*T n (prt n l) y (v:Int) else 0)):=by
    refine sm_congr fun v hv=> ?_
    conv=>lhs;rw [show T n (prt n l) y (v:Int)*T n (prt n l) y (v:Int)=T n (prt n l) y (v:Int)*sm n (fun j=>if (prt n l).getD j 0=(v:Int) then y j else 0) from rfl]
    rw [← sm_mul]
    refine sm_congr fun i hi=> ?_
    have h0:=rds_nn h n i
    have h0':0≤(prt n l).getD i 0:=h0
    by_cases k:(prt n l).getD i 0=(v:Int)
    · rw [if_pos k,if_pos (by omega)];grind
    · rw [if_neg k,if_neg (by omega)];grind
  rw [e1,sm_swap]
  refine sm_congr fun i hi=> ?_
  have h0:0≤(prt n l).getD i 0:=rds_nn h n i
  have h1:(prt n l).getD i 0<n:=rds_lt h n i hi
  rw [sm_one (n:=n) (p:=((prt n l).getD i 0).toNat) (v:=0) (f:=fun v=>y i*T n (prt n l) y (v:Int)) (by omega)]
  rw [show ((((prt n l).getD i 0).toNat:Nat):Int)=(prt n l).getD i 0 by omega]
theorem A0_symm {i j:Nat} (hi:i<n) (hj:j<n):e (A0 n l) i j=e (A0 n l) j i:=by rw [A0_e hi hj,A0_e hj hi,FK_symm]
theorem w_pos (h:Oks n l) {c:Cm} (hc:c∈l):(0:Rat)<(c.w:Rat):=by
  have:=(h c hc).w
  have h1:((1:Int):Rat)≤(c.w:Rat):=Rat.intCast_le_intCast.2 this.1
  have h2:((1:Int):Rat)=1:=rfl
  grind
theorem cons (h:Oks n l):Cons (A0 n l) (rr n l) n n:=fun y hy=>by
  have h1:sm n (fun c=>y c*sm n (fun t=>e (A0 n l) c t*y t))=0:=sm_zero fun c hc=>by
    rw [sm_congr fun t ht=>by rw [A0_symm hc ht,Rat.mul_comm],hy c hc];grind
  rw [sm_A h,T_sq h] at h1
  have h2:=sm_nn (m:=n) (f:=fun v=>T n (prt n l) y (v:Int)*T n (prt n l) y (v:Int)) fun v _=>sq_nn _
  have hp:∀c∈l,0≤(c.w:Rat)*(xa y c.a - xa y c.b)*(xa y c.a - xa y c.b):=fun c hc=>by
    have hw:=w_pos h hc
    have:=Rat.mul_nonneg (show 0≤(c.w:Rat) by grind) (sq_nn (xa y c.a - xa y c.b));grind
  have h3:=S_all0 hp (by grind)
  rw [sm_rr h]
  refine S_zero fun c hc=> ?_
  have h4:=h3 c hc
  have hw:=w_pos h hc
  have:xa y c.a - xa y c.b=0:=by
    rcases Rat.mul_eq_zero.1 h4 with k|k
    · rcases Rat.mul_eq_zero.1 k with q | q
      · grind
      · exact q
    · exact k
  rw [this];grind
structure Lv (n:Nat) (l:List Cm) (o:Nat→Rat):Prop where
  t:∀v,T n (prt n l) o v=0
  g:∀i,i<n→S (fun c=>(c.w:Rat)*(xa o c.b - xa o c.a+(c.d:Rat))*(dl i c.b - dl i c.a)) l=0
theorem lv_of (h:Oks n l) (hn:1≤n) {o:Nat→Rat} (ho:∀i,i<n→sm n (fun c=>e (A0 n l) i c*o c)=(rr n l).getD i 0):Lv n l o:=by
  have ht:∀v,T n (prt n l) o v=0:=fun v=>by
    have h1:=sm_A h (fun i=>if (prt n l).getD i 0=v then 1 else 0) o
    rw [sm_congr fun i hi=>by rw [ho i hi],sm_rr h] at h1
    have ez:∀c∈l,xa (fun i=>if (prt n l).getD i 0=v then (1:Rat) else 0) c.a - xa (fun i=>if (prt n l).getD i 0=v then (1:Rat) else 0) c.b=0:=fun c hc=>by
      unfold xa;dsimp only;rw [prt_eq h hn hc];grind
    rw [S_zero fun c hc=>by rw [ez c hc];grind,S_zero fun c hc=>by rw [ez c hc];grind] at h1
    have h2:sm n (fun i=>(if (prt n l).getD i 0=v then (1:Rat) else 0)*T n (prt n l) o ((prt n l).getD i 0))=T n (prt n l) o v*sm n (fun i=>if (prt n l).getD i 0=v then (1:Rat) else 0):=by
      rw [← sm_mul]
      refine sm_congr fun i hi=> ?_
      split
      · rename_i k;rw [k];grind
      · grind
    rw [h2] at h1
    by_cases k:∃i,i<n∧(prt n l).getD i 0=v
    · obtain ⟨i, hi, hv⟩ := k
      have h3:(1:Rat)≤sm n (fun i=>if (prt n l).getD i 0=v then (1:Rat) else 0):=by
        have a:=sm_one (n:=n) (p:=i) (v:=0) (f:=fun _=>(1:Rat)) hi
        have b:=sm_nn (m:=n) (f:=fun c=>(if (prt n l).getD c 0=v then (1:Rat) else 0) - (if c=i then 1 else 0)) fun c hc=>by
          by_cases q:c=i
          · subst q;rw [if_pos hv,if_pos rfl];grind
          · rw [if_neg q];split <;> grind
        rw [sm_sub,a] at b;grind
      have h4:T n (prt n l) o v*sm n (fun i=>if (prt n l).getD i 0=v then (1:Rat) else 0)=0:=by grind
      rcases Rat.mul_eq_zero.1 h4 with q|q
      · exact q
      · grind
    · exact sm_zero fun i hi=>if_neg fun z=>k ⟨i,hi,z⟩
  refine ⟨ht,fun i hi=> ?_⟩
  have h1:=ho i hi
  rw [rr_get,RK_get h,sm_congr fun j hj=>by rw [A0_e hi hj],FK_sm h,ht] at h1
  have h2:S (fun c=>(c.w:Rat)*(xa o c.b - xa o c.a+(c.d:Rat))*(dl i c.b - dl i c.a)) l=S (fun c=>(c.w:Rat)*(dl i c.a - dl i c.b)*(xa o c.a - xa o c.b)) l+(-1)*S (fun c=>(c.w:Rat)*(c.d:Rat)*(dl i c.a - dl i c.b)) l:=by
    rw [← S_mul,←S_add];exact S_congr fun c _=>by grind
  rw [h2];grind
def loss (l:List Cm) (o:Nat→Rat):Rat:=S (fun c=>(c.w:Rat)*((xa o c.b - xa o c.a+(c.d:Rat))*(xa o c.b - xa o c.a+(c.d:Rat)))) l
theorem loss_le (h:Oks n l) {o:Nat→Rat} (ho:Lv n l o) (r:Nat→Rat):loss l o≤loss l r:=by
  have key:S (fun c=>(c.w:Rat)*(xa o c.b - xa o c.a+(c.d:Rat))*((xa r c.b - xa o c.b) - (xa r c.a - xa o c.a))) l=0:=by
    have h1:sm n (fun i=>(r i - o i)*S (fun c=>(c.w:Rat)*(xa o c.b - xa o c.a+(c.d:Rat))*(dl i c.b - dl i c.a)) l)=0:=sm_zero fun i hi=>by rw [ho.g i hi];grind
    rw [sm_congr fun i _=>by rw [← S_mul],S_sm] at h1
    rw [← h1]
    refine S_congr fun c hc=> ?_
    have hk:=h c hc
    have a:=sm_dl (x:=fun i=>r i - o i) hk.a
    have b:=sm_dl (x:=fun i=>r i - o i) hk.b
    have d:sm n (fun i=>(r i - o i)*((c.w:Rat)*(xa o c.b - xa o c.a+(c.d:Rat))*(dl i c.b - dl i c.a)))=((c.w:Rat)*(xa o c.b - xa o c.a+(c.d:Rat)))*(sm n (fun i=>(r i - o i)*dl i c.b) - sm n (fun i=>(r i - o i)*dl i c.a)):=by
      rw [← sm_sub,←sm_mul];exact sm_congr fun i _=>by grind
    rw [d,a,b];unfold xa;grind
  have h2:loss l r=loss l o+2*S (fun c=>(c.w:Rat)*(xa o c.b - xa o c.a+(c.d:Rat))*((xa r c.b - xa o c.b) - (xa r c.a - xa o c.a))) l+S (fun c=>(c.w:Rat)*(((xa r c.b - xa o c.b) - (xa r c.a - xa o c.a))*((xa r c.b - xa o c.b) - (xa r c.a - xa o c.a)))) l:=by
    unfold loss;rw [← S_mul,←S_add,←S_add];exact S_congr fun c _=>by grind
  have h3:=S_nn (l:=l) (f:=fun c=>(c.w:Rat)*(((xa r c.b - xa o c.b) - (xa r c.a - xa o c.a))*((xa r c.b - xa o c.b) - (xa r c.a - xa o c.a)))) fun c hc=>by
    have hw:=w_pos h hc
    exact Rat.mul_nonneg (by grind) (sq_nn _)
  rw [h2,key];grind
theorem exact (h:Oks n l) {o t:Nat→Rat} (ho:Lv n l o) (ht:∀c∈l,xa t c.b - xa t c.a+(c.d:Rat)=0):∀c∈l,xa o c.b - xa o c.a+(c.d:Rat)=0:=fun c hc=>by
  have h1:=loss_le h ho t
  have h2:loss l t=0:=S_zero fun c hc=>by rw [ht c hc];grind
  have h3:=S_all0 (l:=l) (f:=fun c=>(c.w:Rat)*((xa o c.b - xa o c.a+(c.d:Rat))*(xa o c.b - xa o c.a+(c.d:Rat)))) (fun c hc=>by
    have hw:=w_pos h hc
    exact Rat.mul_nonneg (by grind) (sq_nn _)) (by rw [h2] at h1;exact h1) c hc
  have hw:=w_pos h hc
  rcases Rat.mul_eq_zero.1 h3 with k|k
  · grind
  · rcases Rat.mul_eq_zero.1 k with q|q <;> exact q
end
end Go.Proofs.YtkohlohbogpooaaGreat.Rd
namespace Go.Proofs.YtkohlohbogpooaaGreat.Sp
open Go
set_option linter.unusedVariables false
set_option maxRecDepth 100000
set_option maxHeartbeats 8000000
theorem zYc {n:Nat} {pL:Option Addr} {nL:Nat} {cL:Nat} {L:List Cm} (hnL:L.length=nL) (hn:1≤n∧n≤16) (hok:Rd.Oks n L):Con yj 67 [ya yb ((n:Nat):Int),.slice pL nL cL] [] [slF (rI4 .i64) pL cL L] (Y:=(Option Addr)×Nat) (fun y=>True) (fun y=> .slice (y.1) n (y.2)) (fun y=>[]) (fun y=>[slF (rI .i64) (y.1) (y.2) (Rd.prt n L)]):=by
 refine zm Tryz.func67 rfl rfl rfl (fun c=> ?_)
 show RunC _ _ _ _ _ [(0,ya yb ((n:Nat):Int)),(1,.slice pL nL cL)] [] [slF (rI4 .i64) pL cL L]
 refine zY 0 rfl (fun hL0=> ?_)
 refine ze<|za<|e_p (zb rfl)<|zf<|zc<|ze<|za<|e_mv rfl<|zta rfl rfl (zEa (r:=rI .i64) (k:=n) (x0:=0) (γ0:=()) yd inf3 rfl rfl rfl rfl om om rfl (fun g _=>by exact zN.2 dd) dd) (fun b1 _=> ?_)
 refine e_p (zb rfl)<|zf<|zc<|ze<|ze ?_
 have e2:(List.replicate n 0:List Int)=(Rd.fz 0 n (fun jj=>((jj:Nat):Int))):=by exact Rd.fz_start _ _
 rw [e2]
 refine za<|e_mv rfl<|e_p (zC yd rfl)<|e_mv rfl<|zf<|zc<|zt<|zga (X:=Nat) (fun x:Nat=>x≤n) (fun x=>[(14,ya yb ((x:Nat):Int)),(13,ya yb ((n:Nat):Int)),(5,.slice (some ⟨b1,0,none⟩) n n),(4,.slice none 0 0),(0,ya yb ((n:Nat):Int)),(1,.slice pL nL cL)]) (fun x=>[rowA 3 (rI .i64) (some ⟨b1,0,none⟩) n (Rd.fz x n (fun jj=>((jj:Nat):Int)))]) (fun x=>[slF (rI4 .i64) pL cL L]) (fun x:Nat=>n - x) 0 (show 0≤n from by exact Nat.zero_le _) ((.e rfl (by first|rfl|(congr 1;omega)|simp_all) (.of rfl)):SubM _ _) (ho:=((.c (i:=0) rfl .n):PickO _ _ _)) ((.c (j:=0) rfl .n):SelR _ _ _) ?_
 rintro i hI
 replace hI:i≤n:=hI
 try dsimp only
 refine ze<|za<|e_p (zT rfl rfl)<|zf<|zc<|ze<|zA rfl (fun h3=> ?_) (fun h3=> ?_)
 ·
  refine zv<|zc<|ze<|zt<|ze<|za<|e_mv rfl<|e_p (zb rfl)<|zf<|zc<|za<|e_mv rfl<|e_mv rfl<|e_mv rfl<|e_p (zG (j:=i) yd sz3 rfl rfl rfl om)<|zya 0 rfl rfl rfl (zM (j:=i) (x0:=((i:Nat):Int)) (γ0:=()) rfl rfl (by first|omega|(rw [Rd.fz_len];omega)|(rw [List.length_set];omega)) rfl rfl sz3 (fun _ _=>by exact zN.2 om)) (fun _=> .z) (fun _ _=> ?_)
  refine zf<|zL<|zc<|za<|e_p (zH (z:=(((i+1):Nat):Int)) rfl rfl (w64 om))<|e_mv rfl<|zf<|zba (i+1) (show (i+1)≤n from by show i+1≤n;omega) (by show n - (i+1)<n - i;omega) ((.of rfl):SubM _ _) (ho:=((.e (i:=0) rfl (by first|rfl|(rw [Rd.fz_step (f:=fun jj=>((jj:Nat):Int)) om])) .n):PickO _ _ _)) ((.c (j:=0) rfl .n):SelR _ _ _)
 ·
  refine zea<|zi<|zi<|zp<|zc<|ze<|ze ?_
  have e4:((Rd.fz i n (fun jj=>((jj:Nat):Int))):List Int)=(Rd.rds n L 0):=by rw [show i=n by omega];exact Rd.fz_end _ _
  rw [e4]
  refine za<|e_mv rfl<|e_mv rfl<|zf<|zc<|zt<|zga (X:=Nat) (fun x:Nat=>x≤n) (fun x=>[(23,ya yb ((x:Nat):Int)),(22,ya yb ((n:Nat):Int)),(5,.slice (some ⟨b1,0,none⟩) n n),(4,.slice none 0 0),(1,.slice pL nL cL)]) (fun x=>[rowA 3 (rI .i64) (some ⟨b1,0,none⟩) n (Rd.rds n L x)]) (fun x=>[slF (rI4 .i64) pL cL L]) (fun x:Nat=>n - x) 0 (show 0≤n from by exact Nat.zero_le _) ((.e rfl (by first|rfl|(congr 1;omega)|simp_all) (.of rfl)):SubM _ _) (ho:=((.c (i:=0) rfl .n):PickO _ _ _)) ((.c (j:=0) rfl .n):SelR _ _ _) ?_
  rintro k hK
  replace hK:k≤n:=hK
  try dsimp only
  refine ze<|za<|e_p (zT rfl rfl)<|zf<|zc<|ze<|zA rfl (fun h5=> ?_) (fun h5=> ?_)
  ·
   refine zv<|zc<|ze<|zt<|ze<|za<|e_mv rfl<|e_p (zC yg rfl)<|e_mv rfl<|zf<|zc<|zt<|zga (X:=Nat) (fun x:Nat=>x≤nL) (fun x=>[(27,ya yb ((x:Nat):Int)),(26,ya yb ((nL:Nat):Int)),(25,.slice pL nL cL),(23,ya yb ((k:Nat):Int)),(22,ya yb ((n:Nat):Int)),(5,.slice (some ⟨b1,0,none⟩) n n),(4,.slice none 0 0),(1,.slice pL nL cL)]) (fun x=>[rowA 3 (rI .i64) (some ⟨b1,0,none⟩) n (Rd.rnd (L.take x) (Rd.rds n L k))]) (fun x=>[slF (rI4 .i64) pL cL L]) (fun x:Nat=>nL - x) 0 (show 0≤nL from by exact Nat.zero_le _) ((.e rfl (by first|rfl|(congr 1;omega)|simp_all) (.of rfl)):SubM _ _) (ho:=((.e (i:=0) rfl (by rfl) .n):PickO _ _ _)) ((.c (j:=0) rfl .n):SelR _ _ _) ?_
   rintro i hI3
   replace hI3:i≤nL:=hI3
   try dsimp only
   refine ze<|za<|e_p (zT rfl rfl)<|zf<|zc<|ze<|zA rfl (fun h6=> ?_) (fun h6=> ?_)
   ·
    have hoi:=hok.getD (show i<L.length by omega)
    have hoa:=hoi.a
    have hob:=hoi.b
    have hoa0:=hoi.a0
    have hob0:=hoi.b0
    have hone:=hoi.ne
    have hod:=hoi.d
    have how:=hoi.w
    have hrl:(Rd.rnd (L.take i) (Rd.rds n L k)).length=n:=(Rd.rnd_len _ _).trans (Rd.rds_len _ _ _)
    refine zv<|zc<|ze<|zt<|ze<|za<|zV (x0:=(L.getD i Rd.c0)) 0 i rfl yg sz68 rfl rfl rfl (by first|rfl|assumption|omega|exact Rd.fz_len _ _ _|exact Rd.rds_len _ _ _) rfl rfl (gD (d:=Rd.c0) om) (fun b7 o8 hok9=> ?_)
    obtain ⟨hok90,hok91,hok92,hok93⟩:=hok9
    replace hok90:=zN.1 hok90
    replace hok91:=zN.1 hok91
    replace hok92:=zN.1 hok92
    replace hok93:=zN.1 hok93
    refine e_ru (zaa (j:=0) 0 ty68 rfl rfl rfl (.t4 .nil))<|zK rfl rfl (zw zr68 rfl) (fun b10=> ?_)
    refine zl 0 rfl rfl rfl rfl rfl sz68 rfl (.t4 .nil) .z<|zf<|zc<|ze<|zca (OW:=[]) (O:=[boxA b10 68 [ya yb ((L.getD i Rd.c0).a),ya yb ((L.getD i Rd.c0).b),ya yb ((L.getD i Rd.c0).d),ya yb ((L.getD i Rd.c0).w)],rowA 3 (rI .i64) (some ⟨b1,0,none⟩) n (Rd.rnd (L.take i) (Rd.rds n L k))]) 100000 mixed (.then (.block (.then (.then (.block (.block (.then (.then (.block (.then .ret)))))))))) kr<|e_dm 0 rfl rfl rfl<|e_pv 1 rfl rfl (zh ye rfl sz3 rfl rfl)<|e_u 2 rfl rfl (zg 0 ty3 rfl rfl rfl)<|e_pv 3 rfl rfl (zG (j:=((L.getD i Rd.c0).a).toNat) yd sz3 rfl rfl om om)<|d_vl 4 rfl rfl kr kr rfl rfl (zE 1 (((L.getD i Rd.c0).a).toNat) rfl ty3 rfl rfl (gD (d:=0) om) rfl) (fun _ hok11=> ?_)
    replace hok11:=zN.1 hok11
    refine e_dm 5 rfl rfl rfl<|e_pv 6 rfl rfl (zh ye rfl sz3 rfl rfl)<|e_u 7 rfl rfl (zg 0 ty3 rfl rfl rfl)<|e_pv 8 rfl rfl (zG (j:=((L.getD i Rd.c0).b).toNat) yd sz3 rfl rfl om om)<|d_vl 9 rfl rfl kr kr rfl rfl (zE 1 (((L.getD i Rd.c0).b).toNat) rfl ty3 rfl rfl (gD (d:=0) om) rfl) (fun _ hok12=> ?_)
    replace hok12:=zN.1 hok12
    refine e_pv 10 rfl rfl (zef rfl rfl)<|e_pv 11 rfl rfl (zb rfl)<|zZ kr<|zc<|zma (.c (i:=1) rfl (.c (i:=0) rfl .n))<|zca (OW:=[rowA 3 (rI .i64) (some ⟨b1,0,none⟩) n (Rd.rnd (L.take i) (Rd.rds n L k))]) (O:=[boxA b10 68 [ya yb ((L.getD i Rd.c0).a),ya yb ((L.getD i Rd.c0).b),ya yb ((L.getD i Rd.c0).d),ya yb ((L.getD i Rd.c0).w)]]) 9 mixed (.block (.then (.then (.block (.block (.then (.then (.block (.then .ret))))))))) kr<|e_dm 0 rfl rfl rfl<|e_pv 1 rfl rfl (zh ye rfl sz3 rfl rfl)<|e_uw 2 rfl rfl (zg 1 ty3 rfl rfl rfl)<|e_dm 3 rfl rfl rfl<|e_pv 4 rfl rfl (zh ye rfl sz3 rfl rfl)<|e_u 5 rfl rfl (zg 0 ty3 rfl rfl rfl)<|e_dm 6 rfl rfl rfl<|e_dm 7 rfl rfl rfl<|e_pv 8 rfl rfl (zG (j:=((L.getD i Rd.c0).a).toNat) yd sz3 rfl rfl om om)<|e_one 9 (zob (A':=fun _=>rowA 3 (rI .i64) (some ⟨b1,0,none⟩) n ((Rd.rnd (L.take i) (Rd.rds n L k)).set (((L.getD i Rd.c0).a).toNat) (min ((Rd.rnd (L.take i) (Rd.rds n L k)).getD (((L.getD i Rd.c0).a).toNat) 0) ((Rd.rnd (L.take i) (Rd.rds n L k)).getD (((L.getD i Rd.c0).b).toNat) 0)))) kr rfl rfl rfl (zM (j:=((L.getD i Rd.c0).a).toNat) (x0:=(min ((Rd.rnd (L.take i) (Rd.rds n L k)).getD (((L.getD i Rd.c0).a).toNat) 0) ((Rd.rnd (L.take i) (Rd.rds n L k)).getD (((L.getD i Rd.c0).b).toNat) 0))) (γ0:=()) rfl rfl (by first|omega|(rw [Rd.fz_len];omega)|(rw [List.length_set];omega)) rfl rfl sz3 (fun _ _=>by exact zN.2 om)) (fun _ _=> ?_))
    refine e_pv 10 rfl rfl (zG (j:=((L.getD i Rd.c0).b).toNat) yd sz3 rfl rfl om om)<|e_one 11 (zob (A':=fun _=>rowA 3 (rI .i64) (some ⟨b1,0,none⟩) n (((Rd.rnd (L.take i) (Rd.rds n L k)).set (((L.getD i Rd.c0).a).toNat) (min ((Rd.rnd (L.take i) (Rd.rds n L k)).getD (((L.getD i Rd.c0).a).toNat) 0) ((Rd.rnd (L.take i) (Rd.rds n L k)).getD (((L.getD i Rd.c0).b).toNat) 0))).set (((L.getD i Rd.c0).b).toNat) (min ((Rd.rnd (L.take i) (Rd.rds n L k)).getD (((L.getD i Rd.c0).a).toNat) 0) ((Rd.rnd (L.take i) (Rd.rds n L k)).getD (((L.getD i Rd.c0).b).toNat) 0)))) kr rfl rfl rfl (zM (j:=((L.getD i Rd.c0).b).toNat) (x0:=(min ((Rd.rnd (L.take i) (Rd.rds n L k)).getD (((L.getD i Rd.c0).a).toNat) 0) ((Rd.rnd (L.take i) (Rd.rds n L k)).getD (((L.getD i Rd.c0).b).toNat) 0))) (γ0:=()) rfl rfl (by first|omega|(rw [Rd.fz_len];omega)|(rw [List.length_set];omega)) rfl rfl sz3 (fun _ _=>by exact zN.2 om)) (fun _ _=> ?_))
    refine zZ kr<|zL<|zc<|za<|e_p (zH (z:=(((i+1):Nat):Int)) rfl rfl (w64 om))<|e_mv rfl<|zf<|zba (i+1) (show (i+1)≤nL from by show i+1≤nL;omega) (by show nL - (i+1)<nL - i;omega) ((.of rfl):SubM _ _) (ho:=((.e (i:=0) rfl (by first|rfl|(rw [Rd.rnd_take om];rfl)) .n):PickO _ _ _)) ((.c (j:=1) rfl .n):SelR _ _ _)
   ·
    refine zea<|zi<|zi<|zp<|zL<|zc<|za<|e_p (zH (z:=(((k+1):Nat):Int)) rfl rfl (w64 om))<|e_mv rfl<|zf ?_
    have e13:((Rd.rnd (L.take i) (Rd.rds n L k)):List Int)=(Rd.rds n L (k+1)):=by rw [show L.take i=L from List.take_of_length_le om];rfl
    rw [e13]
    refine zba (k+1) (show (k+1)≤n from by show k+1≤n;omega) (by show n - (k+1)<n - k;omega) ((.of rfl):SubM _ _) (ho:=((.c (i:=0) rfl .n):PickO _ _ _)) ((.c (j:=0) rfl .n):SelR _ _ _)
  ·
   refine zea<|zi<|zi<|zp<|zc<|ze<|za<|e_mv rfl<|e_p (zb rfl)<|zf<|zc<|zJ ?_
   have e14:((Rd.rds n L k):List Int)=(Rd.prt n L):=by rw [show k=n by omega];rfl
   rw [e14]
   refine zbb 0 rfl .z ?_
   exact zy Tryz.results67 (some ⟨b1,0,none⟩,n) trivial (zo rfl) rfl (ho:=(.n:PickO _ _ _)) ((.c (j:=0) rfl .n):SelR _ _ _)
end Go.Proofs.YtkohlohbogpooaaGreat.Sp
namespace Go.Proofs.YtkohlohbogpooaaGreat.Sp
open Go
set_option linter.unusedVariables false
set_option maxRecDepth 100000
set_option maxHeartbeats 8000000
theorem zSc {ni:Int} {pL:Option Addr} {nL:Nat} {cL:Nat} {L:List Cm} (hnL:L.length=nL) (hsm:Rd.offC ni L=0→ni≤6∧nL≤12):Con yj 31 [ya yb ni,.slice pL nL cL] [] [slF (rI4 .i64) pL cL L] (Y:=(Option Addr)×Nat×(List Rat)) (fun y=>(Rd.offC ni L=0→y.2.2.length=(ni:Int).toNat∧Rd.Lv (ni:Int).toNat L (fun c=>y.2.2.getD c 0)∧(∀c,yk (y.2.2.getD c 0)≤200000))∧(Rd.offC ni L≠0→y.2.2=[])) (fun y=> .tuple #[.slice (y.1) (y.2.2.length) (y.2.1),ya yb (Rd.offC ni L)]) (fun y=>[]) (fun y=>[slF rQ (y.1) (y.2.1) (y.2.2)]):=by
 refine zm Tryz.func31 rfl rfl rfl (fun c=> ?_)
 show RunC _ _ _ _ _ [(0,ya yb ni),(1,.slice pL nL cL)] [] [slF (rI4 .i64) pL cL L]
 refine zY 0 rfl (fun hL0=> ?_)
 refine ze<|za<|e_p (zb rfl)<|e_p (zb rfl)<|zf<|zc<|ze<|zDa (X:=Unit) (fun x=>True) (fun x=>[(30,.bool (decide (((ni<1)∨(16<ni))∨(64<((nL:Nat):Int))))),(5,ya yb 0),(4,.slice none 0 0),(0,ya yb ni),(1,.slice pL nL cL)]) (fun x=>[]) (fun x=>[slF (rI4 .i64) pL cL L]) ?_ ?_
 ·
  refine za<|e_mv rfl<|e_p (zT rfl rfl)<|zO rfl rfl (zS rfl) (fun h1=> ?_) (fun h1=> ?_)
  ·
   refine e_no<|e_no<|e_p (zk rfl rfl)<|e_mv rfl<|e_no<|e_no<|e_no<|e_p (zk rfl rfl)<|zf ?_
   exact zda () (show True from by first|trivial|omega|simp_all) ((.e rfl (congrArg Value.bool cbu) (.of rfl)):SubM _ _) (ho:=(.n:PickO _ _ _)) ((.c (j:=0) rfl .n):SelR _ _ _)
  ·
   refine e_mv rfl<|e_p (zka rfl rfl)<|e_p (zk rfl rfl)<|zO rfl rfl (zS rfl) (fun h2=> ?_) (fun h2=> ?_)
   ·
    refine e_no<|e_no<|e_no<|e_p (zk rfl rfl)<|zf ?_
    exact zda () (show True from by first|trivial|omega|simp_all) ((.e rfl (congrArg Value.bool cbu) (.of rfl)):SubM _ _) (ho:=(.n:PickO _ _ _)) ((.c (j:=0) rfl .n):SelR _ _ _)
   ·
    refine e_mv rfl<|e_p (zC yg rfl)<|e_p (zka rfl rfl)<|e_p (zk rfl rfl)<|zf ?_
    exact zda () (show True from by first|trivial|omega|simp_all) ((.e rfl (congrArg Value.bool cbu) (.of rfl)):SubM _ _) (ho:=(.n:PickO _ _ _)) ((.c (j:=0) rfl .n):SelR _ _ _)
 ·
  rintro ⟨⟩ -
  try dsimp only
  refine zA rfl (fun h30=> ?_) (fun h30=> ?_)
  ·
   refine ze<|za<|e_p (zb rfl)<|e_p (zb rfl)<|zf<|zc<|zJ<|zn<|zwb rQ ?_
   exact zsa yo (none,0,([]:List Rat)) (⟨fun k=>absurd ((show Rd.offC ni L=3 from if_pos om).symm.trans k) dd,fun _=>rfl⟩) (zo rfl) (zo rfl) (by rw [show Rd.offC ni L=3 from if_pos om];rfl) (ho:=(.n:PickO _ _ _)) ((.c (j:=0) rfl .n):SelR _ _ _)
  ·
   refine zv<|zc<|ze<|ze<|za<|e_mv rfl<|e_p (zC yg rfl)<|e_mv rfl<|zf<|zc<|zt<|zga (X:=Nat) (fun x:Nat=>x≤nL∧∀j,j<x→Rd.cc ni (L.getD j Rd.c0)=0) (fun x=>[(33,ya yb ((x:Nat):Int)),(32,ya yb ((nL:Nat):Int)),(31,.slice pL nL cL),(0,ya yb ni),(1,.slice pL nL cL)]) (fun x=>[]) (fun x=>[slF (rI4 .i64) pL cL L]) (fun x:Nat=>nL - x) 0 (show 0≤nL∧∀j,j<0→Rd.cc ni (L.getD j Rd.c0)=0 from by exact ⟨Nat.zero_le _,fun j h=>by omega⟩) ((.e rfl (by first|rfl|(congr 1;omega)|simp_all) (.of rfl)):SubM _ _) (ho:=(.n:PickO _ _ _)) ((.c (j:=0) rfl .n):SelR _ _ _) ?_
   rintro i hI
   replace hI:i≤nL∧∀j,j<i→Rd.cc ni (L.getD j Rd.c0)=0:=hI
   try dsimp only
   obtain ⟨hi,hall⟩:=hI
   refine ze<|za<|e_p (zT rfl rfl)<|zf<|zc<|ze<|zA rfl (fun h3=> ?_) (fun h3=> ?_)
   ·
    refine zv<|zc<|ze<|zt<|ze<|za<|zV (x0:=(L.getD i Rd.c0)) 0 i rfl yg sz68 rfl rfl rfl (by first|rfl|assumption|omega|exact Rd.fz_len _ _ _|exact Rd.RK_len _ _|exact Rd.prt_len _ _|(rw [Mx.oz_len om];done)|(rw [Mx.oz_len (by rw [List.length_append];simp;omega)];done)|(rw [oh_len];assumption)|(simp;done)) rfl rfl (gD (d:=Rd.c0) om) (fun b4 o5 hok6=> ?_)
    obtain ⟨hok60,hok61,hok62,hok63⟩:=hok6
    replace hok60:=zN.1 hok60
    replace hok61:=zN.1 hok61
    replace hok62:=zN.1 hok62
    replace hok63:=zN.1 hok63
    refine e_ru (zaa (j:=0) 0 ty68 rfl rfl rfl (.t4 .nil))<|zK rfl rfl (zw zr68 rfl) (fun b7=> ?_)
    refine zl 0 rfl rfl rfl rfl rfl sz68 rfl (.t4 .nil) .z<|zf<|zc<|zt<|zDa (X:=Unit) (fun x=>True) (fun x=>[(37,.bool (decide (((((((((L.getD i Rd.c0).a<0)∨(ni≤(L.getD i Rd.c0).a))∨((L.getD i Rd.c0).b<0))∨(ni≤(L.getD i Rd.c0).b))∨((L.getD i Rd.c0).d<(-65535)))∨(65535<(L.getD i Rd.c0).d))∨((L.getD i Rd.c0).w<1))∨(4096<(L.getD i Rd.c0).w)))),(7,yc (some ⟨b7,0,none⟩)),(33,ya yb ((i:Nat):Int)),(32,ya yb ((nL:Nat):Int)),(31,.slice pL nL cL),(0,ya yb ni),(1,.slice pL nL cL)]) (fun x=>[boxA b7 68 [ya yb ((L.getD i Rd.c0).a),ya yb ((L.getD i Rd.c0).b),ya yb ((L.getD i Rd.c0).d),ya yb ((L.getD i Rd.c0).w)]]) (fun x=>[atF b4 o5 [ya yb ((L.getD i Rd.c0).a),ya yb ((L.getD i Rd.c0).b),ya yb ((L.getD i Rd.c0).d),ya yb ((L.getD i Rd.c0).w)],slF (rI4 .i64) pL cL L]) ?_ ?_
    ·
     refine za<|e_p (zh ye rfl sz3 rfl rfl)<|e_ru (zg 0 ty3 rfl rfl rfl)<|e_p (zT rfl rfl)<|zO rfl rfl (zS rfl) (fun h8=> ?_) (fun h8=> ?_)
     ·
      refine e_no<|e_no<|e_no<|e_no<|e_p (zk rfl rfl)<|e_mv rfl<|e_no<|e_no<|e_no<|e_p (zk rfl rfl)<|e_mv rfl<|e_no<|e_no<|e_no<|e_no<|e_p (zk rfl rfl)<|e_mv rfl<|e_no<|e_no<|e_no<|e_p (zk rfl rfl)<|e_mv rfl<|e_no<|e_no<|e_no<|e_p (zk rfl rfl)<|e_mv rfl<|e_no<|e_no<|e_no<|e_p (zk rfl rfl)<|e_mv rfl<|e_no<|e_no<|e_no<|e_p (zk rfl rfl)<|e_p (zb rfl)<|zf ?_
      exact zda () (show True from by first|trivial|omega|simp_all) ((.e rfl (congrArg Value.bool cbu) (.of rfl)):SubM _ _) (ho:=((.c (i:=0) rfl .n):PickO _ _ _)) ((.of [0,1] rfl):SelR _ _ _)
     ·
      refine e_p (zh ye rfl sz3 rfl rfl)<|e_ru (zg 0 ty3 rfl rfl rfl)<|e_mv rfl<|e_p (zJa rfl rfl)<|e_p (zk rfl rfl)<|zO rfl rfl (zS rfl) (fun h9=> ?_) (fun h9=> ?_)
      ·
       refine e_no<|e_no<|e_no<|e_p (zk rfl rfl)<|e_mv rfl<|e_no<|e_no<|e_no<|e_no<|e_p (zk rfl rfl)<|e_mv rfl<|e_no<|e_no<|e_no<|e_p (zk rfl rfl)<|e_mv rfl<|e_no<|e_no<|e_no<|e_p (zk rfl rfl)<|e_mv rfl<|e_no<|e_no<|e_no<|e_p (zk rfl rfl)<|e_mv rfl<|e_no<|e_no<|e_no<|e_p (zk rfl rfl)<|e_p (zb rfl)<|zf ?_
       exact zda () (show True from by first|trivial|omega|simp_all) ((.e rfl (congrArg Value.bool cbu) (.of rfl)):SubM _ _) (ho:=((.c (i:=0) rfl .n):PickO _ _ _)) ((.of [0,1] rfl):SelR _ _ _)
      ·
       refine e_p (zh ye rfl sz3 rfl rfl)<|e_ru (zg 0 ty3 rfl rfl rfl)<|e_p (zT rfl rfl)<|e_p (zk rfl rfl)<|zO rfl rfl (zS rfl) (fun h10=> ?_) (fun h10=> ?_)
       ·
        refine e_no<|e_no<|e_no<|e_no<|e_p (zk rfl rfl)<|e_mv rfl<|e_no<|e_no<|e_no<|e_p (zk rfl rfl)<|e_mv rfl<|e_no<|e_no<|e_no<|e_p (zk rfl rfl)<|e_mv rfl<|e_no<|e_no<|e_no<|e_p (zk rfl rfl)<|e_mv rfl<|e_no<|e_no<|e_no<|e_p (zk rfl rfl)<|e_p (zb rfl)<|zf ?_
        exact zda () (show True from by first|trivial|omega|simp_all) ((.e rfl (congrArg Value.bool cbu) (.of rfl)):SubM _ _) (ho:=((.c (i:=0) rfl .n):PickO _ _ _)) ((.of [0,1] rfl):SelR _ _ _)
       ·
        refine e_p (zh ye rfl sz3 rfl rfl)<|e_ru (zg 0 ty3 rfl rfl rfl)<|e_mv rfl<|e_p (zJa rfl rfl)<|e_p (zk rfl rfl)<|zO rfl rfl (zS rfl) (fun h11=> ?_) (fun h11=> ?_)
        ·
         refine e_no<|e_no<|e_no<|e_p (zk rfl rfl)<|e_mv rfl<|e_no<|e_no<|e_no<|e_p (zk rfl rfl)<|e_mv rfl<|e_no<|e_no<|e_no<|e_p (zk rfl rfl)<|e_mv rfl<|e_no<|e_no<|e_no<|e_p (zk rfl rfl)<|e_p (zb rfl)<|zf ?_
         exact zda () (show True from by first|trivial|omega|simp_all) ((.e rfl (congrArg Value.bool cbu) (.of rfl)):SubM _ _) (ho:=((.c (i:=0) rfl .n):PickO _ _ _)) ((.of [0,1] rfl):SelR _ _ _)
        ·
         refine e_p (zh ye rfl sz3 rfl rfl)<|e_ru (zg 0 ty3 rfl rfl rfl)<|e_p (zT rfl rfl)<|e_p (zk rfl rfl)<|zO rfl rfl (zS rfl) (fun h12=> ?_) (fun h12=> ?_)
         ·
          refine e_no<|e_no<|e_no<|e_p (zk rfl rfl)<|e_mv rfl<|e_no<|e_no<|e_no<|e_p (zk rfl rfl)<|e_mv rfl<|e_no<|e_no<|e_no<|e_p (zk rfl rfl)<|e_p (zb rfl)<|zf ?_
          exact zda () (show True from by first|trivial|omega|simp_all) ((.e rfl (congrArg Value.bool cbu) (.of rfl)):SubM _ _) (ho:=((.c (i:=0) rfl .n):PickO _ _ _)) ((.of [0,1] rfl):SelR _ _ _)
         ·
          refine e_p (zh ye rfl sz3 rfl rfl)<|e_ru (zg 0 ty3 rfl rfl rfl)<|e_p (zka rfl rfl)<|e_p (zk rfl rfl)<|zO rfl rfl (zS rfl) (fun h13=> ?_) (fun h13=> ?_)
          ·
           refine e_no<|e_no<|e_no<|e_p (zk rfl rfl)<|e_mv rfl<|e_no<|e_no<|e_no<|e_p (zk rfl rfl)<|e_p (zb rfl)<|zf ?_
           exact zda () (show True from by first|trivial|omega|simp_all) ((.e rfl (congrArg Value.bool cbu) (.of rfl)):SubM _ _) (ho:=((.c (i:=0) rfl .n):PickO _ _ _)) ((.of [0,1] rfl):SelR _ _ _)
          ·
           refine e_p (zh ye rfl sz3 rfl rfl)<|e_ru (zg 0 ty3 rfl rfl rfl)<|e_p (zT rfl rfl)<|e_p (zk rfl rfl)<|zO rfl rfl (zS rfl) (fun h14=> ?_) (fun h14=> ?_)
           ·
            refine e_no<|e_no<|e_no<|e_p (zk rfl rfl)<|e_p (zb rfl)<|zf ?_
            exact zda () (show True from by first|trivial|omega|simp_all) ((.e rfl (congrArg Value.bool cbu) (.of rfl)):SubM _ _) (ho:=((.c (i:=0) rfl .n):PickO _ _ _)) ((.of [0,1] rfl):SelR _ _ _)
           ·
            refine e_p (zh ye rfl sz3 rfl rfl)<|e_ru (zg 0 ty3 rfl rfl rfl)<|e_p (zka rfl rfl)<|e_p (zk rfl rfl)<|e_p (zb rfl)<|zf ?_
            exact zda () (show True from by first|trivial|omega|simp_all) ((.e rfl (congrArg Value.bool cbu) (.of rfl)):SubM _ _) (ho:=((.c (i:=0) rfl .n):PickO _ _ _)) ((.of [0,1] rfl):SelR _ _ _)
    ·
     rintro ⟨⟩ -
     try dsimp only
     refine zA rfl (fun h37=> ?_) (fun h37=> ?_)
     ·
      refine ze<|za<|e_p (zb rfl)<|e_p (zb rfl)<|zf<|zc<|zJ<|zR<|zR<|zn<|zn<|zR<|zn<|zwb rQ ?_
      have hc2:Rd.cc ni (L.getD i Rd.c0)=2:=if_pos (by unfold Rd.bad;omega)
      have hof:Rd.offC ni L=2:=by unfold Rd.offC;rw [if_neg om,Rd.cfst_at hall om (by rw [hc2];decide)];exact hc2
      exact zsa yo (none,0,([]:List Rat)) (⟨fun k=>absurd (hof.symm.trans k) dd,fun _=>rfl⟩) (zo rfl) (zo rfl) (by rw [hof];rfl) (ho:=(.n:PickO _ _ _)) ((.c (j:=0) rfl .n):SelR _ _ _)
     ·
      refine ze<|za<|e_p (zh ye rfl sz3 rfl rfl)<|e_ru (zg 0 ty3 rfl rfl rfl)<|e_p (zh ye rfl sz3 rfl rfl)<|e_ru (zg 0 ty3 rfl rfl rfl)<|e_p (zpa rfl rfl)<|e_p (zb rfl)<|zf<|zc<|zA rfl (fun h78=> ?_) (fun h78=> ?_)
      ·
       refine ze<|za<|e_p (zb rfl)<|e_p (zb rfl)<|zf<|zc<|zJ<|zR<|zR<|zn<|zn<|zR<|zn<|zwb rQ ?_
       have hc2:Rd.cc ni (L.getD i Rd.c0)=1:=by unfold Rd.cc;rw [if_neg (by unfold Rd.bad;omega),if_pos h78]
       have hof:Rd.offC ni L=1:=by unfold Rd.offC;rw [if_neg om,Rd.cfst_at hall om (by rw [hc2];decide)];exact hc2
       exact zsa yo (none,0,([]:List Rat)) (⟨fun k=>absurd (hof.symm.trans k) dd,fun _=>rfl⟩) (zo rfl) (zo rfl) (by rw [hof];rfl) (ho:=(.n:PickO _ _ _)) ((.c (j:=0) rfl .n):SelR _ _ _)
      ·
       refine zv<|zL<|zL<|zc<|za<|e_p (zH (z:=(((i+1):Nat):Int)) rfl rfl (w64 om))<|e_mv rfl<|zf<|zba (i+1) (show (i+1)≤nL∧∀j,j<(i+1)→Rd.cc ni (L.getD j Rd.c0)=0 from by refine ⟨by omega,fun j hj=> ?_⟩;by_cases e:j=i;subst e;unfold Rd.cc;rw [if_neg (by unfold Rd.bad;omega),if_neg h78];exact hall j om) (by show nL - (i+1)<nL - i;omega) ((.of rfl):SubM _ _) (ho:=(.n:PickO _ _ _)) ((.c (j:=1) rfl .n):SelR _ _ _)
   ·
    refine zea<|zi<|zi<|zp<|zc<|ze ?_
    have hof:Rd.offC ni L=0:=by unfold Rd.offC;rw [if_neg om];exact Rd.cfst_all (fun j hj=>hall j om)
    obtain ⟨n,e15⟩:∃q:Nat,ni=(q:Int):=⟨ni.toNat,by omega⟩
    subst e15
    have hko:=Rd.offC_ok hof
    have hok:=hko.2.2.2
    have hs6:=hsm hof
    have hn16:1≤n∧n≤16:=⟨hko.1,hko.2.1⟩
    have hpl:=Rd.prt_len n L
    refine za<|e_mv rfl<|zta rfl rfl (zEa (r:=rV) (k:=n) (x0:=(none,0,0)) (γ0:=()) yi inf42 rfl rfl rfl rfl om om rfl (fun g _=>by trivial) dd) (fun b16 _=> ?_)
    refine e_p (zb rfl)<|zf<|zc<|ze<|za<|e_mv rfl<|zta rfl rfl (zEa (r:=rI .i64) (k:=n) (x0:=0) (γ0:=()) yd inf3 rfl rfl rfl rfl om om rfl (fun g _=>by exact zN.2 dd) dd) (fun b17 _=> ?_)
    refine e_p (zb rfl)<|zf<|zc<|ze ?_
    have e18:(List.replicate n 0:List Int)=(Rd.RK n (L.take 0)):=by rfl
    rw [e18]
    refine za<|e_mv rfl<|e_mv rfl<|zu rfl rfl (.c rfl (.c rfl .n)) ce67 (zYc (n:=n) (pL:=pL) (nL:=nL) (cL:=cL) (L:=L) (hnL:=ass) (hn:=by first|rfl|assumption|omega|exact Rd.mkI_len _ _ _|(rw [Rd.mkI_rl om];done)|(intro i hi;rw [Rd.mkI_rl hi,Rd.mkI_rl om];done)) (hok:=by first|rfl|assumption|omega|exact Rd.mkI_len _ _ _|(rw [Rd.mkI_rl om];done)|(intro i hi;rw [Rd.mkI_rl hi,Rd.mkI_rl om];done))) (.c (j:=0) rfl .n) ?_
    rintro ⟨p319,c320⟩ -
    dsimp only [aq,nq,cq]
    refine e_p (zb rfl)<|zf<|zc<|ze<|ze<|zBd (fun w mm=>mm.rmNil 3 (rI .i64)) ?_
    have e21:(List.replicate n (none,0,0):List (Option Addr×Nat×Nat))=(Mx.oz ([]:HP) n n):=by exact Mx.oz_start n n
    rw [e21]
    refine za<|e_mv rfl<|e_p (zC yi rfl)<|e_mv rfl<|zf<|zc<|zt<|zga (X:=Nat×HP) (fun x:Nat×HP=>x.1≤n∧x.2.length=x.1) (fun x=>[(94,ya yb ((x.1:Nat):Int)),(93,ya yb ((n:Nat):Int)),(10,.slice p319 n c320),(9,.slice (some ⟨b17,0,none⟩) n n),(8,.slice (some ⟨b16,0,none⟩) n n),(0,ya yb ((n:Nat):Int)),(1,.slice pL nL cL)]) (fun x=>[rowsM 3 (rI .i64) (x.2) (Rd.mkI x.1 n (Rd.J0 (Rd.prt n L))),rowA 3 (rI .i64) (some ⟨b17,0,none⟩) n (Rd.RK n (L.take 0)),rowA 42 rV (some ⟨b16,0,none⟩) n (Mx.oz x.2 n n)]) (fun x=>[slF (rI .i64) p319 c320 (Rd.prt n L),slF (rI4 .i64) pL cL L]) (fun x:Nat×HP=>n - x.1) (0,([]:HP)) (show 0≤n∧([]:HP).length=0 from by exact ⟨Nat.zero_le _,rfl⟩) ((.e rfl (by first|rfl|(congr 1;omega)|simp_all) (.of rfl)):SubM _ _) (ho:=((.e (i:=0) rfl (by rfl) (.of [0,0] rfl)):PickO _ _ _)) ((.of [0,1] rfl):SelR _ _ _) ?_
    rintro ⟨i,hs⟩ hI2
    replace hI2:i≤n∧hs.length=i:=hI2
    try dsimp only
    obtain ⟨hi2,hlen⟩:=hI2
    refine ze<|za<|e_p (zT rfl rfl)<|zf<|zc<|ze<|zA rfl (fun h22=> ?_) (fun h22=> ?_)
    ·
     refine zv<|zc<|ze<|zt<|ze<|za<|e_mv rfl<|e_p (zb rfl)<|zf<|zc<|ze<|za<|e_mv rfl<|e_mv rfl<|e_mv rfl<|zta rfl rfl (zEa (r:=rI .i64) (k:=n) (x0:=0) (γ0:=()) yd inf3 rfl rfl rfl rfl om om rfl (fun g _=>by exact zN.2 dd) dd) (fun b23 _=> ?_)
     refine e_p (zG (j:=i) yi sz42 rfl rfl rfl om)<|zya 3 rfl rfl rfl (zM (j:=i) (x0:=(some ⟨b23,0,none⟩,n,n)) (γ0:=()) rfl rfl (by first|omega|(rw [Rd.fz_len];omega)|(rw [Mx.oz_len om];omega)|(rw [Rd.RK_len];omega)|(rw [List.length_set,Rd.RK_len];omega)) rfl rfl sz42 (fun _ _=>by trivial)) (fun _=>(.s (.s (.s .z)))) (fun _ _=> ?_)
     refine zf<|zc<|ze ?_
     have e24:(((Mx.oz hs n n).set i (some ⟨b23,0,none⟩,n,n)):List (Option Addr×Nat×Nat))=(Mx.oz (hs++[((some ⟨b23,0,none⟩:Option Addr),n)]) n n):=by exact Mx.oz_step' hlen om
     rw [e24]
     have e25:(List.replicate n 0:List Int)=(Rd.fz 0 n ((Rd.J0 (Rd.prt n L)) i)):=by exact Rd.fz_start _ _
     rw [e25]
     refine za<|e_mv rfl<|e_p (zC yi rfl)<|e_mv rfl<|zf<|zc<|zt<|zga (X:=Nat) (fun x:Nat=>x≤n) (fun x=>[(104,ya yb ((x:Nat):Int)),(103,ya yb ((n:Nat):Int)),(11,ya yb ((i:Nat):Int)),(94,ya yb ((i:Nat):Int)),(93,ya yb ((n:Nat):Int)),(10,.slice p319 n c320),(9,.slice (some ⟨b17,0,none⟩) n n),(8,.slice (some ⟨b16,0,none⟩) n n),(0,ya yb ((n:Nat):Int)),(1,.slice pL nL cL)]) (fun x=>[rowA 3 (rI .i64) (some ⟨b23,0,none⟩) n (Rd.fz x n ((Rd.J0 (Rd.prt n L)) i)),rowsM 3 (rI .i64) hs (Rd.mkI i n (Rd.J0 (Rd.prt n L))),rowA 3 (rI .i64) (some ⟨b17,0,none⟩) n (Rd.RK n (L.take 0)),rowA 42 rV (some ⟨b16,0,none⟩) n (Mx.oz (hs++[((some ⟨b23,0,none⟩:Option Addr),n)]) n n)]) (fun x=>[slF (rI .i64) p319 c320 (Rd.prt n L),slF (rI4 .i64) pL cL L]) (fun x:Nat=>n - x) 0 (show 0≤n from by exact Nat.zero_le _) ((.e rfl (by first|rfl|(congr 1;omega)|simp_all) (.of rfl)):SubM _ _) (ho:=((.of [0,0,0,0] rfl):PickO _ _ _)) ((.of [0,1] rfl):SelR _ _ _) ?_
     rintro j hJ
     replace hJ:j≤n:=hJ
     try dsimp only
     refine ze<|za<|e_p (zT rfl rfl)<|zf<|zc<|ze<|zA rfl (fun h26=> ?_) (fun h26=> ?_)
     ·
      refine zv<|zc<|ze<|zt<|ze<|za<|e_mv rfl<|e_p (zb rfl)<|zf<|zc<|ze<|zca (OW:=[]) (O:=[rowA 3 (rI .i64) (some ⟨b23,0,none⟩) n (Rd.fz j n ((Rd.J0 (Rd.prt n L)) i)),rowsM 3 (rI .i64) hs (Rd.mkI i n (Rd.J0 (Rd.prt n L))),rowA 3 (rI .i64) (some ⟨b17,0,none⟩) n (Rd.RK n (L.take 0)),rowA 42 rV (some ⟨b16,0,none⟩) n (Mx.oz (hs++[((some ⟨b23,0,none⟩:Option Addr),n)]) n n)]) 100000 mixed (.then (.block (.then (.then (.block (.block (.then (.then (.block (.then .ret)))))))))) kr<|e_dm 0 rfl rfl rfl<|e_dm 1 rfl rfl rfl<|zqa (x0:=((Rd.prt n L).getD i 0)) 2 rfl rfl kr kr 0 i rfl yd sz3 rfl rfl rfl (by first|rfl|assumption|omega|exact Rd.fz_len _ _ _|exact Rd.RK_len _ _|exact Rd.prt_len _ _|(rw [Mx.oz_len om];done)|(rw [Mx.oz_len (by rw [List.length_append];simp;omega)];done)|(rw [oh_len];assumption)|(simp;done)) rfl rfl (gD (d:=0) om) (fun b27 o28 hok29=> ?_)
      replace hok29:=zN.1 hok29
      refine e_u 3 rfl rfl (zj (j:=0) 0 ty3 rfl rfl rfl rfl)<|e_dm 4 rfl rfl rfl<|e_dm 5 rfl rfl rfl<|zqa (x0:=((Rd.prt n L).getD j 0)) 6 rfl rfl kr kr 1 j rfl yd sz3 rfl rfl rfl (by first|rfl|assumption|omega|exact Rd.fz_len _ _ _|exact Rd.RK_len _ _|exact Rd.prt_len _ _|(rw [Mx.oz_len om];done)|(rw [Mx.oz_len (by rw [List.length_append];simp;omega)];done)|(rw [oh_len];assumption)|(simp;done)) rfl rfl (gD (d:=0) om) (fun b30 o31 hok32=> ?_)
      replace hok32:=zN.1 hok32
      refine e_u 7 rfl rfl (zj (j:=0) 0 ty3 rfl rfl rfl rfl)<|e_pv 8 rfl rfl (zpa rfl rfl)<|zZ kr<|zc<|zA rfl (fun h115=> ?_) (fun h115=> ?_)
      ·
       refine za<|e_mv rfl<|e_mv rfl<|e_p (zG (j:=i) yi sz42 rfl rfl rfl om)<|r_vl rfl rfl (zE (x0:=(some ⟨b23,0,none⟩,n,n)) (v:= .slice (some ⟨b23,0,none⟩) n n) 3 i rfl ty42 rfl rfl (by exact Mx.oz_last (K:=n) om) rfl) (fun _ hok33=> ?_)
       refine e_mv rfl<|e_p (zG (j:=j) yd sz3 rfl rfl rfl om)<|zya 0 rfl rfl rfl (zM (j:=j) (x0:=1) (γ0:=()) rfl rfl (by first|omega|(rw [Rd.fz_len];omega)|(rw [Mx.oz_len om];omega)|(rw [Rd.RK_len];omega)|(rw [List.length_set,Rd.RK_len];omega)) rfl rfl sz3 (fun _ _=>by exact zN.2 om)) (fun _=> .z) (fun _ _=> ?_)
       refine zf<|zL<|zc<|za<|e_p (zH (z:=(((j+1):Nat):Int)) rfl rfl (w64 om))<|e_mv rfl<|zf<|zba (j+1) (show (j+1)≤n from by show j+1≤n;omega) (by show n - (j+1)<n - j;omega) ((.of rfl):SubM _ _) (ho:=((.e (i:=0) rfl (by first|rfl|(rw [Rd.fz_step' om (Rd.J0_1 h115)])) (.of [0,0,0] rfl)):PickO _ _ _)) ((.of [2,3] rfl):SelR _ _ _)
      ·
       refine zv<|zL<|zc<|za<|e_p (zH (z:=(((j+1):Nat):Int)) rfl rfl (w64 om))<|e_mv rfl<|zf<|zba (j+1) (show (j+1)≤n from by show j+1≤n;omega) (by show n - (j+1)<n - j;omega) ((.of rfl):SubM _ _) (ho:=((.e (i:=0) rfl (by first|rfl|(rw [Rd.fz_skip om (Rd.J0_0 h115)])) (.of [0,0,0] rfl)):PickO _ _ _)) ((.of [2,3] rfl):SelR _ _ _)
     ·
      refine zea<|zi<|zi<|zp<|zL<|zc<|za<|e_p (zH (z:=(((i+1):Nat):Int)) rfl rfl (w64 om))<|e_mv rfl<|zf ?_
      have e34:((Rd.fz j n ((Rd.J0 (Rd.prt n L)) i)):List Int)=((List.range n).map ((Rd.J0 (Rd.prt n L)) i)):=by rw [show j=n by omega];exact Rd.fz_end _ _
      rw [e34]
      refine zVc (fun w mm=>mm.rmSnoc 0 0 rfl rfl (by rw [Rd.mkI_len];exact hlen)) ?_
      try dsimp only [List.eraseIdx]
      refine zba ((i+1),(hs++[((some ⟨b23,0,none⟩:Option Addr),n)])) (show (i+1)≤n∧(hs++[((some ⟨b23,0,none⟩:Option Addr),n)]).length=(i+1) from by exact ⟨by omega,by rw [List.length_append,hlen];rfl⟩) (by show n - (i+1)<n - i;omega) ((.of rfl):SubM _ _) (ho:=((.e (i:=0) rfl (by first|rfl|(rw [Rd.mkI_succ])) (.of [0,0] rfl)):PickO _ _ _)) ((.of [0,1] rfl):SelR _ _ _)
    ·
     refine zea<|zi<|zi<|zp<|zc<|ze<|ze ?_
     have hlen2:hs.length=n:=hlen.trans om
     have e35:((Mx.oz hs n n):List (Option Addr×Nat×Nat))=(oh hs n):=by exact Mx.oz_end hlen2
     rw [e35]
     have e36:((Rd.mkI i n (Rd.J0 (Rd.prt n L))):List (List Int))=(Rd.mkI n n (Rd.J0 (Rd.prt n L))):=by rw [show i=n by omega]
     rw [e36]
     refine za<|e_mv rfl<|e_p (zC yg rfl)<|e_mv rfl<|zf<|zc<|zt<|zga (X:=Nat) (fun x:Nat=>x≤nL) (fun x=>[(126,ya yb ((x:Nat):Int)),(125,ya yb ((nL:Nat):Int)),(124,.slice pL nL cL),(9,.slice (some ⟨b17,0,none⟩) n n),(8,.slice (some ⟨b16,0,none⟩) n n)]) (fun x=>[rowsM 3 (rI .i64) hs (Rd.mkI n n (Rd.FK (Rd.prt n L) (L.take x))),rowA 3 (rI .i64) (some ⟨b17,0,none⟩) n (Rd.RK n (L.take x)),rowA 42 rV (some ⟨b16,0,none⟩) n (oh hs n)]) (fun x=>[slF (rI .i64) p319 c320 (Rd.prt n L),slF (rI4 .i64) pL cL L]) (fun x:Nat=>nL - x) 0 (show 0≤nL from by exact Nat.zero_le _) ((.e rfl (by first|rfl|(congr 1;omega)|simp_all) (.of rfl)):SubM _ _) (ho:=((.e (i:=0) rfl (by rfl) (.of [0,0] rfl)):PickO _ _ _)) ((.of [0,1] rfl):SelR _ _ _) ?_
     rintro i hI4
     replace hI4:i≤nL:=hI4
     try dsimp only
     refine ze<|za<|e_p (zT rfl rfl)<|zf<|zc<|ze<|zA rfl (fun h37=> ?_) (fun h37=> ?_)
     ·
      refine zv<|zc<|ze<|zt<|ze<|za<|zV (x0:=(L.getD i Rd.c0)) 1 i rfl yg sz68 rfl rfl rfl (by first|rfl|assumption|omega|exact Rd.fz_len _ _ _|exact Rd.RK_len _ _|exact Rd.prt_len _ _|(rw [Mx.oz_len om];done)|(rw [Mx.oz_len (by rw [List.length_append];simp;omega)];done)|(rw [oh_len];assumption)|(simp;done)) rfl rfl (gD (d:=Rd.c0) om) (fun b38 o39 hok40=> ?_)
      obtain ⟨hok400,hok401,hok402,hok403⟩:=hok40
      replace hok400:=zN.1 hok400
      replace hok401:=zN.1 hok401
      replace hok402:=zN.1 hok402
      replace hok403:=zN.1 hok403
      refine e_ru (zaa (j:=0) 0 ty68 rfl rfl rfl (.t4 .nil))<|zK rfl rfl (zw zr68 rfl) (fun b41=> ?_)
      refine zl 0 rfl rfl rfl rfl rfl sz68 rfl (.t4 .nil) .z<|zf<|zc<|ze ?_
      obtain ⟨cm,hcm⟩:∃z:Cm,z=(L.getD i Rd.c0):=⟨_,rfl⟩
      rw [← hcm]
      have hoi:Rd.Ok n cm:=by rw [hcm];exact hok.getD (show i<L.length by omega)
      have hoa:=hoi.a
      have hob:=hoi.b
      have hoa0:=hoi.a0
      have hob0:=hoi.b0
      have hone:=hoi.ne
      have hod:=hoi.d
      have how:=hoi.w
      have hmw:=Rd.mul_wd how hod
      obtain ⟨F0,hF0⟩:∃z:Rd.Fi,z=(Rd.FK (Rd.prt n L) (L.take i)):=⟨_,rfl⟩
      rw [← hF0]
      obtain ⟨R0,hR0⟩:∃z:List Int,z=(Rd.RK n (L.take i)):=⟨_,rfl⟩
      rw [← hR0]
      have hfb0:Rd.fb F0 (1+16384*((i:Nat):Int)):=by rw [hF0];exact Rd.FK_fb hok i om
      have hrb0:Rd.rb R0 (536862720*((i:Nat):Int)):=by rw [hR0];exact Rd.RK_rb hok i om
      have hrl0:R0.length=n:=by rw [hR0];exact Rd.RK_len _ _
      have hv1:=hfb0 cm.a.toNat cm.a.toNat
      have hfb1:=Rd.fb_add (W:=4096) (v:=cm.w) (a:=cm.a.toNat) (b:=cm.a.toNat) hfb0 om
      have hv2:=hfb1 cm.b.toNat cm.b.toNat
      have hfb2:=Rd.fb_add (W:=4096) (v:=cm.w) (a:=cm.b.toNat) (b:=cm.b.toNat) hfb1 om
      have hv3:=hfb2 cm.a.toNat cm.b.toNat
      have hfb3:=Rd.fb_add (W:=4096) (v:= -cm.w) (a:=cm.a.toNat) (b:=cm.b.toNat) hfb2 om
      have hv4:=hfb3 cm.b.toNat cm.a.toNat
      have hra:=hrb0 cm.a.toNat
      have hrl1:(R0.set cm.a.toNat (R0.getD cm.a.toNat 0+cm.w*cm.d)).length=n:=by rw [List.length_set];exact hrl0
      have hrb1:=(Rd.rb_set (k:=cm.a.toNat) (v:=R0.getD cm.a.toNat 0+cm.w*cm.d) (Rd.rb_up hrb0 (C:=536862720*((i:Nat):Int)+268431360) om) om) cm.b.toNat
      refine zma (.c (i:=1) rfl (.c (i:=0) rfl (.c (i:=0) rfl (.c (i:=0) rfl .n))))<|zca (OW:=[rowsM 3 (rI .i64) hs (Rd.mkI n n F0)]) (O:=[boxA b41 68 [ya yb (cm.a),ya yb (cm.b),ya yb (cm.d),ya yb (cm.w)],rowA 3 (rI .i64) (some ⟨b17,0,none⟩) n R0,rowA 42 rV (some ⟨b16,0,none⟩) n (oh hs n)]) 13 mixed (.then (.block (.then (.then (.block (.then .ret)))))) kr<|e_dm 0 rfl rfl rfl<|e_pv 1 rfl rfl (zh ye rfl sz3 rfl rfl)<|e_uw 2 rfl rfl (zg 1 ty3 rfl rfl rfl)<|e_pv 3 rfl rfl (zG (j:=(cm.a).toNat) yi sz42 rfl rfl om om)<|zdb 4 rfl rfl kr kr kr rfl rfl (zE (x0:=((rp hs ((cm.a).toNat)),n,(rc hs ((cm.a).toNat)))) (v:= .slice (rp hs ((cm.a).toNat)) n (rc hs ((cm.a).toNat))) 3 ((cm.a).toNat) rfl ty42 rfl rfl (oh_get ((mkI_sm n n F0 hlen2).hk om)) rfl) (fun _ hok42=> ?_)
      refine e_pv 5 rfl rfl (zh ye rfl sz3 rfl rfl)<|e_uw 6 rfl rfl (zg 1 ty3 rfl rfl rfl)<|e_uw 7 rfl rfl (zna 0 ((cm.a).toNat) ((cm.a).toNat) rfl ((mkI_sm n n F0 hlen2).hk om) ((mkI_sm n n F0 hlen2).mk' om) ((mkI_sm n n F0 hlen2).row om) yd sz3 rfl rfl om om)<|zdb 8 rfl rfl kr kr kr rfl rfl (zEb (x0:=(((Rd.mkI n n F0).getD ((cm.a).toNat) []).getD ((cm.a).toNat) 0)) 0 ((cm.a).toNat) ((cm.a).toNat) rfl ((mkI_sm n n F0 hlen2).hk om) ((mkI_sm n n F0 hlen2).mk' om) ty3 rfl rfl (gD (d:=(0:Int)) (by rw [(mkI_sm n n F0 hlen2).row om];omega))) (fun _ hok43=> ?_)
      replace hok43:=zN.1 hok43
      have e44:((Rd.mkI n n F0).getD ((cm.a).toNat) []).getD ((cm.a).toNat) 0=F0 (cm.a).toNat (cm.a).toNat:=by exact Rd.mkI_get om om
      rw [e44]
      refine e_pv 9 rfl rfl (zh ye rfl sz3 rfl rfl)<|e_uw 10 rfl rfl (zg 1 ty3 rfl rfl rfl)<|e_pv 11 rfl rfl (zH (z:=((F0 (cm.a).toNat (cm.a).toNat)+cm.w)) rfl rfl (w64 om))<|e_uw 12 rfl rfl (zna 0 ((cm.a).toNat) ((cm.a).toNat) rfl ((mkI_sm n n F0 hlen2).hk om) ((mkI_sm n n F0 hlen2).mk' om) ((mkI_sm n n F0 hlen2).row om) yd sz3 rfl rfl om om)<|e_one 13 (zob (A':=fun _=>rowsM 3 (rI .i64) hs ((Rd.mkI n n F0).set ((cm.a).toNat) (((Rd.mkI n n F0).getD ((cm.a).toNat) []).set ((cm.a).toNat) ((F0 (cm.a).toNat (cm.a).toNat)+cm.w)))) kr rfl rfl rfl (zgb (r:=rI .i64) (k:=((cm.a).toNat)) (j:=(cm.a).toNat) (x0:=((F0 (cm.a).toNat (cm.a).toNat)+cm.w)) (γ0:=()) ((mkI_sm n n F0 hlen2).hk om) ((mkI_sm n n F0 hlen2).mk' om) rfl rfl (by rw [(mkI_sm n n F0 hlen2).row om];omega) rfl rfl sz3 (fun _ _=>by exact zN.2 om)) (fun _ _=> ?_))
      refine zZ kr<|zc<|ze ?_
      have e45:(((Rd.mkI n n F0).set ((cm.a).toNat) (((Rd.mkI n n F0).getD ((cm.a).toNat) []).set ((cm.a).toNat) ((F0 (cm.a).toNat (cm.a).toNat)+cm.w))):List (List Int))=(Rd.mkI n n (Rd.add1 F0 cm.a.toNat cm.a.toNat cm.w)):=by exact Rd.mkI_set om om
      rw [e45]
      refine zca (OW:=[rowsM 3 (rI .i64) hs (Rd.mkI n n (Rd.add1 F0 cm.a.toNat cm.a.toNat cm.w))]) (O:=[boxA b41 68 [ya yb (cm.a),ya yb (cm.b),ya yb (cm.d),ya yb (cm.w)],rowA 3 (rI .i64) (some ⟨b17,0,none⟩) n R0,rowA 42 rV (some ⟨b16,0,none⟩) n (oh hs n)]) 13 mixed (.then (.block (.then (.then (.block (.then .ret)))))) kr<|e_dm 0 rfl rfl rfl<|e_pv 1 rfl rfl (zh ye rfl sz3 rfl rfl)<|e_uw 2 rfl rfl (zg 1 ty3 rfl rfl rfl)<|e_pv 3 rfl rfl (zG (j:=(cm.b).toNat) yi sz42 rfl rfl om om)<|zdb 4 rfl rfl kr kr kr rfl rfl (zE (x0:=((rp hs ((cm.b).toNat)),n,(rc hs ((cm.b).toNat)))) (v:= .slice (rp hs ((cm.b).toNat)) n (rc hs ((cm.b).toNat))) 3 ((cm.b).toNat) rfl ty42 rfl rfl (oh_get ((mkI_sm n n (Rd.add1 F0 cm.a.toNat cm.a.toNat cm.w) hlen2).hk om)) rfl) (fun _ hok46=> ?_)
      refine e_pv 5 rfl rfl (zh ye rfl sz3 rfl rfl)<|e_uw 6 rfl rfl (zg 1 ty3 rfl rfl rfl)<|e_uw 7 rfl rfl (zna 0 ((cm.b).toNat) ((cm.b).toNat) rfl ((mkI_sm n n (Rd.add1 F0 cm.a.toNat cm.a.toNat cm.w) hlen2).hk om) ((mkI_sm n n (Rd.add1 F0 cm.a.toNat cm.a.toNat cm.w) hlen2).mk' om) ((mkI_sm n n (Rd.add1 F0 cm.a.toNat cm.a.toNat cm.w) hlen2).row om) yd sz3 rfl rfl om om)<|zdb 8 rfl rfl kr kr kr rfl rfl (zEb (x0:=(((Rd.mkI n n (Rd.add1 F0 cm.a.toNat cm.a.toNat cm.w)).getD ((cm.b).toNat) []).getD ((cm.b).toNat) 0)) 0 ((cm.b).toNat) ((cm.b).toNat) rfl ((mkI_sm n n (Rd.add1 F0 cm.a.toNat cm.a.toNat cm.w) hlen2).hk om) ((mkI_sm n n (Rd.add1 F0 cm.a.toNat cm.a.toNat cm.w) hlen2).mk' om) ty3 rfl rfl (gD (d:=(0:Int)) (by rw [(mkI_sm n n (Rd.add1 F0 cm.a.toNat cm.a.toNat cm.w) hlen2).row om];omega))) (fun _ hok47=> ?_)
      replace hok47:=zN.1 hok47
      have e48:((Rd.mkI n n (Rd.add1 F0 cm.a.toNat cm.a.toNat cm.w)).getD ((cm.b).toNat) []).getD ((cm.b).toNat) 0=(Rd.add1 F0 cm.a.toNat cm.a.toNat cm.w) (cm.b).toNat (cm.b).toNat:=by exact Rd.mkI_get om om
      rw [e48]
      refine e_pv 9 rfl rfl (zh ye rfl sz3 rfl rfl)<|e_uw 10 rfl rfl (zg 1 ty3 rfl rfl rfl)<|e_pv 11 rfl rfl (zH (z:=(((Rd.add1 F0 cm.a.toNat cm.a.toNat cm.w) (cm.b).toNat (cm.b).toNat)+cm.w)) rfl rfl (w64 om))<|e_uw 12 rfl rfl (zna 0 ((cm.b).toNat) ((cm.b).toNat) rfl ((mkI_sm n n (Rd.add1 F0 cm.a.toNat cm.a.toNat cm.w) hlen2).hk om) ((mkI_sm n n (Rd.add1 F0 cm.a.toNat cm.a.toNat cm.w) hlen2).mk' om) ((mkI_sm n n (Rd.add1 F0 cm.a.toNat cm.a.toNat cm.w) hlen2).row om) yd sz3 rfl rfl om om)<|e_one 13 (zob (A':=fun _=>rowsM 3 (rI .i64) hs ((Rd.mkI n n (Rd.add1 F0 cm.a.toNat cm.a.toNat cm.w)).set ((cm.b).toNat) (((Rd.mkI n n (Rd.add1 F0 cm.a.toNat cm.a.toNat cm.w)).getD ((cm.b).toNat) []).set ((cm.b).toNat) (((Rd.add1 F0 cm.a.toNat cm.a.toNat cm.w) (cm.b).toNat (cm.b).toNat)+cm.w)))) kr rfl rfl rfl (zgb (r:=rI .i64) (k:=((cm.b).toNat)) (j:=(cm.b).toNat) (x0:=(((Rd.add1 F0 cm.a.toNat cm.a.toNat cm.w) (cm.b).toNat (cm.b).toNat)+cm.w)) (γ0:=()) ((mkI_sm n n (Rd.add1 F0 cm.a.toNat cm.a.toNat cm.w) hlen2).hk om) ((mkI_sm n n (Rd.add1 F0 cm.a.toNat cm.a.toNat cm.w) hlen2).mk' om) rfl rfl (by rw [(mkI_sm n n (Rd.add1 F0 cm.a.toNat cm.a.toNat cm.w) hlen2).row om];omega) rfl rfl sz3 (fun _ _=>by exact zN.2 om)) (fun _ _=> ?_))
      refine zZ kr<|zc<|ze ?_
      have e49:(((Rd.mkI n n (Rd.add1 F0 cm.a.toNat cm.a.toNat cm.w)).set ((cm.b).toNat) (((Rd.mkI n n (Rd.add1 F0 cm.a.toNat cm.a.toNat cm.w)).getD ((cm.b).toNat) []).set ((cm.b).toNat) (((Rd.add1 F0 cm.a.toNat cm.a.toNat cm.w) (cm.b).toNat (cm.b).toNat)+cm.w))):List (List Int))=(Rd.mkI n n (Rd.add1 (Rd.add1 F0 cm.a.toNat cm.a.toNat cm.w) cm.b.toNat cm.b.toNat cm.w)):=by exact Rd.mkI_set om om
      rw [e49]
      refine zca (OW:=[rowsM 3 (rI .i64) hs (Rd.mkI n n (Rd.add1 (Rd.add1 F0 cm.a.toNat cm.a.toNat cm.w) cm.b.toNat cm.b.toNat cm.w))]) (O:=[boxA b41 68 [ya yb (cm.a),ya yb (cm.b),ya yb (cm.d),ya yb (cm.w)],rowA 3 (rI .i64) (some ⟨b17,0,none⟩) n R0,rowA 42 rV (some ⟨b16,0,none⟩) n (oh hs n)]) 13 mixed (.then (.block (.then (.then (.block (.then .ret)))))) kr<|e_dm 0 rfl rfl rfl<|e_pv 1 rfl rfl (zh ye rfl sz3 rfl rfl)<|e_uw 2 rfl rfl (zg 1 ty3 rfl rfl rfl)<|e_pv 3 rfl rfl (zG (j:=(cm.a).toNat) yi sz42 rfl rfl om om)<|zdb 4 rfl rfl kr kr kr rfl rfl (zE (x0:=((rp hs ((cm.a).toNat)),n,(rc hs ((cm.a).toNat)))) (v:= .slice (rp hs ((cm.a).toNat)) n (rc hs ((cm.a).toNat))) 3 ((cm.a).toNat) rfl ty42 rfl rfl (oh_get ((mkI_sm n n (Rd.add1 (Rd.add1 F0 cm.a.toNat cm.a.toNat cm.w) cm.b.toNat cm.b.toNat cm.w) hlen2).hk om)) rfl) (fun _ hok50=> ?_)
      refine e_pv 5 rfl rfl (zh ye rfl sz3 rfl rfl)<|e_uw 6 rfl rfl (zg 1 ty3 rfl rfl rfl)<|e_uw 7 rfl rfl (zna 0 ((cm.a).toNat) ((cm.b).toNat) rfl ((mkI_sm n n (Rd.add1 (Rd.add1 F0 cm.a.toNat cm.a.toNat cm.w) cm.b.toNat cm.b.toNat cm.w) hlen2).hk om) ((mkI_sm n n (Rd.add1 (Rd.add1 F0 cm.a.toNat cm.a.toNat cm.w) cm.b.toNat cm.b.toNat cm.w) hlen2).mk' om) ((mkI_sm n n (Rd.add1 (Rd.add1 F0 cm.a.toNat cm.a.toNat cm.w) cm.b.toNat cm.b.toNat cm.w) hlen2).row om) yd sz3 rfl rfl om om)<|zdb 8 rfl rfl kr kr kr rfl rfl (zEb (x0:=(((Rd.mkI n n (Rd.add1 (Rd.add1 F0 cm.a.toNat cm.a.toNat cm.w) cm.b.toNat cm.b.toNat cm.w)).getD ((cm.a).toNat) []).getD ((cm.b).toNat) 0)) 0 ((cm.a).toNat) ((cm.b).toNat) rfl ((mkI_sm n n (Rd.add1 (Rd.add1 F0 cm.a.toNat cm.a.toNat cm.w) cm.b.toNat cm.b.toNat cm.w) hlen2).hk om) ((mkI_sm n n (Rd.add1 (Rd.add1 F0 cm.a.toNat cm.a.toNat cm.w) cm.b.toNat cm.b.toNat cm.w) hlen2).mk' om) ty3 rfl rfl (gD (d:=(0:Int)) (by rw [(mkI_sm n n (Rd.add1 (Rd.add1 F0 cm.a.toNat cm.a.toNat cm.w) cm.b.toNat cm.b.toNat cm.w) hlen2).row om];omega))) (fun _ hok51=> ?_)
      replace hok51:=zN.1 hok51
      have e52:((Rd.mkI n n (Rd.add1 (Rd.add1 F0 cm.a.toNat cm.a.toNat cm.w) cm.b.toNat cm.b.toNat cm.w)).getD ((cm.a).toNat) []).getD ((cm.b).toNat) 0=(Rd.add1 (Rd.add1 F0 cm.a.toNat cm.a.toNat cm.w) cm.b.toNat cm.b.toNat cm.w) (cm.a).toNat (cm.b).toNat:=by exact Rd.mkI_get om om
      rw [e52]
      refine e_pv 9 rfl rfl (zh ye rfl sz3 rfl rfl)<|e_uw 10 rfl rfl (zg 1 ty3 rfl rfl rfl)<|e_pv 11 rfl rfl (zla (z:=(((Rd.add1 (Rd.add1 F0 cm.a.toNat cm.a.toNat cm.w) cm.b.toNat cm.b.toNat cm.w) (cm.a).toNat (cm.b).toNat) - cm.w)) rfl rfl (w64 om))<|e_uw 12 rfl rfl (zna 0 ((cm.a).toNat) ((cm.b).toNat) rfl ((mkI_sm n n (Rd.add1 (Rd.add1 F0 cm.a.toNat cm.a.toNat cm.w) cm.b.toNat cm.b.toNat cm.w) hlen2).hk om) ((mkI_sm n n (Rd.add1 (Rd.add1 F0 cm.a.toNat cm.a.toNat cm.w) cm.b.toNat cm.b.toNat cm.w) hlen2).mk' om) ((mkI_sm n n (Rd.add1 (Rd.add1 F0 cm.a.toNat cm.a.toNat cm.w) cm.b.toNat cm.b.toNat cm.w) hlen2).row om) yd sz3 rfl rfl om om)<|e_one 13 (zob (A':=fun _=>rowsM 3 (rI .i64) hs ((Rd.mkI n n (Rd.add1 (Rd.add1 F0 cm.a.toNat cm.a.toNat cm.w) cm.b.toNat cm.b.toNat cm.w)).set ((cm.a).toNat) (((Rd.mkI n n (Rd.add1 (Rd.add1 F0 cm.a.toNat cm.a.toNat cm.w) cm.b.toNat cm.b.toNat cm.w)).getD ((cm.a).toNat) []).set ((cm.b).toNat) (((Rd.add1 (Rd.add1 F0 cm.a.toNat cm.a.toNat cm.w) cm.b.toNat cm.b.toNat cm.w) (cm.a).toNat (cm.b).toNat) - cm.w)))) kr rfl rfl rfl (zgb (r:=rI .i64) (k:=((cm.a).toNat)) (j:=(cm.b).toNat) (x0:=(((Rd.add1 (Rd.add1 F0 cm.a.toNat cm.a.toNat cm.w) cm.b.toNat cm.b.toNat cm.w) (cm.a).toNat (cm.b).toNat) - cm.w)) (γ0:=()) ((mkI_sm n n (Rd.add1 (Rd.add1 F0 cm.a.toNat cm.a.toNat cm.w) cm.b.toNat cm.b.toNat cm.w) hlen2).hk om) ((mkI_sm n n (Rd.add1 (Rd.add1 F0 cm.a.toNat cm.a.toNat cm.w) cm.b.toNat cm.b.toNat cm.w) hlen2).mk' om) rfl rfl (by rw [(mkI_sm n n (Rd.add1 (Rd.add1 F0 cm.a.toNat cm.a.toNat cm.w) cm.b.toNat cm.b.toNat cm.w) hlen2).row om];omega) rfl rfl sz3 (fun _ _=>by exact zN.2 om)) (fun _ _=> ?_))
      refine zZ kr<|zc<|ze ?_
      have e53:(((Rd.mkI n n (Rd.add1 (Rd.add1 F0 cm.a.toNat cm.a.toNat cm.w) cm.b.toNat cm.b.toNat cm.w)).set ((cm.a).toNat) (((Rd.mkI n n (Rd.add1 (Rd.add1 F0 cm.a.toNat cm.a.toNat cm.w) cm.b.toNat cm.b.toNat cm.w)).getD ((cm.a).toNat) []).set ((cm.b).toNat) (((Rd.add1 (Rd.add1 F0 cm.a.toNat cm.a.toNat cm.w) cm.b.toNat cm.b.toNat cm.w) (cm.a).toNat (cm.b).toNat) - cm.w))):List (List Int))=(Rd.mkI n n (Rd.add1 (Rd.add1 (Rd.add1 F0 cm.a.toNat cm.a.toNat cm.w) cm.b.toNat cm.b.toNat cm.w) cm.a.toNat cm.b.toNat (-cm.w))):=by exact Rd.mkI_sub om om
      rw [e53]
      refine zca (OW:=[rowsM 3 (rI .i64) hs (Rd.mkI n n (Rd.add1 (Rd.add1 (Rd.add1 F0 cm.a.toNat cm.a.toNat cm.w) cm.b.toNat cm.b.toNat cm.w) cm.a.toNat cm.b.toNat (-cm.w)))]) (O:=[boxA b41 68 [ya yb (cm.a),ya yb (cm.b),ya yb (cm.d),ya yb (cm.w)],rowA 3 (rI .i64) (some ⟨b17,0,none⟩) n R0,rowA 42 rV (some ⟨b16,0,none⟩) n (oh hs n)]) 13 mixed (.then (.block (.then (.then (.block (.then .ret)))))) kr<|e_dm 0 rfl rfl rfl<|e_pv 1 rfl rfl (zh ye rfl sz3 rfl rfl)<|e_uw 2 rfl rfl (zg 1 ty3 rfl rfl rfl)<|e_pv 3 rfl rfl (zG (j:=(cm.b).toNat) yi sz42 rfl rfl om om)<|zdb 4 rfl rfl kr kr kr rfl rfl (zE (x0:=((rp hs ((cm.b).toNat)),n,(rc hs ((cm.b).toNat)))) (v:= .slice (rp hs ((cm.b).toNat)) n (rc hs ((cm.b).toNat))) 3 ((cm.b).toNat) rfl ty42 rfl rfl (oh_get ((mkI_sm n n (Rd.add1 (Rd.add1 (Rd.add1 F0 cm.a.toNat cm.a.toNat cm.w) cm.b.toNat cm.b.toNat cm.w) cm.a.toNat cm.b.toNat (-cm.w)) hlen2).hk om)) rfl) (fun _ hok54=> ?_)
      refine e_pv 5 rfl rfl (zh ye rfl sz3 rfl rfl)<|e_uw 6 rfl rfl (zg 1 ty3 rfl rfl rfl)<|e_uw 7 rfl rfl (zna 0 ((cm.b).toNat) ((cm.a).toNat) rfl ((mkI_sm n n (Rd.add1 (Rd.add1 (Rd.add1 F0 cm.a.toNat cm.a.toNat cm.w) cm.b.toNat cm.b.toNat cm.w) cm.a.toNat cm.b.toNat (-cm.w)) hlen2).hk om) ((mkI_sm n n (Rd.add1 (Rd.add1 (Rd.add1 F0 cm.a.toNat cm.a.toNat cm.w) cm.b.toNat cm.b.toNat cm.w) cm.a.toNat cm.b.toNat (-cm.w)) hlen2).mk' om) ((mkI_sm n n (Rd.add1 (Rd.add1 (Rd.add1 F0 cm.a.toNat cm.a.toNat cm.w) cm.b.toNat cm.b.toNat cm.w) cm.a.toNat cm.b.toNat (-cm.w)) hlen2).row om) yd sz3 rfl rfl om om)<|zdb 8 rfl rfl kr kr kr rfl rfl (zEb (x0:=(((Rd.mkI n n (Rd.add1 (Rd.add1 (Rd.add1 F0 cm.a.toNat cm.a.toNat cm.w) cm.b.toNat cm.b.toNat cm.w) cm.a.toNat cm.b.toNat (-cm.w))).getD ((cm.b).toNat) []).getD ((cm.a).toNat) 0)) 0 ((cm.b).toNat) ((cm.a).toNat) rfl ((mkI_sm n n (Rd.add1 (Rd.add1 (Rd.add1 F0 cm.a.toNat cm.a.toNat cm.w) cm.b.toNat cm.b.toNat cm.w) cm.a.toNat cm.b.toNat (-cm.w)) hlen2).hk om) ((mkI_sm n n (Rd.add1 (Rd.add1 (Rd.add1 F0 cm.a.toNat cm.a.toNat cm.w) cm.b.toNat cm.b.toNat cm.w) cm.a.toNat cm.b.toNat (-cm.w)) hlen2).mk' om) ty3 rfl rfl (gD (d:=(0:Int)) (by rw [(mkI_sm n n (Rd.add1 (Rd.add1 (Rd.add1 F0 cm.a.toNat cm.a.toNat cm.w) cm.b.toNat cm.b.toNat cm.w) cm.a.toNat cm.b.toNat (-cm.w)) hlen2).row om];omega))) (fun _ hok55=> ?_)
      replace hok55:=zN.1 hok55
      have e56:((Rd.mkI n n (Rd.add1 (Rd.add1 (Rd.add1 F0 cm.a.toNat cm.a.toNat cm.w) cm.b.toNat cm.b.toNat cm.w) cm.a.toNat cm.b.toNat (-cm.w))).getD ((cm.b).toNat) []).getD ((cm.a).toNat) 0=(Rd.add1 (Rd.add1 (Rd.add1 F0 cm.a.toNat cm.a.toNat cm.w) cm.b.toNat cm.b.toNat cm.w) cm.a.toNat cm.b.toNat (-cm.w)) (cm.b).toNat (cm.a).toNat:=by exact Rd.mkI_get om om
      rw [e56]
      refine e_pv 9 rfl rfl (zh ye rfl sz3 rfl rfl)<|e_uw 10 rfl rfl (zg 1 ty3 rfl rfl rfl)<|e_pv 11 rfl rfl (zla (z:=(((Rd.add1 (Rd.add1 (Rd.add1 F0 cm.a.toNat cm.a.toNat cm.w) cm.b.toNat cm.b.toNat cm.w) cm.a.toNat cm.b.toNat (-cm.w)) (cm.b).toNat (cm.a).toNat) - cm.w)) rfl rfl (w64 om))<|e_uw 12 rfl rfl (zna 0 ((cm.b).toNat) ((cm.a).toNat) rfl ((mkI_sm n n (Rd.add1 (Rd.add1 (Rd.add1 F0 cm.a.toNat cm.a.toNat cm.w) cm.b.toNat cm.b.toNat cm.w) cm.a.toNat cm.b.toNat (-cm.w)) hlen2).hk om) ((mkI_sm n n (Rd.add1 (Rd.add1 (Rd.add1 F0 cm.a.toNat cm.a.toNat cm.w) cm.b.toNat cm.b.toNat cm.w) cm.a.toNat cm.b.toNat (-cm.w)) hlen2).mk' om) ((mkI_sm n n (Rd.add1 (Rd.add1 (Rd.add1 F0 cm.a.toNat cm.a.toNat cm.w) cm.b.toNat cm.b.toNat cm.w) cm.a.toNat cm.b.toNat (-cm.w)) hlen2).row om) yd sz3 rfl rfl om om)<|e_one 13 (zob (A':=fun _=>rowsM 3 (rI .i64) hs ((Rd.mkI n n (Rd.add1 (Rd.add1 (Rd.add1 F0 cm.a.toNat cm.a.toNat cm.w) cm.b.toNat cm.b.toNat cm.w) cm.a.toNat cm.b.toNat (-cm.w))).set ((cm.b).toNat) (((Rd.mkI n n (Rd.add1 (Rd.add1 (Rd.add1 F0 cm.a.toNat cm.a.toNat cm.w) cm.b.toNat cm.b.toNat cm.w) cm.a.toNat cm.b.toNat (-cm.w))).getD ((cm.b).toNat) []).set ((cm.a).toNat) (((Rd.add1 (Rd.add1 (Rd.add1 F0 cm.a.toNat cm.a.toNat cm.w) cm.b.toNat cm.b.toNat cm.w) cm.a.toNat cm.b.toNat (-cm.w)) (cm.b).toNat (cm.a).toNat) - cm.w)))) kr rfl rfl rfl (zgb (r:=rI .i64) (k:=((cm.b).toNat)) (j:=(cm.a).toNat) (x0:=(((Rd.add1 (Rd.add1 (Rd.add1 F0 cm.a.toNat cm.a.toNat cm.w) cm.b.toNat cm.b.toNat cm.w) cm.a.toNat cm.b.toNat (-cm.w)) (cm.b).toNat (cm.a).toNat) - cm.w)) (γ0:=()) ((mkI_sm n n (Rd.add1 (Rd.add1 (Rd.add1 F0 cm.a.toNat cm.a.toNat cm.w) cm.b.toNat cm.b.toNat cm.w) cm.a.toNat cm.b.toNat (-cm.w)) hlen2).hk om) ((mkI_sm n n (Rd.add1 (Rd.add1 (Rd.add1 F0 cm.a.toNat cm.a.toNat cm.w) cm.b.toNat cm.b.toNat cm.w) cm.a.toNat cm.b.toNat (-cm.w)) hlen2).mk' om) rfl rfl (by rw [(mkI_sm n n (Rd.add1 (Rd.add1 (Rd.add1 F0 cm.a.toNat cm.a.toNat cm.w) cm.b.toNat cm.b.toNat cm.w) cm.a.toNat cm.b.toNat (-cm.w)) hlen2).row om];omega) rfl rfl sz3 (fun _ _=>by exact zN.2 om)) (fun _ _=> ?_))
      refine zZ kr<|zc<|ze ?_
      have e57:(((Rd.mkI n n (Rd.add1 (Rd.add1 (Rd.add1 F0 cm.a.toNat cm.a.toNat cm.w) cm.b.toNat cm.b.toNat cm.w) cm.a.toNat cm.b.toNat (-cm.w))).set ((cm.b).toNat) (((Rd.mkI n n (Rd.add1 (Rd.add1 (Rd.add1 F0 cm.a.toNat cm.a.toNat cm.w) cm.b.toNat cm.b.toNat cm.w) cm.a.toNat cm.b.toNat (-cm.w))).getD ((cm.b).toNat) []).set ((cm.a).toNat) (((Rd.add1 (Rd.add1 (Rd.add1 F0 cm.a.toNat cm.a.toNat cm.w) cm.b.toNat cm.b.toNat cm.w) cm.a.toNat cm.b.toNat (-cm.w)) (cm.b).toNat (cm.a).toNat) - cm.w))):List (List Int))=(Rd.mkI n n (Rd.add1 (Rd.add1 (Rd.add1 (Rd.add1 F0 cm.a.toNat cm.a.toNat cm.w) cm.b.toNat cm.b.toNat cm.w) cm.a.toNat cm.b.toNat (-cm.w)) cm.b.toNat cm.a.toNat (-cm.w))):=by exact Rd.mkI_sub om om
      rw [e57]
      refine zma (.c (i:=2) rfl (.c (i:=0) rfl (.c (i:=0) rfl (.c (i:=0) rfl .n))))<|zca (OW:=[rowA 3 (rI .i64) (some ⟨b17,0,none⟩) n R0]) (O:=[rowsM 3 (rI .i64) hs (Rd.mkI n n (Rd.add1 (Rd.add1 (Rd.add1 (Rd.add1 F0 cm.a.toNat cm.a.toNat cm.w) cm.b.toNat cm.b.toNat cm.w) cm.a.toNat cm.b.toNat (-cm.w)) cm.b.toNat cm.a.toNat (-cm.w))),boxA b41 68 [ya yb (cm.a),ya yb (cm.b),ya yb (cm.d),ya yb (cm.w)],rowA 42 rV (some ⟨b16,0,none⟩) n (oh hs n)]) 12 mixed (.then (.block (.then (.then (.block (.then .ret)))))) kr<|e_dm 0 rfl rfl rfl<|e_pv 1 rfl rfl (zh ye rfl sz3 rfl rfl)<|e_uw 2 rfl rfl (zg 2 ty3 rfl rfl rfl)<|e_pv 3 rfl rfl (zG (j:=(cm.a).toNat) yd sz3 rfl rfl om om)<|zdb 4 rfl rfl kr kr kr rfl rfl (zE 0 ((cm.a).toNat) rfl ty3 rfl rfl (gD (d:=0) om) rfl) (fun _ hok58=> ?_)
      replace hok58:=zN.1 hok58
      refine e_pv 5 rfl rfl (zh ye rfl sz3 rfl rfl)<|e_uw 6 rfl rfl (zg 2 ty3 rfl rfl rfl)<|e_pv 7 rfl rfl (zh ye rfl sz3 rfl rfl)<|e_uw 8 rfl rfl (zg 2 ty3 rfl rfl rfl)<|e_pv 9 rfl rfl (zza (z:=(cm.w*cm.d)) rfl rfl (w64 om))<|e_pv 10 rfl rfl (zH (z:=((R0.getD ((cm.a).toNat) 0)+(cm.w*cm.d))) rfl rfl (w64 om))<|e_pv 11 rfl rfl (zG (j:=(cm.a).toNat) yd sz3 rfl rfl om om)<|e_one 12 (zob (A':=fun _=>rowA 3 (rI .i64) (some ⟨b17,0,none⟩) n (R0.set ((cm.a).toNat) ((R0.getD ((cm.a).toNat) 0)+(cm.w*cm.d)))) kr rfl rfl rfl (zM (j:=(cm.a).toNat) (x0:=((R0.getD ((cm.a).toNat) 0)+(cm.w*cm.d))) (γ0:=()) rfl rfl (by first|omega|(rw [Rd.fz_len];omega)|(rw [Mx.oz_len om];omega)|(rw [Rd.RK_len];omega)|(rw [List.length_set,Rd.RK_len];omega)) rfl rfl sz3 (fun _ _=>by exact zN.2 om)) (fun _ _=> ?_))
      refine zZ kr<|zc<|zca (OW:=[rowA 3 (rI .i64) (some ⟨b17,0,none⟩) n (R0.set ((cm.a).toNat) ((R0.getD ((cm.a).toNat) 0)+(cm.w*cm.d)))]) (O:=[rowsM 3 (rI .i64) hs (Rd.mkI n n (Rd.add1 (Rd.add1 (Rd.add1 (Rd.add1 F0 cm.a.toNat cm.a.toNat cm.w) cm.b.toNat cm.b.toNat cm.w) cm.a.toNat cm.b.toNat (-cm.w)) cm.b.toNat cm.a.toNat (-cm.w))),boxA b41 68 [ya yb (cm.a),ya yb (cm.b),ya yb (cm.d),ya yb (cm.w)],rowA 42 rV (some ⟨b16,0,none⟩) n (oh hs n)]) 12 mixed (.block (.then (.then (.block (.then .ret))))) kr<|e_dm 0 rfl rfl rfl<|e_pv 1 rfl rfl (zh ye rfl sz3 rfl rfl)<|e_uw 2 rfl rfl (zg 2 ty3 rfl rfl rfl)<|e_pv 3 rfl rfl (zG (j:=(cm.b).toNat) yd sz3 rfl rfl om om)<|zdb 4 rfl rfl kr kr kr rfl rfl (zE 0 ((cm.b).toNat) rfl ty3 rfl rfl (gD (d:=0) om) rfl) (fun _ hok59=> ?_)
      replace hok59:=zN.1 hok59
      refine e_pv 5 rfl rfl (zh ye rfl sz3 rfl rfl)<|e_uw 6 rfl rfl (zg 2 ty3 rfl rfl rfl)<|e_pv 7 rfl rfl (zh ye rfl sz3 rfl rfl)<|e_uw 8 rfl rfl (zg 2 ty3 rfl rfl rfl)<|e_pv 9 rfl rfl (zza (z:=(cm.w*cm.d)) rfl rfl (w64 om))<|e_pv 10 rfl rfl (zla (z:=(((R0.set ((cm.a).toNat) ((R0.getD ((cm.a).toNat) 0)+(cm.w*cm.d))).getD ((cm.b).toNat) 0) - (cm.w*cm.d))) rfl rfl (w64 om))<|e_pv 11 rfl rfl (zG (j:=(cm.b).toNat) yd sz3 rfl rfl om om)<|e_one 12 (zob (A':=fun _=>rowA 3 (rI .i64) (some ⟨b17,0,none⟩) n ((R0.set ((cm.a).toNat) ((R0.getD ((cm.a).toNat) 0)+(cm.w*cm.d))).set ((cm.b).toNat) (((R0.set ((cm.a).toNat) ((R0.getD ((cm.a).toNat) 0)+(cm.w*cm.d))).getD ((cm.b).toNat) 0) - (cm.w*cm.d)))) kr rfl rfl rfl (zM (j:=(cm.b).toNat) (x0:=(((R0.set ((cm.a).toNat) ((R0.getD ((cm.a).toNat) 0)+(cm.w*cm.d))).getD ((cm.b).toNat) 0) - (cm.w*cm.d))) (γ0:=()) rfl rfl (by first|omega|(rw [Rd.fz_len];omega)|(rw [Mx.oz_len om];omega)|(rw [Rd.RK_len];omega)|(rw [List.length_set,Rd.RK_len];omega)) rfl rfl sz3 (fun _ _=>by exact zN.2 om)) (fun _ _=> ?_))
      refine zZ kr<|zL<|zc<|za<|e_p (zH (z:=(((i+1):Nat):Int)) rfl rfl (w64 om))<|e_mv rfl<|zf ?_
      have e60:((Rd.mkI n n (Rd.add1 (Rd.add1 (Rd.add1 (Rd.add1 F0 cm.a.toNat cm.a.toNat cm.w) cm.b.toNat cm.b.toNat cm.w) cm.a.toNat cm.b.toNat (-cm.w)) cm.b.toNat cm.a.toNat (-cm.w))):List (List Int))=(Rd.mkI n n (Rd.FK (Rd.prt n L) (L.take (i+1)))):=by rw [Rd.FK_take (show i<L.length by omega),←hF0,←hcm];rfl
      rw [e60]
      have e61:(((R0.set ((cm.a).toNat) ((R0.getD ((cm.a).toNat) 0)+(cm.w*cm.d))).set ((cm.b).toNat) (((R0.set ((cm.a).toNat) ((R0.getD ((cm.a).toNat) 0)+(cm.w*cm.d))).getD ((cm.b).toNat) 0) - (cm.w*cm.d))):List Int)=(Rd.RK n (L.take (i+1))):=by rw [Rd.RK_take (show i<L.length by omega),←hR0,←hcm];rfl
      rw [e61]
      refine zba (i+1) (show (i+1)≤nL from by show i+1≤nL;omega) (by show nL - (i+1)<nL - i;omega) ((.of rfl):SubM _ _) (ho:=((.of [1,0,1] rfl):PickO _ _ _)) ((.of [1,2] rfl):SelR _ _ _)
     ·
      refine zea<|zi<|zi<|zp<|zc<|ze ?_
      have hLt:L.take i=L:=List.take_of_length_le om
      have e62:((Rd.mkI n n (Rd.FK (Rd.prt n L) (L.take i))):List (List Int))=(Rd.mkI n n (Rd.FK (Rd.prt n L) L)):=by rw [hLt]
      rw [e62]
      have e63:((Rd.RK n (L.take i)):List Int)=(Rd.RK n L):=by rw [hLt]
      rw [e63]
      refine zBd (fun w mm=>mm.rmFreeze 2 0 rfl rfl ((mkI_sm n n (Rd.FK (Rd.prt n L) L) hlen2).hl) ((mkI_sm n n (Rd.FK (Rd.prt n L) L) hlen2).rl)) ?_
      try dsimp only [List.set]
      refine za<|e_mv rfl<|zu rfl rfl (.c rfl .n) ce68 (zBg (pL:=some ⟨b16,0,none⟩) (nL:=n) (cL:=n) (LL:=(Rd.mkI n n (Rd.FK (Rd.prt n L) L))) (N:=n) (hnL:=by first|rfl|assumption|omega|exact Rd.mkI_len _ _ _|(rw [Rd.mkI_rl om];done)|(intro i hi;rw [Rd.mkI_rl hi,Rd.mkI_rl om];done)) (hL1:=by first|rfl|assumption|omega|exact Rd.mkI_len _ _ _|(rw [Rd.mkI_rl om];done)|(intro i hi;rw [Rd.mkI_rl hi,Rd.mkI_rl om];done)) (hU:=by first|rfl|assumption|omega|exact Rd.mkI_len _ _ _|(rw [Rd.mkI_rl om];done)|(intro i hi;rw [Rd.mkI_rl hi,Rd.mkI_rl om];done)) (hK:=by first|rfl|assumption|omega|exact Rd.mkI_len _ _ _|(rw [Rd.mkI_rl om];done)|(intro i hi;rw [Rd.mkI_rl hi,Rd.mkI_rl om];done)) (hL0:=by first|rfl|assumption|omega|exact Rd.mkI_len _ _ _|(rw [Rd.mkI_rl om];done)|(intro i hi;rw [Rd.mkI_rl hi,Rd.mkI_rl om];done)) (hN:=by first|rfl|assumption|omega|exact Rd.mkI_len _ _ _|(rw [Rd.mkI_rl om];done)|(intro i hi;rw [Rd.mkI_rl hi,Rd.mkI_rl om];done))) (.c (j:=0) rfl .n) ?_
      rintro ⟨p364,c365⟩ -
      dsimp only [aq,nq,cq]
      refine e_mv rfl<|e_p (zr rfl rfl)<|e_p (zr rfl rfl)<|e_p (zb rfl)<|e_p (zb rfl)<|zf<|zc<|ze<|za<|e_p (zb rfl)<|zf<|zc<|ze<|ze ?_
      have e66:((Mx.mk n n (fun ii jj=>Mx.eI (Rd.mkI n n (Rd.FK (Rd.prt n L) L)) ii jj)):List (List Rat))=(Rd.A0 n L):=by rfl
      rw [e66]
      refine zid 28 rQ ?_
      have hrl:=Rd.RK_len n L
      refine za<|e_mv rfl<|e_p (zC yd rfl)<|e_mv rfl<|zf<|zc<|zt<|zga (X:=Nat×(Option Addr)×Nat) (fun x:Nat×(Option Addr)×Nat=>x.1≤n) (fun x=>[(17,.slice (x.2.1) (x.1) (x.2.2)),(214,ya yb ((x.1:Nat):Int)),(213,ya yb ((n:Nat):Int)),(212,.slice (some ⟨b17,0,none⟩) n n),(15,.slice p364 n c365)]) (fun x=>[rowA 28 rQ (x.2.1) (x.2.2) ((Rd.rr n L).take x.1),rowA 3 (rI .i64) (some ⟨b17,0,none⟩) n (Rd.RK n L)]) (fun x=>[slF (rS rQ) p364 c365 (Rd.A0 n L),slF (rS (rI .i64)) (some ⟨b16,0,none⟩) n (Rd.mkI n n (Rd.FK (Rd.prt n L) L)),slF (rI .i64) p319 c320 (Rd.prt n L),slF (rI4 .i64) pL cL L]) (fun x:Nat×(Option Addr)×Nat=>n - x.1) (0,none,0) (show 0≤n from by exact Nat.zero_le _) ((.c rfl (.e rfl (by first|rfl|(congr 1;omega)|simp_all) (.of rfl))):SubM _ _) (ho:=((.e (i:=0) rfl (by first|rfl|(congr 1;omega)|simp_all) (.c (i:=1) rfl .n)):PickO _ _ _)) ((.of [0,1,2,3] rfl):SelR _ _ _) ?_
      rintro ⟨i,pB,cB⟩ hI5
      replace hI5:i≤n:=hI5
      try dsimp only
      have htl:((Rd.rr n L).take i).length=i:=by rw [List.length_take,Rd.rr_len];omega
      refine ze<|za<|e_p (zT rfl rfl)<|zf<|zc<|ze<|zA rfl (fun h67=> ?_) (fun h67=> ?_)
      ·
       refine zv<|zc<|ze<|zt<|ze<|za<|e_p (zG (j:=i) yd sz3 rfl rfl rfl om)<|r_vl rfl rfl (zE 1 i rfl ty3 rfl rfl (gD (d:=0) om) rfl) (fun _ hok68=> ?_)
       replace hok68:=zN.1 hok68
       refine e_p (zb rfl)<|zf<|zc<|za<|e_mv rfl<|e_mv rfl<|zu rfl rfl (.c rfl .n) ce56 (zSa (z:=((Rd.RK n L).getD i 0)) (hz:=by first|rfl|assumption|omega|exact Rd.mkI_len _ _ _|(rw [Rd.mkI_rl om];done)|(intro i hi;rw [Rd.mkI_rl hi,Rd.mkI_rl om];done))) (.n) ?_
       rintro ⟨w369,w470⟩ -
       dsimp only [aq,nq,cq]
       refine zta rfl rfl (zcb (r:=rQ) (k:=1) yf inf28 rfl dd dd dd (.c (x:=((((Rd.RK n L).getD i 0):Int):Rat)) (cs:=[w369.b,w369.l,w470.b,w470.l]) (w369,w470) rfl rfl rfl (fun g hr=>Holds.get 0 rfl hr) .n)) (fun b71 _=> ?_)
       refine zja 0 rfl .z<|zya 1 rfl rfl rfl (zva 0 rfl yf inf28 dd rfl rfl (by first|rfl|assumption|omega|exact Rd.fz_len _ _ _|exact Rd.RK_len _ _|exact Rd.prt_len _ _|(rw [Mx.oz_len om];done)|(rw [Mx.oz_len (by rw [List.length_append];simp;omega)];done)|(rw [oh_len];assumption)|(simp;done)) rfl (by first|rfl|assumption|omega|exact Rd.fz_len _ _ _|exact Rd.RK_len _ _|exact Rd.prt_len _ _|(rw [Mx.oz_len om];done)|(rw [Mx.oz_len (by rw [List.length_append];simp;omega)];done)|(rw [oh_len];assumption)|(simp;done)) om om) (fun _=>(.s .z)) ?_
       rintro ⟨p72,c73⟩ -
       dsimp only [aq,nq,cq]
       refine e_p (zb rfl)<|zf<|zL<|zc<|za<|e_p (zH (z:=(((i+1):Nat):Int)) rfl rfl (w64 om))<|e_mv rfl<|zf<|zba ((i+1),p72,c73) (show (i+1)≤n from by show i+1≤n;omega) (by show n - (i+1)<n - i;omega) ((.e rfl (by first|rfl|(congr 1;omega)|simp_all) (.of rfl)):SubM _ _) (ho:=((.e (i:=1) rfl (by first|rfl|(rw [Rd.rr_take om])) (.c (i:=1) rfl .n)):PickO _ _ _)) ((.of [2,3,4,5] rfl):SelR _ _ _)
      ·
       refine zea<|zi<|zi<|zp<|zc<|ze ?_
       have e74:(((Rd.rr n L).take i):List Rat)=(Rd.rr n L):=by exact List.take_of_length_le (by rw [Rd.rr_len];omega)
       rw [e74]
       have e75:(.slice pB i cB:Value)= .slice pB n cB:=by congr 1;omega
       rw [e75]
       refine za<|e_mv rfl<|e_mv rfl<|zja 0 rfl .z<|zu rfl rfl (.c rfl (.c rfl .n)) ce69 (zUe (pA:=p364) (nA:=n) (cA:=c365) (A:=(Rd.A0 n L)) (p:=pB) (cap:=cB) (l:=(Rd.rr n L)) (n9:=n) (b:=3) (hnM:=by exact Mx.mk_len _ _ _) (hM1:=by first|rfl|assumption|omega|exact Rd.mkI_len _ _ _|(rw [Rd.mkI_rl om];done)|(intro i hi;rw [Rd.mkI_rl hi,Rd.mkI_rl om];done)) (hAr:=by exact Mx.mk_rl _ _ _) (hN:=by first|rfl|assumption|omega|exact Rd.mkI_len _ _ _|(rw [Rd.mkI_rl om];done)|(intro i hi;rw [Rd.mkI_rl hi,Rd.mkI_rl om];done)) (hn:=by exact Rd.rr_len _ _) (hb1:=by first|rfl|assumption|omega|exact Rd.mkI_len _ _ _|(rw [Rd.mkI_rl om];done)|(intro i hi;rw [Rd.mkI_rl hi,Rd.mkI_rl om];done)) (hbA:=by exact Rd.A0_hq hok om) (hbl:=by exact Rd.rr_hq hok om) (hH:=by exact Rd.H6 om) (hcons:=by exact Rd.cons hok)) (.c (j:=1) rfl (.c (j:=0) rfl .n)) ?_
       rintro ⟨p376,c377,sol⟩ hsol
       dsimp only [aq,nq,cq]
       replace hsol:sol.length=n∧(∀i,i<n→Mx.sm n (fun c=>Mx.e (Rd.A0 n L) i c*sol.getD c 0)=(Rd.rr n L).getD i 0)∧(∀c,yk (sol.getD c 0)≤Mx.H 3 n):=hsol
       refine e_p (zr rfl rfl)<|e_p (zr rfl rfl)<|e_p (zb rfl)<|e_p (zb rfl)<|zf<|zc<|zJ ?_
       exact zsa yo (p376,c377,sol) (⟨fun _=>⟨hsol.1,Rd.lv_of hok om hsol.2.1,fun c=>Nat.le_trans (hsol.2.2 c) (Rd.H6 om)⟩,fun k=>absurd hof k⟩) (zo rfl) (zo rfl) (by rw [hof,hsol.1]) (ho:=(.n:PickO _ _ _)) ((.c (j:=0) rfl .n):SelR _ _ _)
end Go.Proofs.YtkohlohbogpooaaGreat.Sp
namespace Go.Proofs.YtkohlohbogpooaaGreat.Rd
set_option linter.unusedVariables false
def q0:Option Rat:=some (Rat.divInt 0 1)
theorem kn_co:(if Bl.rok 3 1 100 [5,5,5] then ckC (some (Rat.divInt 1 8)) (some (Rat.divInt 0 1)) 32 32 3 1 else 1)=0:=by decide +kernel
theorem kn_out:out [5,5,5] (cor ((some (Rat.divInt 1 8)).getD 0) ((some (Rat.divInt 0 1)).getD 0) 32 32 (3:Int).toNat 100 [5,5,5])=[5,6,8]:=by decide +kernel
theorem kn_off {sol:List Rat} (hl:sol.length=(2:Int).toNat) (h:Lv (2:Int).toNat [⟨0,1,6,1⟩] (fun c=>sol.getD c 0)):sol=[Rat.divInt 3 1,Rat.divInt (-3) 1]:=by
  have h1:=h.t 0
  have h2:=h.g 0 (by decide)
  have e1:T 2 (prt 2 [⟨0,1,6,1⟩]) (fun c=>sol.getD c 0) 0=sol.getD 0 0+sol.getD 1 0:=by
    have hp:prt 2 [⟨0,1,6,1⟩]=[0,0]:=by decide +kernel
    rw [hp];unfold T
    rw [Mx.sm_succ,Mx.sm_succ,if_pos (by decide),if_pos (by decide)]
    show (0:Rat)+sol.getD 0 0+sol.getD 1 0=_;grind
  have e2:S (fun c=>(c.w:Rat)*(xa (fun c=>sol.getD c 0) c.b - xa (fun c=>sol.getD c 0) c.a+(c.d:Rat))*(dl 0 c.b - dl 0 c.a)) [⟨0,1,6,1⟩]= - (sol.getD 1 0 - sol.getD 0 0+6):=by
    unfold S S xa dl
    have a:((1:Int):Rat)=1:=rfl
    have b:((6:Int):Rat)=6:=rfl
    show ((1:Int):Rat)*(sol.getD 1 0 - sol.getD 0 0+((6:Int):Rat))*((if (0:Nat)=1 then (1:Rat) else 0) - (if (0:Nat)=0 then (1:Rat) else 0))+0=_
    rw [a,b,if_neg (by decide),if_pos rfl];grind
  have h1':T 2 (prt 2 [⟨0,1,6,1⟩]) (fun c=>sol.getD c 0) 0=0:=h1
  rw [e1] at h1'
  rw [e2] at h2
  have a3:Rat.divInt 3 1=3:=by decide +kernel
  have a4:Rat.divInt (-3) 1= -3:=by decide +kernel
  refine Mx.ext_getD 0 (by rw [hl];rfl) fun c hc=> ?_
  rw [hl] at hc
  have hc':c<2:=hc
  rcases (show c=0∨c=1 by omega) with e|e
  · subst e;show sol.getD 0 0=Rat.divInt 3 1;rw [a3];grind
  · subst e;show sol.getD 1 0=Rat.divInt (-3) 1;rw [a4];grind
theorem kn_tab:Tb [2,0,2] [1,1,2] [1,1,2]:=⟨rfl,fun i hi=>by
  have hi':i<3:=hi
  rcases (show i=0∨i=1∨i=2 by omega) with e|e|e
  · subst e;exact ⟨1,rfl,⟨by decide,by decide,by decide⟩⟩
  · subst e;exact ⟨1,rfl,⟨by decide,by decide,by decide⟩⟩
  · subst e;exact ⟨2,rfl,⟨by decide,by decide,by decide⟩⟩⟩
theorem kn_fd:((3:Nat):Int)*sI (fun jj=>lg [0,1,2] jj*lg [0,1,2] jj) 3≠sI (lg [0,1,2]) 3*sI (lg [0,1,2]) 3:=by decide
theorem kn_a:∀i,i<3→0≤lg [0,1,2] i∧lg [0,1,2] i≤65535:=by decide
theorem kn_b:∀i,i<3→0≤lg [1,3,5] i∧lg [1,3,5] i≤65535:=by decide
theorem kn_f1:Rat.divInt (((3:Nat):Int)*sI (fun jj=>lg [0,1,2] jj*lg [1,3,5] jj) 3 - sI (lg [0,1,2]) 3*sI (lg [1,3,5]) 3) (((3:Nat):Int)*sI (fun jj=>lg [0,1,2] jj*lg [0,1,2] jj) 3 - sI (lg [0,1,2]) 3*sI (lg [0,1,2]) 3)=Rat.divInt 2 1:=by decide +kernel
theorem kn_f2:Rat.divInt (sI (lg [1,3,5]) 3) ((3:Nat):Int) - Rat.divInt 2 1*Rat.divInt (sI (lg [0,1,2]) 3) ((3:Nat):Int)=Rat.divInt 1 1:=by decide +kernel
end Go.Proofs.YtkohlohbogpooaaGreat.Rd
namespace Go.Proofs.YtkohlohbogpooaaGreat.Sp
open Go
theorem addQE {R:List Fa} {p:Option Addr} {c:Nat} {l:List Rat} (i:Nat) (hi:R[i]? =some (slF rQ p c l)):∀g,Holds g R→Holds g (slF rE p c (l.map some) :: R):=fun g h=>⟨slF_QE i hi g h,h⟩
theorem addQe {R:List Fa} {u v:Wd} {q:Rat} (i:Nat) (hi:R[i]? =some (qF true u v q)):∀g,Holds g R→Holds g (eF u v (some q) :: R):=fun g h=>⟨qF_e (Holds.get i hi h),h⟩
section
variable {P : Program} {n : Sz} {m : Fm} {O : List As} {R : List Fa} {d : Option Tmp} {ty : TypeId} {ps : String} {af : Array Edge} {gd : Option (Nat × Bool)}
end
end Go.Proofs.YtkohlohbogpooaaGreat.Sp
namespace Go.Proofs.YtkohlohbogpooaaGreat.Sp
open Go
set_option linter.unusedVariables false
set_option maxRecDepth 100000
set_option maxHeartbeats 8000000
theorem zNf:Con yj 10 [] [] [] (Y:=Unit) (fun y=>True) (fun y=> .bool true) (fun y=>[]) (fun y=>[]):=by
 refine zm Tryz.func10 rfl rfl rfl (fun c=> ?_)
 show RunC _ _ _ _ _ [] [] []
 refine ze<|za<|e_p (zb rfl)<|zf<|zc<|ze<|za<|e_p (zU zr23 rfl Tryz.underlying23 (.c sz3 (.c sz3 .n)) (.c rfl (.c rfl .n)) (.c rfl rfl rfl (.take .nil) (.c rfl rfl rfl (.skip (.take .nil)) .n)))<|zu rfl rfl (.c rfl (.c rfl .n)) ce25 (zMa (z1:=1) (z2:=8) (hz1:=by first|rfl|decide|omega|(decide +kernel)) (hz2:=by first|rfl|decide|omega|(decide +kernel)) (hy:=by first|rfl|decide|omega|(decide +kernel))) (.n) ?_
 rintro ⟨w31,w42⟩ -
 dsimp only [aq,nq,cq]
 refine zu rfl rfl (.c rfl (.c rfl .n)) ce25 (zMa (z1:=0) (z2:=1) (hz1:=by first|rfl|decide|omega|(decide +kernel)) (hz2:=by first|rfl|decide|omega|(decide +kernel)) (hy:=by first|rfl|decide|omega|(decide +kernel))) (.n) ?_
 rintro ⟨w33,w44⟩ -
 dsimp only [aq,nq,cq]
 refine e_p (zU zr30 rfl Tryz.underlying30 (.c sz23 (.c sz28 (.c sz28 .n))) (.c rfl (.c rfl (.c rfl .n))) (.c rfl rfl rfl (.t2 .nil) (.c rfl rfl rfl (.s2 (.t4 .nil)) (.c rfl rfl rfl (.s4 (.s2 (.t4 .nil))) .n))))<|zK rfl rfl (zw zr30 rfl) (fun b5=> ?_)
 refine zl 0 rfl rfl rfl rfl rfl sz30 rfl (.t8 (.t2 .nil)) .z<|zf<|zc<|ze<|za<|e_ru (zd 0 ty30 rfl rfl (.t8 (.t2 .nil)))<|zkb (addQe 1 rfl)<|zkb (addQe 1 rfl)<|zu rfl rfl (.c rfl (.c rfl (.c rfl .n))) ce12 (con_At (cx:=32) (cy:=32) (u1:=w31) (v1:=w42) (x1:=(some (Rat.divInt 1 8))) (u2:=w33) (v2:=w44) (x2:=(some (Rat.divInt 0 1))) (x9:=2) (y9:=0) (hq1:=by decide +kernel) (hq2:=by decide +kernel)) (.c (j:=1) rfl (.c (j:=0) rfl .n)) ?_
 rintro ⟨w36,w47⟩ hat
 dsimp only [aq,nq,cq]
 replace hat:(¬(((some (Rat.divInt 1 8)).isSome=true∧(some (Rat.divInt 0 1)).isSome=true)∧(-0x100000≤(32:Int)∧(32:Int)≤0x100000∧ -0x100000≤(32:Int)∧(32:Int)≤0x100000∧0≤(2:Int)∧(2:Int)<64∧0≤(0:Int)∧(0:Int)<64))→w36=wz∧w47=wz):=hat
 have e8:(if ((some (Rat.divInt 1 8)).isSome=true∧(some (Rat.divInt 0 1)).isSome=true) then (if (-0x100000≤(32:Int)∧(32:Int)≤0x100000∧ -0x100000≤(32:Int)∧(32:Int)≤0x100000∧0≤(2:Int)∧(2:Int)<64∧0≤(0:Int)∧(0:Int)<64) then 0 else 2) else 1:Int)=0:=by decide +kernel
 rw [e8]
 have e9:(decide (((some (Rat.divInt 1 8)).isSome=true∧(some (Rat.divInt 0 1)).isSome=true)∧(-0x100000≤(32:Int)∧(32:Int)≤0x100000∧ -0x100000≤(32:Int)∧(32:Int)≤0x100000∧0≤(2:Int)∧(2:Int)<64∧0≤(0:Int)∧(0:Int)<64)):Bool)=true:=by decide +kernel
 rw [e9]
 have e10:((if ((some (Rat.divInt 1 8)).isSome=true∧(some (Rat.divInt 0 1)).isSome=true)∧(-0x100000≤(32:Int)∧(32:Int)≤0x100000∧ -0x100000≤(32:Int)∧(32:Int)≤0x100000∧0≤(2:Int)∧(2:Int)<64∧0≤(0:Int)∧(0:Int)<64) then (Rd.gn ((some (Rat.divInt 1 8)).getD 0) ((some (Rat.divInt 0 1)).getD 0) 32 32 2 0) else 0):Rat)=(Rat.divInt 3 2):=by decide +kernel
 rw [e10]
 refine e_mv rfl<|e_p (zr rfl rfl)<|e_p (zr rfl rfl)<|zK rfl rfl (zw zr28 rfl) (fun b11=> ?_)
 refine zl 0 rfl rfl rfl rfl rfl sz28 rfl (.t4 .nil) .z<|e_p (zb rfl)<|zf<|zc<|ze<|za<|e_ru (zd 1 ty30 rfl rfl (.t8 (.t2 .nil)))<|zta rfl rfl (zW (enc:=fun z:Int=>[ya yb z]) (ok:=InK .i64) (h1:=fun _=>rfl) (h2:=fun _=>rfl) (k:=3) yd inf3 rfl dd dd dd (.c (x:=5) rfl rfl (fun _ _=>by exact zN.2 om) (.c (x:=5) rfl rfl (fun _ _=>by exact zN.2 om) (.c (x:=5) rfl rfl (fun _ _=>by exact zN.2 om) .n)))) (fun b12 _=> ?_)
 refine e_p (zU zr44 rfl yq (.c sz3 (.c sz3 (.c sz3 (.c sz42 .n)))) (.c rfl (.c rfl (.c rfl (.c rfl .n)))) (.c rfl rfl rfl (.take .nil) (.c rfl rfl rfl (.skip (.take .nil)) (.c rfl rfl rfl (.s2 (.take .nil)) (.c rfl rfl rfl (.s2 (.skip (.take .nil))) .n)))))<|zja 0 rfl .z<|zu rfl rfl (.c rfl (.c rfl .n)) ce21 (zge (cx:=32) (cy:=32) (u1:=w31) (v1:=w42) (x1:=(some (Rat.divInt 1 8))) (u2:=w33) (v2:=w44) (x2:=(some (Rat.divInt 0 1))) (w:=3) (h:=1) (m:=100) (p:=some ⟨b12,0,none⟩) (n:=3) (cap:=3) (l:=[5,5,5]) (hq1:=by decide +kernel) (hq2:=by decide +kernel) (hn:=by rfl)) (.c (j:=3) rfl (.c (j:=2) rfl (.c (j:=0) rfl .n))) ?_
 rintro ⟨p313,c314,oc⟩ hco
 dsimp only [aq,nq,cq]
 replace hco:((if Bl.rok 3 1 100 ([5,5,5]) then Rd.ckC (some (Rat.divInt 1 8)) (some (Rat.divInt 0 1)) 32 32 3 1 else 1)=0→oc=Rd.out ([5,5,5]) (Rd.cor ((some (Rat.divInt 1 8)).getD 0) ((some (Rat.divInt 0 1)).getD 0) 32 32 ((3:Int).toNat) 100 ([5,5,5])))∧((if Bl.rok 3 1 100 ([5,5,5]) then Rd.ckC (some (Rat.divInt 1 8)) (some (Rat.divInt 0 1)) 32 32 3 1 else 1)≠0→oc=[]):=hco
 have hc0:=Rd.kn_co
 have e15:(if Bl.rok 3 1 100 ([5,5,5]) then Rd.ckC (some (Rat.divInt 1 8)) (some (Rat.divInt 0 1)) 32 32 3 1 else 1:Int)=0:=by exact hc0
 rw [e15]
 have e16:oc=([5,6,8]:List Int):=by (rw [hco.1 hc0];exact Rd.kn_out)
 subst e16
 refine e_mv rfl<|e_p (zr rfl rfl)<|e_p (zr rfl rfl)<|zK rfl rfl (zw zr44 rfl) (fun b17=> ?_)
 refine zl 0 rfl rfl rfl rfl rfl sz44 rfl (.t4 .nil) .z<|e_p (zb rfl)<|zf<|zc<|ze<|za<|zta rfl rfl (zW (enc:=fun z:Int=>[ya yb z]) (ok:=InK .i64) (h1:=fun _=>rfl) (h2:=fun _=>rfl) (k:=3) yd inf3 rfl dd dd dd (.c (x:=0) rfl rfl (fun _ _=>by exact zN.2 om) (.c (x:=1) rfl rfl (fun _ _=>by exact zN.2 om) (.c (x:=2) rfl rfl (fun _ _=>by exact zN.2 om) .n)))) (fun b18 _=> ?_)
 refine zta rfl rfl (zW (enc:=fun z:Int=>[ya yb z]) (ok:=InK .i64) (h1:=fun _=>rfl) (h2:=fun _=>rfl) (k:=3) yd inf3 rfl dd dd dd (.c (x:=1) rfl rfl (fun _ _=>by exact zN.2 om) (.c (x:=3) rfl rfl (fun _ _=>by exact zN.2 om) (.c (x:=5) rfl rfl (fun _ _=>by exact zN.2 om) .n)))) (fun b19 _=> ?_)
 refine zja 1 rfl (.s .z)<|zja 0 rfl .z<|zu rfl rfl (.c rfl (.c rfl .n)) ce47 (zDg (p1:=some ⟨b18,0,none⟩) (n1:=3) (c1:=3) (l1:=[0,1,2]) (p2:=some ⟨b19,0,none⟩) (n2:=3) (c2:=3) (l2:=[1,3,5]) (hn1:=by rfl) (hn2:=by rfl) (hnn:=by rfl) (hn9:=dd) (hl1:=by exact Rd.kn_a) (hl2:=by exact Rd.kn_b) (hdg:=by exact Rd.kn_fd)) (.c (j:=1) rfl (.c (j:=0) rfl .n)) ?_
 rintro ⟨w320,w421,w522,w623⟩ -
 dsimp only [aq,nq,cq]
 have e24:((Rat.divInt (Rd.sI (Rd.lg ([1,3,5])) 3) ((3:Nat):Int) - Rat.divInt (((3:Nat):Int)*(Rd.sI (fun jj=>Rd.lg ([0,1,2]) jj*Rd.lg ([1,3,5]) jj) 3) - (Rd.sI (Rd.lg ([0,1,2])) 3)*(Rd.sI (Rd.lg ([1,3,5])) 3)) (((3:Nat):Int)*(Rd.sI (fun jj=>Rd.lg ([0,1,2]) jj*Rd.lg ([0,1,2]) jj) 3) - (Rd.sI (Rd.lg ([0,1,2])) 3)*(Rd.sI (Rd.lg ([0,1,2])) 3))*Rat.divInt (Rd.sI (Rd.lg ([0,1,2])) 3) ((3:Nat):Int)):Rat)=(Rat.divInt 1 1):=by rw [Rd.kn_f1];exact Rd.kn_f2
 rw [e24]
 have e25:((Rat.divInt (((3:Nat):Int)*(Rd.sI (fun jj=>Rd.lg ([0,1,2]) jj*Rd.lg ([1,3,5]) jj) 3) - (Rd.sI (Rd.lg ([0,1,2])) 3)*(Rd.sI (Rd.lg ([1,3,5])) 3)) (((3:Nat):Int)*(Rd.sI (fun jj=>Rd.lg ([0,1,2]) jj*Rd.lg ([0,1,2]) jj) 3) - (Rd.sI (Rd.lg ([0,1,2])) 3)*(Rd.sI (Rd.lg ([0,1,2])) 3))):Rat)=(Rat.divInt 2 1):=by exact Rd.kn_f1
 rw [e25]
 refine e_mv rfl<|e_p (zr rfl rfl)<|e_p (zr rfl rfl)<|e_p (zr rfl rfl)<|zK rfl rfl (zw zr28 rfl) (fun b26=> ?_)
 refine zK rfl rfl (zw zr28 rfl) (fun b27=> ?_)
 refine zl 1 rfl rfl rfl rfl rfl sz28 rfl (.t4 .nil) (.s .z)<|zl 0 rfl rfl rfl rfl rfl sz28 rfl (.t4 .nil) .z<|e_p (zb rfl)<|zf<|zc<|ze<|za<|e_p (zU zr68 rfl ye (.c sz3 (.c sz3 (.c sz3 (.c sz3 .n)))) (.c rfl (.c rfl (.c rfl (.c rfl .n)))) (.c rfl rfl rfl (.take .nil) (.c rfl rfl rfl (.skip (.take .nil)) (.c rfl rfl rfl (.s2 (.take .nil)) (.c rfl rfl rfl (.s2 (.skip (.take .nil))) .n)))))<|zta rfl rfl (zW (enc:=fun z:Cm=>[ya yb z.a,ya yb z.b,ya yb z.d,ya yb z.w]) (ok:=okC .i64) (h1:=fun _=>rfl) (h2:=fun _=>rfl) (k:=1) yg inf68 rfl dd dd dd (.c (x:=(⟨0,1,6,1⟩:Cm)) rfl rfl (fun _ _=>by exact ⟨zN.2 (by first|omega|decide|(dsimp only;omega)),zN.2 (by first|omega|decide|(dsimp only;omega)),zN.2 (by first|omega|decide|(dsimp only;omega)),zN.2 (by first|omega|decide|(dsimp only;omega))⟩) .n)) (fun b28 _=> ?_)
 refine zja 0 rfl .z<|zu rfl rfl (.c rfl (.c rfl .n)) ce31 (zSc (ni:=2) (pL:=some ⟨b28,0,none⟩) (nL:=1) (cL:=1) (L:=[(⟨0,1,6,1⟩:Cm)]) (hnL:=by rfl) (hsm:=by exact fun _=>by decide)) (.c (j:=0) rfl .n) ?_
 rintro ⟨p329,c330,so⟩ hof
 dsimp only [aq,nq,cq]
 replace hof:(Rd.offC 2 ([(⟨0,1,6,1⟩:Cm)])=0→so.length=(2:Int).toNat∧Rd.Lv (2:Int).toNat ([(⟨0,1,6,1⟩:Cm)]) (fun c=>so.getD c 0)∧(∀c,yk (so.getD c 0)≤200000))∧(Rd.offC 2 ([(⟨0,1,6,1⟩:Cm)])≠0→so=[]):=hof
 have hf0:Rd.offC 2 [(⟨0,1,6,1⟩:Cm)]=0:=by decide
 have e31:(Rd.offC 2 ([(⟨0,1,6,1⟩:Cm)]):Int)=0:=by exact hf0
 rw [e31]
 have e32:so=([Rat.divInt 3 1,Rat.divInt (-3) 1]:List Rat):=by exact Rd.kn_off (hof.1 hf0).1 (hof.1 hf0).2.1
 subst e32
 refine e_mv rfl<|e_p (zr rfl rfl)<|e_p (zr rfl rfl)<|e_p (zb rfl)<|e_p (zb rfl)<|zf<|zc<|ze<|za<|zta rfl rfl (zW (enc:=fun z:Int=>[ya yb z]) (ok:=InK .i64) (h1:=fun _=>rfl) (h2:=fun _=>rfl) (k:=3) yd inf3 rfl dd dd dd (.c (x:=2) rfl rfl (fun _ _=>by exact zN.2 om) (.c (x:=0) rfl rfl (fun _ _=>by exact zN.2 om) (.c (x:=2) rfl rfl (fun _ _=>by exact zN.2 om) .n)))) (fun b33 _=> ?_)
 refine zta rfl rfl (zW (enc:=fun z:Int=>[ya yb z]) (ok:=InK .i64) (h1:=fun _=>rfl) (h2:=fun _=>rfl) (k:=3) yd inf3 rfl dd dd dd (.c (x:=1) rfl rfl (fun _ _=>by exact zN.2 om) (.c (x:=1) rfl rfl (fun _ _=>by exact zN.2 om) (.c (x:=2) rfl rfl (fun _ _=>by exact zN.2 om) .n)))) (fun b34 _=> ?_)
 refine zja 1 rfl (.s .z)<|zja 0 rfl .z<|zu rfl rfl (.c rfl (.c rfl .n)) ce38 (zMf (p1:=some ⟨b33,0,none⟩) (n1:=3) (c1:=3) (l1:=[2,0,2]) (p2:=some ⟨b34,0,none⟩) (n2:=3) (c2:=3) (l2:=[1,1,2]) (hn1:=by rfl) (hn2:=by rfl)) (.c (j:=1) rfl (.c (j:=0) rfl .n)) ?_
 rintro ⟨p335,c336,ot⟩ htb
 dsimp only [aq,nq,cq]
 replace htb:((Rd.tbC ([2,0,2]) ([1,1,2]))=0→Rd.Tb ([2,0,2]) ([1,1,2]) ot)∧((Rd.tbC ([2,0,2]) ([1,1,2]))≠0→ot=[]):=htb
 have ht0:Rd.tbC [2,0,2] [1,1,2]=0:=by decide +kernel
 have e37:(Rd.tbC ([2,0,2]) ([1,1,2]):Int)=0:=by exact ht0
 rw [e37]
 have e38:ot=([1,1,2]:List Int):=by exact (htb.1 ht0).uniq Rd.kn_tab
 subst e38
 refine e_mv rfl<|e_p (zr rfl rfl)<|e_p (zr rfl rfl)<|e_p (zb rfl)<|e_p (zb rfl)<|zf<|zc<|zDa (X:=Unit) (fun x=>True) (fun x=>[(0,.bool true)]) (fun x=>[boxA b27 28 (cw [w522,w623]),boxA b26 28 (cw [w320,w421]),boxA b17 44 [ya yb (if 0=0 then 3 else 0),ya yb (if 0=0 then 1 else 0),ya yb (if 0=0 then 100 else 0),.slice p313 (([5,6,8]:List Int).length) c314],boxA b11 28 (cw [w36,w47]),boxA b5 30 [ya yb 32,ya yb 32,w31.b,w31.l,w42.b,w42.l,w33.b,w33.l,w44.b,w44.l]]) (fun x=>[slF (rI .i64) p335 c336 ([1,1,2]:List Int),slF (rI .i64) (some ⟨b34,0,none⟩) 3 ([1,1,2]),slF (rI .i64) (some ⟨b33,0,none⟩) 3 ([2,0,2]),slF rQ p329 c330 ([Rat.divInt 3 1,Rat.divInt (-3) 1]:List Rat),slF (rI4 .i64) (some ⟨b28,0,none⟩) 1 ([(⟨0,1,6,1⟩:Cm)]),qF true w320 w421 (Rat.divInt 2 1),qF true w522 w623 (Rat.divInt 1 1),slF (rI .i64) (some ⟨b19,0,none⟩) 3 ([1,3,5]),slF (rI .i64) (some ⟨b18,0,none⟩) 3 ([0,1,2]),slF (rI .i64) p313 c314 ([5,6,8]:List Int),slF (rI .i64) (some ⟨b12,0,none⟩) 3 ([5,5,5]),qF true w36 w47 (Rat.divInt 3 2),eF w33 w44 (some (Rat.divInt 0 1)),eF w31 w42 (some (Rat.divInt 1 8)),qF true w33 w44 (Rat.divInt 0 1),qF true w31 w42 (Rat.divInt 1 8)]) ?_ ?_
 ·
  refine zca (OW:=[]) (O:=[emA,emA,emA,boxA b27 28 (cw [w522,w623]),boxA b26 28 (cw [w320,w421]),emA,emA,boxA b17 44 [ya yb (if 0=0 then 3 else 0),ya yb (if 0=0 then 1 else 0),ya yb (if 0=0 then 100 else 0),.slice p313 (([5,6,8]:List Int).length) c314],emA,boxA b11 28 (cw [w36,w47]),boxA b5 30 [ya yb 32,ya yb 32,w31.b,w31.l,w42.b,w42.l,w33.b,w33.l,w44.b,w44.l]]) 100000 mixed (.then .ret) kr<|e_dm 0 rfl rfl rfl<|e_dm 1 rfl rfl rfl<|e_pv 2 rfl rfl (zH (z:=0) rfl rfl (w64 dd))<|e_dm 3 rfl rfl rfl<|e_pv 4 rfl rfl (zH (z:=0) rfl rfl (w64 dd))<|e_dm 5 rfl rfl rfl<|e_pv 6 rfl rfl (zH (z:=0) rfl rfl (w64 dd))<|e_dm 7 rfl rfl rfl<|e_pv 8 rfl rfl (zH (z:=0) rfl rfl (w64 dd))<|e_pv 9 rfl rfl (zpa rfl rfl) ?_
  rw [show true=true from by decide]
  refine e_dm 10 rfl rfl rfl<|e_u 11 rfl rfl (zd 9 ty28 rfl rfl (.t4 .nil))<|e_one 12 (zx rfl rfl rfl rfl (.c rfl (.c rfl .n)) ce25 (zMa (z1:=3) (z2:=2) (hz1:=by first|rfl|decide|omega|(decide +kernel)) (hz2:=by first|rfl|decide|omega|(decide +kernel)) (hy:=by first|rfl|decide|omega|(decide +kernel))) (.n) ?_)
  rintro ⟨w339,w440⟩ -
  dsimp only [aq,nq,cq]
  refine e_one 13 (zTa rfl rfl rfl rfl (.c rfl (.c rfl .n)) ce18 (zRb (u1:=w36) (v1:=w47) (q1:=(Rat.divInt 3 2)) (u2:=w339) (v2:=w440) (q2:=Rat.divInt 3 2) (hl:=by first|rfl|decide|omega|(decide +kernel))) (.c (j:=12) rfl (.c (j:=0) rfl .n)) ?_)
  rw [show (decide ((Rat.divInt 3 2)=(Rat.divInt 3 2)))=true from by exact decide_eq_true rfl]
  refine e_pv 14 rfl rfl (zk rfl rfl)<|e_dm 15 rfl rfl rfl<|e_pv 16 rfl rfl (zh yq rfl sz42 rfl rfl)<|e_u 17 rfl rfl (zg 7 ty42 rfl rfl rfl)<|e_pv 18 rfl rfl (zC yd rfl)<|e_pv 19 rfl rfl (zpa rfl rfl) ?_
  rw [show (decide (((([5,6,8]:List Int).length:Nat):Int)=3))=true from by decide]
  refine e_pv 20 rfl rfl (zk rfl rfl)<|e_dm 21 rfl rfl rfl<|e_pv 22 rfl rfl (zh yq rfl sz42 rfl rfl)<|e_u 23 rfl rfl (zg 7 ty42 rfl rfl rfl)<|zqa (x0:=(([5,6,8]:List Int).getD 2 0)) 24 rfl rfl kr kr 10 2 rfl yd sz3 rfl rfl rfl cbo rfl rfl (gD (d:=0) (by first|omega|decide)) (fun b41 o42 hok43=> ?_)
  replace hok43:=zN.1 hok43
  refine e_u 25 rfl rfl (zj (j:=0) 0 ty3 rfl rfl rfl rfl)<|e_pv 26 rfl rfl (zpa rfl rfl) ?_
  rw [show (decide ((([5,6,8]:List Int).getD 2 0)=8))=true from by decide]
  refine e_pv 27 rfl rfl (zk rfl rfl)<|e_dm 28 rfl rfl rfl<|e_u 29 rfl rfl (zd 4 ty28 rfl rfl (.t4 .nil))<|e_one 30 (zx rfl rfl rfl rfl (.c rfl (.c rfl .n)) ce25 (zMa (z1:=2) (z2:=1) (hz1:=by first|rfl|decide|omega|(decide +kernel)) (hz2:=by first|rfl|decide|omega|(decide +kernel)) (hy:=by first|rfl|decide|omega|(decide +kernel))) (.n) ?_)
  rintro ⟨w344,w445⟩ -
  dsimp only [aq,nq,cq]
  refine e_one 31 (zTa rfl rfl rfl rfl (.c rfl (.c rfl .n)) ce18 (zRb (u1:=w320) (v1:=w421) (q1:=(Rat.divInt 2 1)) (u2:=w344) (v2:=w445) (q2:=Rat.divInt 2 1) (hl:=by first|rfl|decide|omega|(decide +kernel))) (.c (j:=8) rfl (.c (j:=0) rfl .n)) ?_)
  rw [show (decide ((Rat.divInt 2 1)=(Rat.divInt 2 1)))=true from by exact decide_eq_true rfl]
  refine e_pv 32 rfl rfl (zk rfl rfl)<|e_dm 33 rfl rfl rfl<|e_u 34 rfl rfl (zd 3 ty28 rfl rfl (.t4 .nil))<|e_one 35 (zx rfl rfl rfl rfl (.c rfl (.c rfl .n)) ce25 (zMa (z1:=1) (z2:=1) (hz1:=by first|rfl|decide|omega|(decide +kernel)) (hz2:=by first|rfl|decide|omega|(decide +kernel)) (hy:=by first|rfl|decide|omega|(decide +kernel))) (.n) ?_)
  rintro ⟨w346,w447⟩ -
  dsimp only [aq,nq,cq]
  refine e_one 36 (zTa rfl rfl rfl rfl (.c rfl (.c rfl .n)) ce18 (zRb (u1:=w522) (v1:=w623) (q1:=(Rat.divInt 1 1)) (u2:=w346) (v2:=w447) (q2:=Rat.divInt 1 1) (hl:=by first|rfl|decide|omega|(decide +kernel))) (.c (j:=10) rfl (.c (j:=0) rfl .n)) ?_)
  rw [show (decide ((Rat.divInt 1 1)=(Rat.divInt 1 1)))=true from by exact decide_eq_true rfl]
  refine e_pv 37 rfl rfl (zk rfl rfl)<|e_dm 38 rfl rfl rfl<|e_dm 39 rfl rfl rfl<|e_one 40 (zx rfl rfl rfl rfl (.c rfl (.c rfl .n)) ce25 (zMa (z1:=3) (z2:=1) (hz1:=by first|rfl|decide|omega|(decide +kernel)) (hz2:=by first|rfl|decide|omega|(decide +kernel)) (hy:=by first|rfl|decide|omega|(decide +kernel))) (.n) ?_)
  rintro ⟨w348,w449⟩ -
  dsimp only [aq,nq,cq]
  refine e_one 41 (zx rfl rfl rfl rfl (.c rfl (.c rfl .n)) ce25 (zMa (z1:=(-3)) (z2:=1) (hz1:=by first|rfl|decide|omega|(decide +kernel)) (hz2:=by first|rfl|decide|omega|(decide +kernel)) (hy:=by first|rfl|decide|omega|(decide +kernel))) (.n) ?_)
  rintro ⟨w350,w451⟩ -
  dsimp only [aq,nq,cq]
  refine e_one 42 (zRf rfl rfl rfl rfl (zcb (r:=rQ) (k:=2) yf inf28 rfl dd dd dd (.c (x:=(Rat.divInt 3 1)) (cs:=[w348.b,w348.l,w449.b,w449.l]) (w348,w449) rfl rfl rfl (fun g hr=>Holds.get 1 rfl hr) (.c (x:=(Rat.divInt (-3) 1)) (cs:=[w350.b,w350.l,w451.b,w451.l]) (w350,w451) rfl rfl rfl (fun g hr=>Holds.get 0 rfl hr) .n))) (fun b52 _=> ?_))
  refine zAc 0 rfl .z<|e_one 43 (zTa rfl rfl rfl rfl (.c rfl (.c rfl .n)) ce48 (zud (p1:=p329) (n1:=([Rat.divInt 3 1,Rat.divInt (-3) 1]:List Rat).length) (c1:=c330) (l1:=([Rat.divInt 3 1,Rat.divInt (-3) 1]:List Rat)) (p2:=some ⟨b52,0,none⟩) (n2:=2) (c2:=2) (l2:=[(Rat.divInt 3 1),(Rat.divInt (-3) 1)]) (hn1:=by first|rfl|decide|omega|(decide +kernel)) (hn2:=by first|rfl|decide|omega|(decide +kernel)) (hl:=by first|rfl|decide|omega|(decide +kernel))) (.c (j:=10) rfl (.c (j:=0) rfl .n)) ?_)
  rw [show (decide (([Rat.divInt 3 1,Rat.divInt (-3) 1]:List Rat)=([(Rat.divInt 3 1),(Rat.divInt (-3) 1)])))=true from by exact decide_eq_true rfl]
  refine e_pv 44 rfl rfl (zk rfl rfl)<|e_dm 45 rfl rfl rfl<|e_dm 46 rfl rfl rfl<|e_one 47 (zRf rfl rfl rfl rfl (zW (enc:=fun z:Int=>[ya yb z]) (ok:=InK .i64) (h1:=fun _=>rfl) (h2:=fun _=>rfl) (k:=3) yd inf3 rfl dd dd dd (.c (x:=1) rfl rfl (fun _ _=>by exact zN.2 om) (.c (x:=1) rfl rfl (fun _ _=>by exact zN.2 om) (.c (x:=2) rfl rfl (fun _ _=>by exact zN.2 om) .n)))) (fun b53 _=> ?_))
  refine zAc 0 rfl .z<|e_one 48 (zTa rfl rfl rfl rfl (.c rfl (.c rfl .n)) ce40 (zLf (p1:=p335) (n1:=([1,1,2]:List Int).length) (c1:=c336) (l1:=([1,1,2]:List Int)) (p2:=some ⟨b53,0,none⟩) (n2:=3) (c2:=3) (l2:=[1,1,2]) (hn1:=by first|rfl|decide|omega|(decide +kernel)) (hn2:=by first|rfl|decide|omega|(decide +kernel))) (.c (j:=8) rfl (.c (j:=0) rfl .n)) ?_)
  rw [show (decide (([1,1,2]:List Int)=([1,1,2])))=true from by exact decide_eq_true rfl]
  refine e_pv 49 rfl rfl (zk rfl rfl)<|e_pv 50 rfl rfl (zb rfl)<|zZ kr ?_
  exact zda () (show True from by first|trivial|omega|simp_all) ((.c rfl .n):SubM _ _) (ho:=((.of [5,5,7,8,8] rfl):PickO _ _ _)) ((.of [8,9,10,11,12,13,14,15,16,17,18,19,20,21,22,23] rfl):SelR _ _ _)
 ·
  rintro ⟨⟩ -
  try dsimp only [cw]
  refine zJ ?_
  exact zy Tryz.results10 () trivial (zo rfl) rfl (ho:=(.n:PickO _ _ _)) (.n:SelR _ _ _)
end Go.Proofs.YtkohlohbogpooaaGreat.Sp
namespace Go.Proofs.YtkohlohbogpooaaGreat.Sp
open Go
set_option linter.unusedVariables false
theorem ee_n {g:Hp} {u v:Wd} {x:Option Rat} (h:(eF u v x).on g):u.n≤1099511627776∧v.n≤1099511627776:=by
  obtain ⟨y,a,b,rfl⟩:=h
  have h1:=a.2.1;have h2:=b.2.1;have h3:=a.2.2.1;have h4:=b.2.2.1
  omega
end Go.Proofs.YtkohlohbogpooaaGreat.Sp
namespace Go.Proofs.YtkohlohbogpooaaGreat.Sp
open Go
set_option linter.unusedVariables false
set_option maxRecDepth 100000
set_option maxHeartbeats 400000
theorem zCc {u1:Wd} {v1:Wd} {q1:Rat} {u2:Wd} {v2:Wd} {q2:Rat} (hl:yk q1+yk q2+1≤1099511627776):Con yj 24 [.agg #[u1.b,u1.l,v1.b,v1.l],.agg #[u2.b,u2.l,v2.b,v2.l]] [] [qF true u1 v1 q1,qF true u2 v2 q2] (Y:=Wd×Wd) (fun y=>True) (fun y=> .agg #[y.1.b,y.1.l,y.2.b,y.2.l]) (fun y=>[]) (fun y=>[qF true y.1 y.2 (q1*q2)]):=by
 refine zm Tryz.func24 rfl rfl rfl (fun c=> ?_)
 show RunC _ _ _ _ _ [(0,.agg #[u1.b,u1.l,v1.b,v1.l]),(1,.agg #[u2.b,u2.l,v2.b,v2.l])] [] [qF true u1 v1 q1,qF true u2 v2 q2]
 refine ze<|za<|zK rfl rfl (zX rfl rfl) (fun b1=> ?_)
 refine zK rfl rfl (zX rfl rfl) (fun b2=> ?_)
 refine zK rfl rfl (zw zr28 rfl) (fun b3=> ?_)
 refine zf<|zc<|ze<|za<|e_ru (zd 2 ty28 rfl rfl (.t4 .nil))<|e_ru (zd 1 ty28 rfl rfl (.t4 .nil))<|zu rfl rfl (.c rfl (.c rfl .n)) ce61 (zCf (k1:=true) (u1:=u1) (v1:=v1) (q1:=q1) (k2:=true) (u2:=u2) (v2:=v2) (q2:=q2) (hl:=ass)) (.c (j:=0) rfl (.c (j:=1) rfl .n)) ?_
 rintro ⟨w34,w45⟩ -
 dsimp only [aq,nq,cq]
 refine zl 0 rfl rfl rfl rfl rfl sz28 rfl (.t4 .nil) .z<|zf<|zc<|zJ ?_
 exact zy Tryz.results24 (w34,w45) trivial (zq 0 ty28 rfl rfl (.t4 .nil)) rfl (ho:=(.n:PickO _ _ _)) ((.c (j:=0) rfl .n):SelR _ _ _)
theorem zFb {u1:Wd} {v1:Wd} {q1:Rat} {u2:Wd} {v2:Wd} {q2:Rat} (hl:yk q1+yk q2+1≤1099511627776):Con yj 36 [.agg #[u1.b,u1.l,v1.b,v1.l],.agg #[u2.b,u2.l,v2.b,v2.l]] [] [qF true u1 v1 q1,qF true u2 v2 q2] (Y:=Wd×Wd) (fun y=>True) (fun y=> .agg #[y.1.b,y.1.l,y.2.b,y.2.l]) (fun y=>[]) (fun y=>[qF true y.1 y.2 (q1+q2)]):=by
 refine zm Tryz.func36 rfl rfl rfl (fun c=> ?_)
 show RunC _ _ _ _ _ [(0,.agg #[u1.b,u1.l,v1.b,v1.l]),(1,.agg #[u2.b,u2.l,v2.b,v2.l])] [] [qF true u1 v1 q1,qF true u2 v2 q2]
 refine ze<|za<|zK rfl rfl (zX rfl rfl) (fun b1=> ?_)
 refine zK rfl rfl (zX rfl rfl) (fun b2=> ?_)
 refine zK rfl rfl (zw zr28 rfl) (fun b3=> ?_)
 refine zf<|zc<|ze<|za<|e_ru (zd 2 ty28 rfl rfl (.t4 .nil))<|e_ru (zd 1 ty28 rfl rfl (.t4 .nil))<|zu rfl rfl (.c rfl (.c rfl .n)) ce65 (zNd (k1:=true) (u1:=u1) (v1:=v1) (q1:=q1) (k2:=true) (u2:=u2) (v2:=v2) (q2:=q2) (hl:=ass)) (.c (j:=0) rfl (.c (j:=1) rfl .n)) ?_
 rintro ⟨w34,w45⟩ -
 dsimp only [aq,nq,cq]
 refine zl 0 rfl rfl rfl rfl rfl sz28 rfl (.t4 .nil) .z<|zf<|zc<|zJ ?_
 exact zy Tryz.results36 (w34,w45) trivial (zq 0 ty28 rfl rfl (.t4 .nil)) rfl (ho:=(.n:PickO _ _ _)) ((.c (j:=0) rfl .n):SelR _ _ _)
theorem zhe {u1:Wd} {v1:Wd} (h1:u1.n≤1099511627776) (h2:v1.n≤1099511627776):Con yj 49 [.agg #[u1.b,u1.l,v1.b,v1.l]] [] [] (Y:=Unit) (fun y=>True) (fun y=> ya yb (((u1.n+v1.n):Nat):Int)) (fun y=>[]) (fun y=>[]):=by
 refine zm Tryz.func49 rfl rfl rfl (fun c=> ?_)
 show RunC _ _ _ _ _ [(0,.agg #[u1.b,u1.l,v1.b,v1.l])] [] []
 refine ze<|za<|zK rfl rfl (zX rfl rfl) (fun b1=> ?_)
 refine e_p (zb rfl)<|zf<|zc<|ze<|za<|e_p (zh yl rfl sz26 rfl rfl)<|e_p (zh ym rfl sz24 rfl rfl)<|e_ru (zg 0 ty24 rfl rfl rfl)<|e_p (zC yh rfl)<|e_p (zh yl rfl sz26 rfl rfl)<|e_p (zh ym rfl sz24 rfl rfl)<|e_ru (zg 0 ty24 rfl rfl rfl)<|e_p (zC yh rfl)<|e_p (zH (z:=(((u1.n+v1.n):Nat):Int)) rfl rfl (w64 om))<|e_p (zb rfl)<|zf<|zc<|zJ ?_
 exact zy Tryz.results49 () trivial (zo rfl) rfl (ho:=(.n:PickO _ _ _)) (.n:SelR _ _ _)
end Go.Proofs.YtkohlohbogpooaaGreat.Sp
namespace Go.Proofs.YtkohlohbogpooaaGreat.Rd
open Go Big Mx
set_option linter.unusedVariables false
theorem S_take (f:Cm→Rat) {l:List Cm} {i:Nat} (h:i<l.length):S f (l.take (i+1))=S f (l.take i)+f (l.getD i c0):=by
  rw [getD_take (d:=c0) h,S_snoc]
theorem st_step {n:Nat} {p:List Int} {c:Cm} (hp:p.length=n) (hc:Ok n c):(p.set c.a.toNat (min (p.getD c.a.toNat 0) (p.getD c.b.toNat 0))).set c.b.toNat ((p.set c.a.toNat (min (p.getD c.a.toNat 0) (p.getD c.b.toNat 0))).getD c.a.toNat 0)=st p c:=by
  have h1:=hc.a
  rw [getD_set (by omega),if_pos rfl];rfl
theorem offC_rng {n:Int} {l:List Cm} (h:offC n l=0):1≤n∧n≤16∧l.length≤64:=by
  unfold offC at h
  by_cases k:n<1∨16<n∨64<l.length
  · rw [if_pos k] at h;exact absurd h (by decide)
  · omega
theorem oG_all {lo:List (Option Rat)} {n b:Nat} (hn:lo.length=n) (h1:1≤b) (h:∀i,i<n→hq ((lo.getD i none).getD 0)≤b) (i:Nat):hq ((lo.getD i none).getD 0)≤b:=by
  by_cases k:i<n
  · exact h i k
  · rw [List.getD_eq_getElem?_getD,List.getElem?_eq_none (by omega)];show hq (0:Rat)≤b;rw [hq_zero];exact h1
def Tq (p:List Int) (x:List Rat) (v:Int) (j:Nat):Rat:=sm j fun jj=>if p.getD jj 0=v then x.getD jj 0 else 0
theorem Tq_yes {p:List Int} {x:List Rat} {v:Int} {j:Nat} (h:p.getD j 0=v):Tq p x v (j+1)=Tq p x v j+x.getD j 0:=by
  unfold Tq;rw [sm_succ,if_pos h]
theorem Tq_no {p:List Int} {x:List Rat} {v:Int} {j:Nat} (h:¬p.getD j 0=v):Tq p x v (j+1)=Tq p x v j:=by
  unfold Tq;rw [sm_succ,if_neg h];grind
theorem Tq_0 (p:List Int) (x:List Rat) (v:Int):Rat.divInt 0 1=Tq p x v 0:=by
  show Rat.divInt 0 1=(0:Rat);decide +kernel
theorem Tq_hq {p:List Int} {x:List Rat} {v:Int} {B:Nat} (h:∀i,hq (x.getD i 0)≤B):∀j,hq (Tq p x v j)≤1+j*(B+1)
  |0=>by show hq (0:Rat)≤_;rw [hq_zero];omega
  |j+1=>by
    have ih:=Tq_hq (p:=p) (v:=v) h j
    have e:(j+1)*(B+1)=j*(B+1)+(B+1):=by rw [Nat.add_mul,Nat.one_mul]
    by_cases k:p.getD j 0=v
    · rw [Tq_yes k]
      have a:=hq_add (Tq p x v j) (x.getD j 0)
      have b:=h j
      omega
    · rw [Tq_no k];omega
theorem Tq_all {n:Nat} {l:List Cm} {o:List Rat} (h:Lv n l fun c=>o.getD c 0) (v:Int):Tq (prt n l) o v n=0:=h.t v
def dv (o:Nat→Rat) (c:Cm):Rat:=(c.w:Rat)*(xa o c.b - xa o c.a+(c.d:Rat))
def Gq (l:List Cm) (o:List Rat) (i k:Nat):Rat:=S (fun c=>dv (fun c=>o.getD c 0) c*(dl i c.b - dl i c.a)) (l.take k)
def dt (o:List Rat) (c:Cm):Rat:=Rat.divInt c.w 1*(o.getD c.b.toNat 0 - o.getD c.a.toNat 0+Rat.divInt c.d 1)
theorem dt_dv (o:List Rat) (c:Cm):dt o c=dv (fun c=>o.getD c 0) c:=by
  unfold dt dv xa;rw [← int_div,←int_div]
theorem Gq_0 (l:List Cm) (o:List Rat) (i:Nat):Rat.divInt 0 1=Gq l o i 0:=by
  show Rat.divInt 0 1=(0:Rat);decide +kernel
section
variable {n : Nat} {l : List Cm} {o : List Rat} {i k : Nat}
theorem Gq_succ (hk:k<l.length):Gq l o i (k+1)=Gq l o i k+dt o (l.getD k c0)*(dl i (l.getD k c0).b - dl i (l.getD k c0).a):=by
  unfold Gq;rw [S_take _ hk,dt_dv]
theorem Gq_b (hk:k<l.length) (hc:Ok n (l.getD k c0)) (h1:(l.getD k c0).b=(i:Int)):Gq l o i (k+1)=Gq l o i k+dt o (l.getD k c0):=by
  have a:=hc.ne
  rw [Gq_succ hk]
  have e1:dl i (l.getD k c0).b=1:=if_pos (by omega)
  have e2:dl i (l.getD k c0).a=0:=if_neg (by omega)
  rw [e1,e2];grind
theorem Gq_a (hk:k<l.length) (hc:Ok n (l.getD k c0)) (h1:(l.getD k c0).a=(i:Int)):Gq l o i (k+1)=Gq l o i k - dt o (l.getD k c0):=by
  have a:=hc.ne
  rw [Gq_succ hk]
  have e1:dl i (l.getD k c0).a=1:=if_pos (by omega)
  have e2:dl i (l.getD k c0).b=0:=if_neg (by omega)
  rw [e1,e2];grind
theorem Gq_n (hk:k<l.length) (hc:Ok n (l.getD k c0)) (h1:¬(l.getD k c0).b=(i:Int)) (h2:¬(l.getD k c0).a=(i:Int)):Gq l o i (k+1)=Gq l o i k:=by
  have a:=hc.a0;have b:=hc.b0
  rw [Gq_succ hk]
  have e1:dl i (l.getD k c0).a=0:=if_neg (by omega)
  have e2:dl i (l.getD k c0).b=0:=if_neg (by omega)
  rw [e1,e2];grind
theorem Gq_all (h:Lv n l fun c=>o.getD c 0) (hi:i<n):Gq l o i l.length=0:=by
  have:=h.g i hi
  unfold Gq
  rw [List.take_length]
  refine Eq.trans (S_congr fun c _=> ?_) this
  unfold dv;rfl
theorem dt_hq {B:Nat} (h:∀i,hq (o.getD i 0)≤B) (c:Cm) (hd: -65535≤c.d∧c.d≤65535) (hw:1≤c.w∧c.w≤4096):hq (Rat.divInt c.w 1)≤3∧hq (Rat.divInt c.d 1)≤3∧hq (o.getD c.b.toNat 0 - o.getD c.a.toNat 0)≤2*B+1∧hq (o.getD c.b.toNat 0 - o.getD c.a.toNat 0+Rat.divInt c.d 1)≤2*B+5∧hq (dt o c)≤2*B+8:=by
  have h1:=dq (n:=c.w) (d:=1) (by omega) (by omega) (by omega)
  have h2:=dq (n:=c.d) (d:=1) (by omega) (by omega) (by omega)
  have h3:=hq_sub (o.getD c.b.toNat 0) (o.getD c.a.toNat 0)
  have h4:=h c.b.toNat
  have h5:=h c.a.toNat
  have h6:=hq_add (o.getD c.b.toNat 0 - o.getD c.a.toNat 0) (Rat.divInt c.d 1)
  have h7:=hq_mul (Rat.divInt c.w 1) (o.getD c.b.toNat 0 - o.getD c.a.toNat 0+Rat.divInt c.d 1)
  unfold dt;omega
theorem Gq_hq {B:Nat} (hok:Oks n l) (h:∀i,hq (o.getD i 0)≤B):∀k,k≤l.length→hq (Gq l o i k)≤1+k*(2*B+9)
  |0,_=>by show hq (0:Rat)≤_;rw [hq_zero];omega
  |k+1,hk=>by
    have ih:=Gq_hq hok h k (by omega)
    have hc:=hok.getD (show k<l.length by omega)
    have e:(k+1)*(2*B+9)=k*(2*B+9)+(2*B+9):=by rw [Nat.add_mul,Nat.one_mul]
    have hd:=(dt_hq h _ hc.d hc.w).2.2.2.2
    by_cases h1:(l.getD k c0).b=(i:Int)
    · rw [Gq_b (by omega) hc h1];have:=hq_add (Gq l o i k) (dt o (l.getD k c0));omega
    · by_cases h2 : (l.getD k c0).a = (i : Int)
      · rw [Gq_a (by omega) hc h2];have:=hq_sub (Gq l o i k) (dt o (l.getD k c0));omega
      · rw [Gq_n (by omega) hc h1 h2];omega
end
def oG (lo:List (Option Rat)) (i:Nat):Rat:=(lo.getD i none).getD 0
theorem oG_some (o:List Rat) (i:Nat):oG (o.map some) i=o.getD i 0:=by
  unfold oG
  rw [List.getD_eq_getElem?_getD,List.getElem?_map,List.getD_eq_getElem?_getD]
  cases o[i]? <;> rfl
theorem some_all {o:List Rat} {b:Nat} (h:∀i,hq (o.getD i 0)≤b) (i:Nat):hq (((o.map some).getD i none).getD 0)≤b:=by
  have:=oG_some o i
  unfold oG at this;rw [this];exact h i
def ls (l:List Cm) (lo:List (Option Rat)) (k:Nat):Rat:=S (fun c=>(c.w:Rat)*((xa (oG lo) c.b - xa (oG lo) c.a+(c.d:Rat))*(xa (oG lo) c.b - xa (oG lo) c.a+(c.d:Rat)))) (l.take k)
def lt (lo:List (Option Rat)) (c:Cm):Rat:=(lo.getD c.b.toNat none).getD 0 - (lo.getD c.a.toNat none).getD 0+Rat.divInt c.d 1
theorem ls_0 (l:List Cm) (lo:List (Option Rat)):Rat.divInt 0 1=ls l lo 0:=by
  show Rat.divInt 0 1=(0:Rat);decide +kernel
theorem ls_succ {l:List Cm} {lo:List (Option Rat)} {k:Nat} (hk:k<l.length):ls l lo (k+1)=ls l lo k+Rat.divInt (l.getD k c0).w 1*(lt lo (l.getD k c0)*lt lo (l.getD k c0)):=by
  unfold ls;rw [S_take _ hk]
  unfold lt xa oG;rw [← int_div,←int_div]
theorem lt_hq {lo:List (Option Rat)} {B:Nat} (h:∀i,hq ((lo.getD i none).getD 0)≤B) (c:Cm) (hd: -65535≤c.d∧c.d≤65535) (hw:1≤c.w∧c.w≤4096):hq (Rat.divInt c.w 1)≤3∧hq (Rat.divInt c.d 1)≤3∧hq ((lo.getD c.b.toNat none).getD 0 - (lo.getD c.a.toNat none).getD 0)≤2*B+1∧hq (lt lo c)≤2*B+5∧hq (lt lo c*lt lo c)≤4*B+10∧hq (Rat.divInt c.w 1*(lt lo c*lt lo c))≤4*B+13:=by
  have h1:=dq (n:=c.w) (d:=1) (by omega) (by omega) (by omega)
  have h2:=dq (n:=c.d) (d:=1) (by omega) (by omega) (by omega)
  have h3:=hq_sub ((lo.getD c.b.toNat none).getD 0) ((lo.getD c.a.toNat none).getD 0)
  have h4:=h c.b.toNat
  have h5:=h c.a.toNat
  have h6:=hq_add ((lo.getD c.b.toNat none).getD 0 - (lo.getD c.a.toNat none).getD 0) (Rat.divInt c.d 1)
  have h7:hq (lt lo c)≤2*B+5:=by unfold lt;omega
  have h8:=hq_mul (lt lo c) (lt lo c)
  have h9:=hq_mul (Rat.divInt c.w 1) (lt lo c*lt lo c)
  omega
theorem ls_hq {l:List Cm} {lo:List (Option Rat)} {n B:Nat} (hok:Oks n l) (h:∀i,hq ((lo.getD i none).getD 0)≤B):∀k,k≤l.length→hq (ls l lo k)≤1+k*(4*B+14)
  |0,_=>by show hq (0:Rat)≤_;rw [hq_zero];omega
  |k+1,hk=>by
    have ih:=ls_hq hok h k (by omega)
    have hc:=hok.getD (show k<l.length by omega)
    have e:(k+1)*(4*B+14)=k*(4*B+14)+(4*B+14):=by rw [Nat.add_mul,Nat.one_mul]
    have hd:=(lt_hq h _ hc.d hc.w).2.2.2.2.2
    rw [ls_succ (by omega)]
    have:=hq_add (ls l lo k) (Rat.divInt (l.getD k c0).w 1*(lt lo (l.getD k c0)*lt lo (l.getD k c0)))
    omega
theorem ls_all (l:List Cm) (lo:List (Option Rat)):ls l lo l.length=loss l (oG lo):=by unfold ls loss;rw [List.take_length]
theorem ls_le {n:Nat} {l:List Cm} {o:List Rat} {lo:List (Option Rat)} (hok:Oks n l) (h:Lv n l fun c=>o.getD c 0):sgq (ls l (o.map some) l.length - ls l lo l.length)≤0:=by
  rw [ls_all,ls_all]
  have h1:=loss_le hok h (oG lo)
  have e:loss l (oG (o.map some))=loss l fun c=>o.getD c 0:=by
    unfold loss;exact S_congr fun c _=>by unfold xa;rw [oG_some,oG_some]
  rw [e,sgq_le]
  grind
structure Cn (tv:List Int) (o:List Cm):Prop where
  ok:Oks 6 o
  eq:∀c∈o,c.d=tv.getD c.a.toNat 0 - tv.getD c.b.toNat 0
theorem Cn.nil (tv:List Int):Cn tv []:=⟨fun c h=>(by cases h),fun c h=>(by cases h)⟩
theorem Cn.code {tv:List Int} {o:List Cm} (x:Cn tv o) (h:o.length≤12):offC 6 o=0:=by
  unfold offC;rw [if_neg (by omega)]
  exact cfst_all fun j hj=>by
    have:=cc_not (x.ok.getD hj)
    exact this
theorem Cn.zero {tv:List Int} {o:List Cm} (x:Cn tv o) {s:List Rat} (h:Lv 6 o fun c=>s.getD c 0) {i:Nat} (hi:i<o.length):sgq (s.getD (o.getD i c0).b.toNat 0 - s.getD (o.getD i c0).a.toNat 0+Rat.divInt (o.getD i c0).d 1)=0:=by
  have hm:o.getD i c0∈o:=by rw [List.getD_eq_getElem?_getD,List.getElem?_eq_getElem hi];exact List.getElem_mem _
  have:=exact x.ok h (t:=fun k=>((tv.getD k 0:Int):Rat)) (fun c hc=>by
    have e:=x.eq c hc
    unfold xa;rw [e,Rat.intCast_sub];grind) _ hm
  rw [sgq_zero,←int_div]
  exact this
end Go.Proofs.YtkohlohbogpooaaGreat.Rd
namespace Go.Proofs.YtkohlohbogpooaaGreat.Sp
open Go
set_option linter.unusedVariables false
set_option maxRecDepth 100000
set_option maxHeartbeats 400000
theorem zie {ni:Int} {pL:Option Addr} {nL:Nat} {cL:Nat} {L:List Cm} (hnL:L.length=nL):Con yj 32 [ya yb ni,.slice pL nL cL] [] [slF (rI4 .i64) pL cL L] (Y:=Unit) (fun y=>True) (fun y=> ya yb (Rd.offC ni L)) (fun y=>[]) (fun y=>[]):=by
 refine zm Tryz.func32 rfl rfl rfl (fun c=> ?_)
 show RunC _ _ _ _ _ [(0,ya yb ni),(1,.slice pL nL cL)] [] [slF (rI4 .i64) pL cL L]
 refine zY 0 rfl (fun hL0=> ?_)
 refine ze<|za<|e_p (zb rfl)<|zf<|zc<|ze<|zDa (X:=Unit) (fun x=>True) (fun x=>[(17,.bool (decide (((ni<1)∨(16<ni))∨(64<((nL:Nat):Int))))),(4,ya yb 0),(0,ya yb ni),(1,.slice pL nL cL)]) (fun x=>[]) (fun x=>[slF (rI4 .i64) pL cL L]) ?_ ?_
 ·
  refine za<|e_mv rfl<|e_p (zT rfl rfl)<|zO rfl rfl (zS rfl) (fun h1=> ?_) (fun h1=> ?_)
  ·
   refine e_no<|e_no<|e_p (zk rfl rfl)<|e_mv rfl<|e_no<|e_no<|e_no<|e_p (zk rfl rfl)<|zf ?_
   exact zda () (show True from by first|trivial|omega|simp_all) ((.e rfl (congrArg Value.bool cbu) (.of rfl)):SubM _ _) (ho:=(.n:PickO _ _ _)) ((.c (j:=0) rfl .n):SelR _ _ _)
  ·
   refine e_mv rfl<|e_p (zka rfl rfl)<|e_p (zk rfl rfl)<|zO rfl rfl (zS rfl) (fun h2=> ?_) (fun h2=> ?_)
   ·
    refine e_no<|e_no<|e_no<|e_p (zk rfl rfl)<|zf ?_
    exact zda () (show True from by first|trivial|omega|simp_all) ((.e rfl (congrArg Value.bool cbu) (.of rfl)):SubM _ _) (ho:=(.n:PickO _ _ _)) ((.c (j:=0) rfl .n):SelR _ _ _)
   ·
    refine e_mv rfl<|e_p (zC yg rfl)<|e_p (zka rfl rfl)<|e_p (zk rfl rfl)<|zf ?_
    exact zda () (show True from by first|trivial|omega|simp_all) ((.e rfl (congrArg Value.bool cbu) (.of rfl)):SubM _ _) (ho:=(.n:PickO _ _ _)) ((.c (j:=0) rfl .n):SelR _ _ _)
 ·
  rintro ⟨⟩ -
  try dsimp only
  refine zA rfl (fun h30=> ?_) (fun h30=> ?_)
  ·
   refine ze<|za<|e_p (zb rfl)<|zf<|zc<|zJ<|zn ?_
   exact zy yp () trivial (zo rfl) (by rw [show Rd.offC ni L=3 from if_pos om]) (ho:=(.n:PickO _ _ _)) (.n:SelR _ _ _)
  ·
   refine zv<|zc<|ze<|ze<|za<|e_mv rfl<|e_p (zC yg rfl)<|e_mv rfl<|zf<|zc<|zt<|zga (X:=Nat) (fun x:Nat=>x≤nL∧∀j,j<x→Rd.cc ni (L.getD j Rd.c0)=0) (fun x=>[(20,ya yb ((x:Nat):Int)),(19,ya yb ((nL:Nat):Int)),(18,.slice pL nL cL),(0,ya yb ni)]) (fun x=>[]) (fun x=>[slF (rI4 .i64) pL cL L]) (fun x:Nat=>nL - x) 0 (show 0≤nL∧∀j,j<0→Rd.cc ni (L.getD j Rd.c0)=0 from by exact ⟨Nat.zero_le _,fun j h=>by omega⟩) ((.e rfl (by first|rfl|(congr 1;omega)|simp_all) (.of rfl)):SubM _ _) (ho:=(.n:PickO _ _ _)) ((.c (j:=0) rfl .n):SelR _ _ _) ?_
   rintro i hI
   replace hI:i≤nL∧∀j,j<i→Rd.cc ni (L.getD j Rd.c0)=0:=hI
   try dsimp only
   obtain ⟨hi,hall⟩:=hI
   refine ze<|za<|e_p (zT rfl rfl)<|zf<|zc<|ze<|zA rfl (fun h3=> ?_) (fun h3=> ?_)
   ·
    refine zv<|zc<|ze<|zt<|ze<|za<|zV (x0:=(L.getD i Rd.c0)) 0 i rfl yg sz68 rfl rfl rfl cbo rfl rfl (gD (d:=Rd.c0) om) (fun b4 o5 hok6=> ?_)
    obtain ⟨hok60,hok61,hok62,hok63⟩:=hok6
    replace hok60:=zN.1 hok60
    replace hok61:=zN.1 hok61
    replace hok62:=zN.1 hok62
    replace hok63:=zN.1 hok63
    refine e_ru (zaa (j:=0) 0 ty68 rfl rfl rfl (.t4 .nil))<|zK rfl rfl (zw zr68 rfl) (fun b7=> ?_)
    refine zl 0 rfl rfl rfl rfl rfl sz68 rfl (.t4 .nil) .z<|zf<|zc<|ze<|zDa (X:=Unit) (fun x=>True) (fun x=>[(58,.bool (decide (((((((min (L.getD i Rd.c0).a (L.getD i Rd.c0).b)<0)∨(ni≤(max (L.getD i Rd.c0).a (L.getD i Rd.c0).b)))∨(65535<(L.getD i Rd.c0).d))∨((L.getD i Rd.c0).d<(-65535)))∨((L.getD i Rd.c0).w<1))∨(4096<(L.getD i Rd.c0).w)))),(6,yc (some ⟨b7,0,none⟩)),(20,ya yb ((i:Nat):Int)),(19,ya yb ((nL:Nat):Int)),(18,.slice pL nL cL),(0,ya yb ni)]) (fun x=>[boxA b7 68 [ya yb ((L.getD i Rd.c0).a),ya yb ((L.getD i Rd.c0).b),ya yb ((L.getD i Rd.c0).d),ya yb ((L.getD i Rd.c0).w)]]) (fun x=>[atF b4 o5 [ya yb ((L.getD i Rd.c0).a),ya yb ((L.getD i Rd.c0).b),ya yb ((L.getD i Rd.c0).d),ya yb ((L.getD i Rd.c0).w)],slF (rI4 .i64) pL cL L]) ?_ ?_
    ·
     refine za<|e_p (zh ye rfl sz3 rfl rfl)<|e_ru (zg 0 ty3 rfl rfl rfl)<|e_p (zh ye rfl sz3 rfl rfl)<|e_ru (zg 0 ty3 rfl rfl rfl)<|e_p (zef rfl rfl)<|e_p (zT rfl rfl)<|zO rfl rfl (zS rfl) (fun h8=> ?_) (fun h8=> ?_)
     ·
      refine e_no<|e_no<|e_no<|e_no<|e_no<|e_no<|e_no<|e_p (zk rfl rfl)<|e_mv rfl<|e_no<|e_no<|e_no<|e_p (zk rfl rfl)<|e_mv rfl<|e_no<|e_no<|e_no<|e_p (zk rfl rfl)<|e_mv rfl<|e_no<|e_no<|e_no<|e_p (zk rfl rfl)<|e_mv rfl<|e_no<|e_no<|e_no<|e_p (zk rfl rfl)<|zf ?_
      exact zda () (show True from by first|trivial|omega|simp_all) ((.e rfl (congrArg Value.bool cbu) (.of rfl)):SubM _ _) (ho:=((.c (i:=0) rfl .n):PickO _ _ _)) ((.of [0,1] rfl):SelR _ _ _)
     ·
      refine e_p (zh ye rfl sz3 rfl rfl)<|e_ru (zg 0 ty3 rfl rfl rfl)<|e_p (zh ye rfl sz3 rfl rfl)<|e_ru (zg 0 ty3 rfl rfl rfl)<|e_p (zff rfl rfl)<|e_mv rfl<|e_p (zJa rfl rfl)<|e_p (zk rfl rfl)<|zO rfl rfl (zS rfl) (fun h9=> ?_) (fun h9=> ?_)
      ·
       refine e_no<|e_no<|e_no<|e_p (zk rfl rfl)<|e_mv rfl<|e_no<|e_no<|e_no<|e_p (zk rfl rfl)<|e_mv rfl<|e_no<|e_no<|e_no<|e_p (zk rfl rfl)<|e_mv rfl<|e_no<|e_no<|e_no<|e_p (zk rfl rfl)<|zf ?_
       exact zda () (show True from by first|trivial|omega|simp_all) ((.e rfl (congrArg Value.bool cbu) (.of rfl)):SubM _ _) (ho:=((.c (i:=0) rfl .n):PickO _ _ _)) ((.of [0,1] rfl):SelR _ _ _)
      ·
       refine e_p (zh ye rfl sz3 rfl rfl)<|e_ru (zg 0 ty3 rfl rfl rfl)<|e_p (zka rfl rfl)<|e_p (zk rfl rfl)<|zO rfl rfl (zS rfl) (fun h10=> ?_) (fun h10=> ?_)
       ·
        refine e_no<|e_no<|e_no<|e_p (zk rfl rfl)<|e_mv rfl<|e_no<|e_no<|e_no<|e_p (zk rfl rfl)<|e_mv rfl<|e_no<|e_no<|e_no<|e_p (zk rfl rfl)<|zf ?_
        exact zda () (show True from by first|trivial|omega|simp_all) ((.e rfl (congrArg Value.bool cbu) (.of rfl)):SubM _ _) (ho:=((.c (i:=0) rfl .n):PickO _ _ _)) ((.of [0,1] rfl):SelR _ _ _)
       ·
        refine e_p (zh ye rfl sz3 rfl rfl)<|e_ru (zg 0 ty3 rfl rfl rfl)<|e_p (zT rfl rfl)<|e_p (zk rfl rfl)<|zO rfl rfl (zS rfl) (fun h11=> ?_) (fun h11=> ?_)
        ·
         refine e_no<|e_no<|e_no<|e_p (zk rfl rfl)<|e_mv rfl<|e_no<|e_no<|e_no<|e_p (zk rfl rfl)<|zf ?_
         exact zda () (show True from by first|trivial|omega|simp_all) ((.e rfl (congrArg Value.bool cbu) (.of rfl)):SubM _ _) (ho:=((.c (i:=0) rfl .n):PickO _ _ _)) ((.of [0,1] rfl):SelR _ _ _)
        ·
         refine e_p (zh ye rfl sz3 rfl rfl)<|e_ru (zg 0 ty3 rfl rfl rfl)<|e_p (zT rfl rfl)<|e_p (zk rfl rfl)<|zO rfl rfl (zS rfl) (fun h12=> ?_) (fun h12=> ?_)
         ·
          refine e_no<|e_no<|e_no<|e_p (zk rfl rfl)<|zf ?_
          exact zda () (show True from by first|trivial|omega|simp_all) ((.e rfl (congrArg Value.bool cbu) (.of rfl)):SubM _ _) (ho:=((.c (i:=0) rfl .n):PickO _ _ _)) ((.of [0,1] rfl):SelR _ _ _)
         ·
          refine e_p (zh ye rfl sz3 rfl rfl)<|e_ru (zg 0 ty3 rfl rfl rfl)<|e_p (zka rfl rfl)<|e_p (zk rfl rfl)<|zf ?_
          exact zda () (show True from by first|trivial|omega|simp_all) ((.e rfl (congrArg Value.bool cbu) (.of rfl)):SubM _ _) (ho:=((.c (i:=0) rfl .n):PickO _ _ _)) ((.of [0,1] rfl):SelR _ _ _)
    ·
     rintro ⟨⟩ -
     try dsimp only
     refine zA rfl (fun h37=> ?_) (fun h37=> ?_)
     ·
      refine ze<|za<|e_p (zb rfl)<|zf<|zc<|zJ<|zn<|zR<|zn<|zn<|zR<|zn ?_
      have hc2:Rd.cc ni (L.getD i Rd.c0)=2:=if_pos (by unfold Rd.bad;omega)
      have hof:Rd.offC ni L=2:=by unfold Rd.offC;rw [if_neg om,Rd.cfst_at hall om (by rw [hc2];decide)];exact hc2
      exact zy yp () trivial (zo rfl) (by rw [hof]) (ho:=(.n:PickO _ _ _)) (.n:SelR _ _ _)
     ·
      refine zv<|zc<|ze<|za<|e_p (zh ye rfl sz3 rfl rfl)<|e_ru (zg 0 ty3 rfl rfl rfl)<|e_p (zh ye rfl sz3 rfl rfl)<|e_ru (zg 0 ty3 rfl rfl rfl)<|e_p (zpa rfl rfl)<|zf<|zc<|zA rfl (fun h78=> ?_) (fun h78=> ?_)
      ·
       refine ze<|za<|e_p (zb rfl)<|zf<|zc<|zJ<|zR<|zn<|zn<|zR<|zn ?_
       have hc2:Rd.cc ni (L.getD i Rd.c0)=1:=by unfold Rd.cc;rw [if_neg (by unfold Rd.bad;omega),if_pos h78]
       have hof:Rd.offC ni L=1:=by unfold Rd.offC;rw [if_neg om,Rd.cfst_at hall om (by rw [hc2];decide)];exact hc2
       exact zy yp () trivial (zo rfl) (by rw [hof]) (ho:=(.n:PickO _ _ _)) (.n:SelR _ _ _)
      ·
       refine zv<|zL<|zc<|za<|e_p (zH (z:=(((i+1):Nat):Int)) rfl rfl (w64 om))<|e_mv rfl<|zf<|zba (i+1) (show (i+1)≤nL∧∀j,j<(i+1)→Rd.cc ni (L.getD j Rd.c0)=0 from by refine ⟨by omega,fun j hj=> ?_⟩;by_cases e:j=i;subst e;unfold Rd.cc;rw [if_neg (by unfold Rd.bad;omega),if_neg h78];exact hall j om) (by show nL - (i+1)<nL - i;omega) ((.of rfl):SubM _ _) (ho:=(.n:PickO _ _ _)) ((.c (j:=1) rfl .n):SelR _ _ _)
   ·
    refine zea<|zi<|zi<|zp<|zc<|ze<|za<|e_p (zb rfl)<|zf<|zc<|zJ ?_
    exact zy yp () trivial (zo rfl) (by rw [show Rd.offC ni L=0 by unfold Rd.offC;rw [if_neg om];exact Rd.cfst_all (fun j hj=>hall j om)]) (ho:=(.n:PickO _ _ _)) (.n:SelR _ _ _)
theorem zOf {n:Nat} {pL:Option Addr} {nL:Nat} {cL:Nat} {L:List Cm} (hnL:L.length=nL) (hn:1≤n∧n≤16) (hok:Rd.Oks n L):Con yj 71 [ya yb ((n:Nat):Int),.slice pL nL cL] [] [slF (rI4 .i64) pL cL L] (Y:=(Option Addr)×Nat) (fun y=>True) (fun y=> .slice (y.1) n (y.2)) (fun y=>[]) (fun y=>[slF (rI .i64) (y.1) (y.2) (Rd.prt n L)]):=by
 refine zm Tryz.func71 rfl rfl rfl (fun c=> ?_)
 show RunC _ _ _ _ _ [(0,ya yb ((n:Nat):Int)),(1,.slice pL nL cL)] [] [slF (rI4 .i64) pL cL L]
 refine zY 0 rfl (fun hL0=> ?_)
 refine ze<|za<|e_p (zb rfl)<|zf<|zc<|ze<|za<|e_mv rfl<|zta rfl rfl (zEa (r:=rI .i64) (k:=n) (x0:=0) (γ0:=()) yd inf3 rfl rfl rfl rfl om om rfl (fun g _=>by exact zN.2 dd) dd) (fun b1 _=> ?_)
 refine e_p (zb rfl)<|zf<|zc<|ze<|ze ?_
 have e2:(List.replicate n 0:List Int)=(Rd.fz 0 n (fun jj=>((jj:Nat):Int))):=by exact Rd.fz_start _ _
 rw [e2]
 refine za<|e_mv rfl<|e_p (zC yd rfl)<|e_mv rfl<|zf<|zc<|zt<|zga (X:=Nat) (fun x:Nat=>x≤n) (fun x=>[(13,ya yb ((x:Nat):Int)),(12,ya yb ((n:Nat):Int)),(5,.slice (some ⟨b1,0,none⟩) n n),(4,.slice none 0 0),(0,ya yb ((n:Nat):Int)),(1,.slice pL nL cL)]) (fun x=>[rowA 3 (rI .i64) (some ⟨b1,0,none⟩) n (Rd.fz x n (fun jj=>((jj:Nat):Int)))]) (fun x=>[slF (rI4 .i64) pL cL L]) (fun x:Nat=>n - x) 0 (show 0≤n from by exact Nat.zero_le _) ((.e rfl (by first|rfl|(congr 1;omega)|simp_all) (.of rfl)):SubM _ _) (ho:=((.c (i:=0) rfl .n):PickO _ _ _)) ((.c (j:=0) rfl .n):SelR _ _ _) ?_
 rintro i hI
 replace hI:i≤n:=hI
 try dsimp only
 refine ze<|za<|e_p (zT rfl rfl)<|zf<|zc<|ze<|zA rfl (fun h3=> ?_) (fun h3=> ?_)
 ·
  refine zv<|zc<|ze<|zt<|ze<|za<|e_mv rfl<|e_p (zb rfl)<|zf<|zc<|za<|e_mv rfl<|e_mv rfl<|e_mv rfl<|e_p (zG (j:=i) yd sz3 rfl rfl rfl om)<|zya 0 rfl rfl rfl (zM (j:=i) (x0:=((i:Nat):Int)) (γ0:=()) rfl rfl (by first|omega|(rw [Rd.fz_len];omega)|(rw [List.length_set];omega)) rfl rfl sz3 (fun _ _=>by exact zN.2 om)) (fun _=> .z) (fun _ _=> ?_)
  refine zf<|zL<|zc<|za<|e_p (zH (z:=(((i+1):Nat):Int)) rfl rfl (w64 om))<|e_mv rfl<|zf<|zba (i+1) (show (i+1)≤n from by show i+1≤n;omega) (by show n - (i+1)<n - i;omega) ((.of rfl):SubM _ _) (ho:=((.e (i:=0) rfl (by first|rfl|(rw [Rd.fz_step (f:=fun jj=>((jj:Nat):Int)) om])) .n):PickO _ _ _)) ((.c (j:=0) rfl .n):SelR _ _ _)
 ·
  refine zea<|zi<|zi<|zp<|zc<|ze<|ze ?_
  have e4:((Rd.fz i n (fun jj=>((jj:Nat):Int))):List Int)=(Rd.rds n L 0):=by rw [show i=n by omega];exact Rd.fz_end _ _
  rw [e4]
  refine za<|e_mv rfl<|e_mv rfl<|zf<|zc<|zt<|zga (X:=Nat) (fun x:Nat=>x≤n) (fun x=>[(22,ya yb ((x:Nat):Int)),(21,ya yb ((n:Nat):Int)),(5,.slice (some ⟨b1,0,none⟩) n n),(4,.slice none 0 0),(1,.slice pL nL cL)]) (fun x=>[rowA 3 (rI .i64) (some ⟨b1,0,none⟩) n (Rd.rds n L x)]) (fun x=>[slF (rI4 .i64) pL cL L]) (fun x:Nat=>n - x) 0 (show 0≤n from by exact Nat.zero_le _) ((.e rfl (by first|rfl|(congr 1;omega)|simp_all) (.of rfl)):SubM _ _) (ho:=((.c (i:=0) rfl .n):PickO _ _ _)) ((.c (j:=0) rfl .n):SelR _ _ _) ?_
  rintro k hK
  replace hK:k≤n:=hK
  try dsimp only
  refine ze<|za<|e_p (zT rfl rfl)<|zf<|zc<|ze<|zA rfl (fun h5=> ?_) (fun h5=> ?_)
  ·
   refine zv<|zc<|ze<|zt<|ze<|za<|e_mv rfl<|e_p (zC yg rfl)<|e_mv rfl<|zf<|zc<|zt<|zga (X:=Nat) (fun x:Nat=>x≤nL) (fun x=>[(26,ya yb ((x:Nat):Int)),(25,ya yb ((nL:Nat):Int)),(24,.slice pL nL cL),(22,ya yb ((k:Nat):Int)),(21,ya yb ((n:Nat):Int)),(5,.slice (some ⟨b1,0,none⟩) n n),(4,.slice none 0 0),(1,.slice pL nL cL)]) (fun x=>[rowA 3 (rI .i64) (some ⟨b1,0,none⟩) n (Rd.rnd (L.take x) (Rd.rds n L k))]) (fun x=>[slF (rI4 .i64) pL cL L]) (fun x:Nat=>nL - x) 0 (show 0≤nL from by exact Nat.zero_le _) ((.e rfl (by first|rfl|(congr 1;omega)|simp_all) (.of rfl)):SubM _ _) (ho:=((.e (i:=0) rfl (by rfl) .n):PickO _ _ _)) ((.c (j:=0) rfl .n):SelR _ _ _) ?_
   rintro i hI3
   replace hI3:i≤nL:=hI3
   try dsimp only
   refine ze<|za<|e_p (zT rfl rfl)<|zf<|zc<|ze<|zA rfl (fun h6=> ?_) (fun h6=> ?_)
   ·
    have hoi:=hok.getD (show i<L.length by omega)
    have hoa:=hoi.a
    have hob:=hoi.b
    have hoa0:=hoi.a0
    have hob0:=hoi.b0
    have hone:=hoi.ne
    have hod:=hoi.d
    have how:=hoi.w
    have hrl:(Rd.rnd (L.take i) (Rd.rds n L k)).length=n:=(Rd.rnd_len _ _).trans (Rd.rds_len _ _ _)
    have hrl2:((Rd.rnd (L.take i) (Rd.rds n L k)).set (((L.getD i Rd.c0).a).toNat) (min ((Rd.rnd (L.take i) (Rd.rds n L k)).getD (((L.getD i Rd.c0).a).toNat) 0) ((Rd.rnd (L.take i) (Rd.rds n L k)).getD (((L.getD i Rd.c0).b).toNat) 0))).length=n:=by rw [List.length_set];exact hrl
    refine zv<|zc<|ze<|zt<|ze<|za<|zV (x0:=(L.getD i Rd.c0)) 0 i rfl yg sz68 rfl rfl rfl (by first|rfl|assumption|omega|exact Rd.fz_len _ _ _|exact Rd.rds_len _ _ _) rfl rfl (gD (d:=Rd.c0) om) (fun b7 o8 hok9=> ?_)
    obtain ⟨hok90,hok91,hok92,hok93⟩:=hok9
    replace hok90:=zN.1 hok90
    replace hok91:=zN.1 hok91
    replace hok92:=zN.1 hok92
    replace hok93:=zN.1 hok93
    refine e_ru (zaa (j:=0) 0 ty68 rfl rfl rfl (.t4 .nil))<|zK rfl rfl (zw zr68 rfl) (fun b10=> ?_)
    refine zl 0 rfl rfl rfl rfl rfl sz68 rfl (.t4 .nil) .z<|zf<|zc<|ze<|zma (.c (i:=1) rfl (.c (i:=0) rfl .n))<|zca (OW:=[rowA 3 (rI .i64) (some ⟨b1,0,none⟩) n (Rd.rnd (L.take i) (Rd.rds n L k))]) (O:=[boxA b10 68 [ya yb ((L.getD i Rd.c0).a),ya yb ((L.getD i Rd.c0).b),ya yb ((L.getD i Rd.c0).d),ya yb ((L.getD i Rd.c0).w)]]) 15 mixed (.then (.block (.then (.then (.block (.block (.then (.then (.block (.then .ret)))))))))) kr<|e_dm 0 rfl rfl rfl<|e_pv 1 rfl rfl (zh ye rfl sz3 rfl rfl)<|e_uw 2 rfl rfl (zg 1 ty3 rfl rfl rfl)<|e_dm 3 rfl rfl rfl<|e_pv 4 rfl rfl (zh ye rfl sz3 rfl rfl)<|e_uw 5 rfl rfl (zg 1 ty3 rfl rfl rfl)<|e_pv 6 rfl rfl (zG (j:=((L.getD i Rd.c0).a).toNat) yd sz3 rfl rfl om om)<|zdb 7 rfl rfl kr kr kr rfl rfl (zE 0 (((L.getD i Rd.c0).a).toNat) rfl ty3 rfl rfl (gD (d:=0) om) rfl) (fun _ hok11=> ?_)
    replace hok11:=zN.1 hok11
    refine e_dm 8 rfl rfl rfl<|e_pv 9 rfl rfl (zh ye rfl sz3 rfl rfl)<|e_uw 10 rfl rfl (zg 1 ty3 rfl rfl rfl)<|e_pv 11 rfl rfl (zG (j:=((L.getD i Rd.c0).b).toNat) yd sz3 rfl rfl om om)<|zdb 12 rfl rfl kr kr kr rfl rfl (zE 0 (((L.getD i Rd.c0).b).toNat) rfl ty3 rfl rfl (gD (d:=0) om) rfl) (fun _ hok12=> ?_)
    replace hok12:=zN.1 hok12
    refine e_pv 13 rfl rfl (zef rfl rfl)<|e_pv 14 rfl rfl (zG (j:=((L.getD i Rd.c0).a).toNat) yd sz3 rfl rfl om om)<|e_one 15 (zob (A':=fun _=>rowA 3 (rI .i64) (some ⟨b1,0,none⟩) n ((Rd.rnd (L.take i) (Rd.rds n L k)).set (((L.getD i Rd.c0).a).toNat) (min ((Rd.rnd (L.take i) (Rd.rds n L k)).getD (((L.getD i Rd.c0).a).toNat) 0) ((Rd.rnd (L.take i) (Rd.rds n L k)).getD (((L.getD i Rd.c0).b).toNat) 0)))) kr rfl rfl rfl (zM (j:=((L.getD i Rd.c0).a).toNat) (x0:=(min ((Rd.rnd (L.take i) (Rd.rds n L k)).getD (((L.getD i Rd.c0).a).toNat) 0) ((Rd.rnd (L.take i) (Rd.rds n L k)).getD (((L.getD i Rd.c0).b).toNat) 0))) (γ0:=()) rfl rfl (by first|omega|(rw [Rd.fz_len];omega)|(rw [List.length_set];omega)) rfl rfl sz3 (fun _ _=>by exact zN.2 om)) (fun _ _=> ?_))
    refine zZ kr<|zc<|zca (OW:=[rowA 3 (rI .i64) (some ⟨b1,0,none⟩) n ((Rd.rnd (L.take i) (Rd.rds n L k)).set (((L.getD i Rd.c0).a).toNat) (min ((Rd.rnd (L.take i) (Rd.rds n L k)).getD (((L.getD i Rd.c0).a).toNat) 0) ((Rd.rnd (L.take i) (Rd.rds n L k)).getD (((L.getD i Rd.c0).b).toNat) 0)))]) (O:=[boxA b10 68 [ya yb ((L.getD i Rd.c0).a),ya yb ((L.getD i Rd.c0).b),ya yb ((L.getD i Rd.c0).d),ya yb ((L.getD i Rd.c0).w)]]) 9 mixed (.block (.then (.then (.block (.block (.then (.then (.block (.then .ret))))))))) kr<|e_dm 0 rfl rfl rfl<|e_pv 1 rfl rfl (zh ye rfl sz3 rfl rfl)<|e_uw 2 rfl rfl (zg 1 ty3 rfl rfl rfl)<|e_dm 3 rfl rfl rfl<|e_pv 4 rfl rfl (zh ye rfl sz3 rfl rfl)<|e_uw 5 rfl rfl (zg 1 ty3 rfl rfl rfl)<|e_pv 6 rfl rfl (zG (j:=((L.getD i Rd.c0).a).toNat) yd sz3 rfl rfl om om)<|zdb 7 rfl rfl kr kr kr rfl rfl (zE 0 (((L.getD i Rd.c0).a).toNat) rfl ty3 rfl rfl (gD (d:=0) om) rfl) (fun _ hok13=> ?_)
    replace hok13:=zN.1 hok13
    refine e_pv 8 rfl rfl (zG (j:=((L.getD i Rd.c0).b).toNat) yd sz3 rfl rfl om om)<|e_one 9 (zob (A':=fun _=>rowA 3 (rI .i64) (some ⟨b1,0,none⟩) n (((Rd.rnd (L.take i) (Rd.rds n L k)).set (((L.getD i Rd.c0).a).toNat) (min ((Rd.rnd (L.take i) (Rd.rds n L k)).getD (((L.getD i Rd.c0).a).toNat) 0) ((Rd.rnd (L.take i) (Rd.rds n L k)).getD (((L.getD i Rd.c0).b).toNat) 0))).set (((L.getD i Rd.c0).b).toNat) (((Rd.rnd (L.take i) (Rd.rds n L k)).set (((L.getD i Rd.c0).a).toNat) (min ((Rd.rnd (L.take i) (Rd.rds n L k)).getD (((L.getD i Rd.c0).a).toNat) 0) ((Rd.rnd (L.take i) (Rd.rds n L k)).getD (((L.getD i Rd.c0).b).toNat) 0))).getD (((L.getD i Rd.c0).a).toNat) 0))) kr rfl rfl rfl (zM (j:=((L.getD i Rd.c0).b).toNat) (x0:=(((Rd.rnd (L.take i) (Rd.rds n L k)).set (((L.getD i Rd.c0).a).toNat) (min ((Rd.rnd (L.take i) (Rd.rds n L k)).getD (((L.getD i Rd.c0).a).toNat) 0) ((Rd.rnd (L.take i) (Rd.rds n L k)).getD (((L.getD i Rd.c0).b).toNat) 0))).getD (((L.getD i Rd.c0).a).toNat) 0)) (γ0:=()) rfl rfl (by first|omega|(rw [Rd.fz_len];omega)|(rw [List.length_set];omega)) rfl rfl sz3 (fun _ _=>by exact zN.2 om)) (fun _ _=> ?_))
    refine zZ kr<|zL<|zc<|za<|e_p (zH (z:=(((i+1):Nat):Int)) rfl rfl (w64 om))<|e_mv rfl<|zf<|zba (i+1) (show (i+1)≤nL from by show i+1≤nL;omega) (by show nL - (i+1)<nL - i;omega) ((.of rfl):SubM _ _) (ho:=((.e (i:=0) rfl (by first|rfl|(rw [Rd.rnd_take om];exact (Rd.st_step (n:=n) om hoi).symm)|(rw [Rd.rnd_take om];exact congrArg _ (Rd.st_step (n:=n) om hoi))) .n):PickO _ _ _)) ((.c (j:=1) rfl .n):SelR _ _ _)
   ·
    refine zea<|zi<|zi<|zp<|zL<|zc<|za<|e_p (zH (z:=(((k+1):Nat):Int)) rfl rfl (w64 om))<|e_mv rfl<|zf ?_
    have e14:((Rd.rnd (L.take i) (Rd.rds n L k)):List Int)=(Rd.rds n L (k+1)):=by rw [show L.take i=L from List.take_of_length_le om];rfl
    rw [e14]
    refine zba (k+1) (show (k+1)≤n from by show k+1≤n;omega) (by show n - (k+1)<n - k;omega) ((.of rfl):SubM _ _) (ho:=((.c (i:=0) rfl .n):PickO _ _ _)) ((.c (j:=0) rfl .n):SelR _ _ _)
  ·
   refine zea<|zi<|zi<|zp<|zc<|ze<|za<|e_mv rfl<|e_p (zb rfl)<|zf<|zc<|zJ ?_
   have e15:((Rd.rds n L k):List Int)=(Rd.prt n L):=by rw [show k=n by omega];rfl
   rw [e15]
   refine zbb 0 rfl .z ?_
   exact zy Tryz.results71 (some ⟨b1,0,none⟩,n) trivial (zo rfl) rfl (ho:=(.n:PickO _ _ _)) ((.c (j:=0) rfl .n):SelR _ _ _)
theorem zZc {p:Option Addr} {n:Nat} {cap:Nat} {l:List Rat} (hn:l.length=n):Con yj 70 [.slice p n cap] [] [slF rQ p cap l] (Y:=Unit) (fun y=>True) (fun y=> .bool true) (fun y=>[]) (fun y=>[]):=by
 refine zm Tryz.func70 rfl rfl rfl (fun c=> ?_)
 show RunC _ _ _ _ _ [(0,.slice p n cap)] [] [slF rQ p cap l]
 refine zY 0 rfl (fun hL0=> ?_)
 refine ze<|za<|e_p (zb rfl)<|zf<|zc<|ze<|ze<|za<|e_p (zb rfl)<|zf<|zc<|zt<|zga (X:=Nat) (fun x:Nat=>x≤n) (fun x=>[(3,ya yb ((x:Nat):Int)),(0,.slice p n cap)]) (fun x=>[]) (fun x=>[slF rQ p cap l]) (fun x:Nat=>n - x) 0 (show 0≤n from by exact Nat.zero_le _) ((.e rfl (by first|rfl|(congr 1;omega)|simp_all) (.c rfl .n)):SubM _ _) (ho:=(.n:PickO _ _ _)) ((.c (j:=0) rfl .n):SelR _ _ _) ?_
 rintro i hI
 replace hI:i≤n:=hI
 try dsimp only
 refine ze<|ze<|za<|e_mv rfl<|e_mv rfl<|e_p (zC yf rfl)<|e_p (zT rfl rfl)<|zf<|zc<|zA rfl (fun h1=> ?_) (fun h1=> ?_)
 ·
  refine zv<|zc<|ze<|zt<|ze<|za<|e_mv rfl<|e_mv rfl<|r_vl rfl rfl (zia (x0:=(l.getD i (0:Rat))) 0 i rfl yf sz28 rfl cbo rfl rfl (gD (d:=(0:Rat)) om)) ?_
  rintro ⟨b2,o3,w4,w5⟩ -
  dsimp only [aq,nq,cq]
  refine zkb open_rQ<|e_ru (zaa (j:=0) 0 ty28 rfl rfl rfl (.t4 .nil))<|zP rfl rfl (.c rfl .n) ce53 (zMb (u1:=w4) (v1:=w5) (q1:=(l.getD i (0:Rat)))) (.c (j:=1) rfl .n)<|e_p (zUa rfl)<|zf<|zc<|zua rfl rfl<|zv<|zL<|zc<|za<|e_mv rfl<|e_p (zH (z:=(((i+1):Nat):Int)) rfl rfl (w64 om))<|e_p (zb rfl)<|zf<|zba (i+1) (show (i+1)≤n from by show i+1≤n;omega) (by show n - (i+1)<n - i;omega) ((.c rfl (.c rfl .n)):SubM _ _) (ho:=(.n:PickO _ _ _)) ((.c (j:=2) rfl .n):SelR _ _ _)
 ·
  refine zea<|zi<|zi<|zp<|zc<|ze<|za<|e_p (zb rfl)<|zf<|zc<|zJ ?_
  exact zy Tryz.results70 () trivial (zo rfl) rfl (ho:=(.n:PickO _ _ _)) (.n:SelR _ _ _)
theorem zPd {n:Nat} {pL:Option Addr} {nL:Nat} {cL:Nat} {L:List Cm} {pS:Option Addr} {cS:Nat} {sol:List Rat} (hnL:L.length=nL) (hn:1≤n∧n≤16) (hnl:nL≤12) (hok:Rd.Oks n L) (hsl:sol.length=n) (hlv:Rd.Lv n L (fun c=>sol.getD c 0)) (hqs:∀c,yk (sol.getD c 0)≤200000):Con yj 33 [ya yb ((n:Nat):Int),.slice pL nL cL,.slice pS n cS] [] [slF (rI4 .i64) pL cL L,slF rQ pS cS sol] (Y:=Unit) (fun y=>True) (fun y=> .bool true) (fun y=>[]) (fun y=>[]):=by
 refine zm Tryz.func33 rfl rfl rfl (fun c=> ?_)
 show RunC _ _ _ _ _ [(0,ya yb ((n:Nat):Int)),(1,.slice pL nL cL),(2,.slice pS n cS)] [] [slF (rI4 .i64) pL cL L,slF rQ pS cS sol]
 refine zY 0 rfl (fun hL0=> ?_)
 refine zY 1 rfl (fun hL1=> ?_)
 have hpl:=Rd.prt_len n L
 have hz0:yk (0:Rat)=1:=Big.hq_zero
 refine ze<|za<|e_p (zb rfl)<|zf<|zc<|ze<|zDa (X:=Unit) (fun x=>True) (fun x=>[(23,.bool false),(6,.bool false),(0,ya yb ((n:Nat):Int)),(1,.slice pL nL cL),(2,.slice pS n cS)]) (fun x=>[]) (fun x=>[slF (rI4 .i64) pL cL L,slF rQ pS cS sol]) ?_ ?_
 ·
  refine za<|e_mv rfl<|e_p (zC yf rfl)<|e_mv rfl<|e_p (zwa rfl rfl)<|zO rfl rfl (zS rfl) (fun h1=> ?_) (fun h1=> ?_)
  ·
   refine e_no<|e_no<|e_no<|e_p (zk rfl rfl)<|zf ?_
   exact zda () (show True from by first|trivial|omega|simp_all) ((.e rfl (congrArg Value.bool cbu) (.of rfl)):SubM _ _) (ho:=(.n:PickO _ _ _)) ((.of [0,1] rfl):SelR _ _ _)
  ·
   refine e_mv rfl<|zP rfl rfl (.c rfl .n) ce70 (zZc (p:=pS) (n:=n) (cap:=cS) (l:=sol) (hn:=ass)) (.c (j:=1) rfl .n)<|e_p (zUa rfl)<|e_p (zk rfl rfl)<|zf ?_
   exact zda () (show True from by first|trivial|omega|simp_all) ((.of rfl):SubM _ _) (ho:=(.n:PickO _ _ _)) ((.of [0,1] rfl):SelR _ _ _)
 ·
  rintro ⟨⟩ -
  try dsimp only
  refine zua rfl rfl<|zv<|zc<|ze<|za<|e_mv rfl<|e_mv rfl<|zu rfl rfl (.c rfl (.c rfl .n)) ce71 (zOf (n:=n) (pL:=pL) (nL:=nL) (cL:=cL) (L:=L) (hnL:=ass) (hn:=ass) (hok:=ass)) (.c (j:=0) rfl .n) ?_
  rintro ⟨p32,c33⟩ -
  dsimp only [aq,nq,cq]
  refine e_p (zb rfl)<|zf<|zc<|ze<|ze<|za<|e_mv rfl<|e_mv rfl<|zf<|zc<|zt<|zga (X:=Nat) (fun x:Nat=>x≤n) (fun x=>[(28,ya yb ((x:Nat):Int)),(27,ya yb ((n:Nat):Int)),(7,.slice p32 n c33),(0,ya yb ((n:Nat):Int)),(1,.slice pL nL cL),(2,.slice pS n cS)]) (fun x=>[]) (fun x=>[slF (rI .i64) p32 c33 (Rd.prt n L),slF (rI4 .i64) pL cL L,slF rQ pS cS sol]) (fun x:Nat=>n - x) 0 (show 0≤n from by exact Nat.zero_le _) ((.e rfl (by first|rfl|(congr 1;omega)|simp_all) (.of rfl)):SubM _ _) (ho:=(.n:PickO _ _ _)) ((.of [0,1,2] rfl):SelR _ _ _) ?_
  rintro i hI
  replace hI:i≤n:=hI
  try dsimp only
  refine ze<|za<|e_p (zT rfl rfl)<|zf<|zc<|ze<|zA rfl (fun h4=> ?_) (fun h4=> ?_)
  ·
   refine zv<|zc<|ze<|zt<|ze<|za<|e_mv rfl<|e_p (zb rfl)<|zf<|zc<|ze<|za<|zu rfl rfl (.c rfl (.c rfl .n)) ce25 (zMa (z1:=0) (z2:=1) (hz1:=cbo) (hz2:=cbo) (hy:=cbo)) (.n) ?_
   rintro ⟨w35,w46⟩ -
   dsimp only [aq,nq,cq]
   refine zu rfl rfl (.c rfl (.c rfl .n)) ce25 (zMa (z1:=0) (z2:=1) (hz1:=cbo) (hz2:=cbo) (hy:=cbo)) (.n) ?_
   rintro ⟨w37,w48⟩ -
   dsimp only [aq,nq,cq]
   refine zK rfl rfl (zw zr28 rfl) (fun b9=> ?_)
   refine zK rfl rfl (zw zr28 rfl) (fun b10=> ?_)
   refine zl 1 rfl rfl rfl rfl rfl sz28 rfl (.t4 .nil) (.s .z)<|zl 0 rfl rfl rfl rfl rfl sz28 rfl (.t4 .nil) .z<|zf<|zc<|ze<|ze<|za<|e_mv rfl<|e_mv rfl<|zf<|zc<|zt<|zga (X:=Nat×Wd×Wd) (fun x:Nat×Wd×Wd=>x.1≤n) (fun x=>[(34,ya yb ((x.1:Nat):Int)),(33,ya yb ((n:Nat):Int)),(10,yc (some ⟨b10,0,none⟩)),(9,yc (some ⟨b9,0,none⟩)),(8,ya yb ((i:Nat):Int)),(28,ya yb ((i:Nat):Int)),(27,ya yb ((n:Nat):Int)),(7,.slice p32 n c33),(0,ya yb ((n:Nat):Int)),(1,.slice pL nL cL),(2,.slice pS n cS)]) (fun x=>[boxA b10 28 (cw [w37,w48]),boxA b9 28 (cw [x.2.1,x.2.2])]) (fun x=>[qF true x.2.1 x.2.2 (Rd.Tq (Rd.prt n L) sol ((i:Nat):Int) x.1),qF true w37 w48 (Rat.divInt 0 1),qF true w35 w46 (Rat.divInt 0 1),slF (rI .i64) p32 c33 (Rd.prt n L),slF (rI4 .i64) pL cL L,slF rQ pS cS sol]) (fun x:Nat×Wd×Wd=>n - x.1) (0,w35,w46) (show 0≤n from by exact Nat.zero_le _) ((.e rfl (by first|rfl|(congr 1;omega)|simp_all) (.of rfl)):SubM _ _) (ho:=((.of [0,0] rfl):PickO _ _ _)) ((.e (j:=1) rfl (by rw [Rd.Tq_0 (Rd.prt n L) sol ((i:Nat):Int)]) (.of [0,1,2,3,4] rfl)):SelR _ _ _) ?_
   rintro ⟨j,wa,wb⟩ hJ
   replace hJ:j≤n:=hJ
   try dsimp only [cw]
   refine ze<|za<|e_p (zT rfl rfl)<|zf<|zc<|ze<|zA rfl (fun h11=> ?_) (fun h11=> ?_)
   ·
    have htq:=Rd.Tq_hq (p:=(Rd.prt n L)) (v:=((i:Nat):Int)) hqs j
    have hjq:j*200001≤16*200001:=Nat.mul_le_mul_right _ om
    have hsj:=hqs j
    refine zv<|zc<|ze<|zt<|ze<|za<|e_mv rfl<|e_p (zb rfl)<|zf<|zc<|ze<|za<|e_mv rfl<|e_mv rfl<|zV (x0:=((Rd.prt n L).getD j 0)) 3 j rfl yd sz3 rfl rfl rfl (by first|rfl|assumption|omega|exact Rd.prt_len _ _) rfl rfl (gD (d:=0) om) (fun b12 o13 hok14=> ?_)
    replace hok14:=zN.1 hok14
    refine e_ru (zj (j:=0) 0 ty3 rfl rfl rfl rfl)<|e_mv rfl<|e_p (zpa rfl rfl)<|zf<|zc<|zA rfl (fun h42=> ?_) (fun h42=> ?_)
    ·
     refine zma (.c (i:=1) rfl (.c (i:=0) rfl .n))<|zca (OW:=[boxA b9 28 (cw [wa,wb])]) (O:=[boxA b10 28 (cw [w37,w48])]) 6 mixed (.block (.then (.then (.block (.then (.block (.then (.then (.block (.then .ret)))))))))) kr<|e_uw 0 rfl rfl (zd 0 ty28 rfl rfl (.t4 .nil))<|e_dm 1 rfl rfl rfl<|e_dm 2 rfl rfl rfl<|d_vl 3 rfl rfl kr kr rfl rfl (zia (x0:=(sol.getD j (0:Rat))) 6 j rfl yf sz28 rfl (by first|rfl|assumption|omega|exact Rd.prt_len _ _) rfl rfl (gD (d:=(0:Rat)) om)) ?_
     rintro ⟨b15,o16,w17,w18⟩ -
     dsimp only [aq,nq,cq]
     refine zxb open_rQ<|e_u 4 rfl rfl (zaa (j:=0) 0 ty28 rfl rfl rfl (.t4 .nil))<|e_one 5 (zx rfl rfl rfl rfl (.c rfl (.c rfl .n)) ce36 (zFb (u1:=wa) (v1:=wb) (q1:=(Rd.Tq (Rd.prt n L) sol ((i:Nat):Int) j)) (u2:=w17) (v2:=w18) (q2:=(sol.getD j (0:Rat))) (hl:=cbo)) (.c (j:=3) rfl (.c (j:=1) rfl .n)) ?_)
     rintro ⟨w319,w420⟩ -
     dsimp only [aq,nq,cq]
     refine e_one 6 (zD kr rfl rfl rfl rfl rfl sz28 rfl (.t4 .nil) ?_)
     refine zZ kr<|zL<|zc<|za<|e_p (zH (z:=(((j+1):Nat):Int)) rfl rfl (w64 om))<|e_mv rfl<|zf<|zba ((j+1),w319,w420) (show (j+1)≤n from by show j+1≤n;omega) (by show n - (j+1)<n - j;omega) ((.of rfl):SubM _ _) (ho:=((.of [1,0] rfl):PickO _ _ _)) ((.e (j:=0) rfl (by rw [Rd.Tq_yes h42]) (.of [5,6,7,8,9] rfl)):SelR _ _ _)
    ·
     refine zv<|zL<|zc<|za<|e_p (zH (z:=(((j+1):Nat):Int)) rfl rfl (w64 om))<|e_mv rfl<|zf<|zba ((j+1),wa,wb) (show (j+1)≤n from by show j+1≤n;omega) (by show n - (j+1)<n - j;omega) ((.of rfl):SubM _ _) (ho:=((.of [0,0] rfl):PickO _ _ _)) ((.e (j:=1) rfl (by rw [Rd.Tq_no h42]) (.of [2,3,4,5,6] rfl)):SelR _ _ _)
   ·
    refine zea<|zi<|zi<|zp<|zc<|ze<|ze ?_
    have e21:(Rd.Tq (Rd.prt n L) sol ((i:Nat):Int) j:Rat)=(0:Rat):=by rw [show j=n by omega];exact Rd.Tq_all hlv _
    rw [e21]
    refine za<|e_mv rfl<|e_p (zC yg rfl)<|e_mv rfl<|zf<|zc<|zt<|zga (X:=Nat×Wd×Wd) (fun x:Nat×Wd×Wd=>x.1≤nL) (fun x=>[(52,ya yb ((x.1:Nat):Int)),(51,ya yb ((nL:Nat):Int)),(50,.slice pL nL cL),(10,yc (some ⟨b10,0,none⟩)),(9,yc (some ⟨b9,0,none⟩)),(8,ya yb ((i:Nat):Int)),(28,ya yb ((i:Nat):Int)),(27,ya yb ((n:Nat):Int)),(7,.slice p32 n c33),(0,ya yb ((n:Nat):Int)),(1,.slice pL nL cL),(2,.slice pS n cS)]) (fun x=>[boxA b10 28 (cw [x.2.1,x.2.2]),boxA b9 28 (cw [wa,wb])]) (fun x=>[qF true x.2.1 x.2.2 (Rd.Gq L sol i x.1),qF true wa wb (0:Rat),qF true w37 w48 (Rat.divInt 0 1),qF true w35 w46 (Rat.divInt 0 1),slF (rI .i64) p32 c33 (Rd.prt n L),slF (rI4 .i64) pL cL L,slF rQ pS cS sol]) (fun x:Nat×Wd×Wd=>nL - x.1) (0,w37,w48) (show 0≤nL from by exact Nat.zero_le _) ((.e rfl (by first|rfl|(congr 1;omega)|simp_all) (.of rfl)):SubM _ _) (ho:=((.of [0,0] rfl):PickO _ _ _)) ((.e (j:=1) rfl (by rw [Rd.Gq_0 L sol i]) (.of [0,1,2,3,4,5] rfl)):SelR _ _ _) ?_
    rintro ⟨k,wg,wh⟩ hK
    replace hK:k≤nL:=hK
    try dsimp only [cw]
    refine ze<|za<|e_p (zT rfl rfl)<|zf<|zc<|ze<|zA rfl (fun h22=> ?_) (fun h22=> ?_)
    ·
     have hgq:=Rd.Gq_hq (i:=i) hok hqs k om
     have hkq:k*(2*200000+9)≤12*(2*200000+9):=Nat.mul_le_mul_right _ om
     refine zv<|zc<|ze<|zt<|ze<|za<|zV (x0:=(L.getD k Rd.c0)) 5 k rfl yg sz68 rfl rfl rfl (by first|rfl|assumption|omega|exact Rd.prt_len _ _) rfl rfl (gD (d:=Rd.c0) om) (fun b23 o24 hok25=> ?_)
     obtain ⟨hok250,hok251,hok252,hok253⟩:=hok25
     replace hok250:=zN.1 hok250
     replace hok251:=zN.1 hok251
     replace hok252:=zN.1 hok252
     replace hok253:=zN.1 hok253
     refine e_ru (zaa (j:=0) 0 ty68 rfl rfl rfl (.t4 .nil))<|zK rfl rfl (zw zr68 rfl) (fun b26=> ?_)
     refine zl 0 rfl rfl rfl rfl rfl sz68 rfl (.t4 .nil) .z<|zf<|zc<|ze ?_
     obtain ⟨cm,hcm⟩:∃z:Cm,z=(L.getD k Rd.c0):=⟨_,rfl⟩
     rw [← hcm]
     have hoi:Rd.Ok n cm:=by rw [hcm];exact hok.getD (show k<L.length by omega)
     have hoa:=hoi.a
     have hob:=hoi.b
     have hoa0:=hoi.a0
     have hob0:=hoi.b0
     have hone:=hoi.ne
     have hod:=hoi.d
     have how:=hoi.w
     obtain ⟨hz1,hz2,hz3,hz4,hz5⟩:=Rd.dt_hq hqs cm hod how
     have hzb:=hqs cm.b.toNat
     have hza:=hqs cm.a.toNat
     refine zca (OW:=[]) (O:=[boxA b26 68 [ya yb (cm.a),ya yb (cm.b),ya yb (cm.d),ya yb (cm.w)],boxA b10 28 (cw [wg,wh]),boxA b9 28 (cw [wa,wb])]) 20 mixed (.then (.block (.then (.then (.block (.then (.block (.then (.then (.block (.then .ret))))))))))) kr<|e_pv 0 rfl rfl (zh ye rfl sz3 rfl rfl)<|e_u 1 rfl rfl (zg 0 ty3 rfl rfl rfl)<|e_dm 3 rfl rfl rfl<|e_pv 4 rfl rfl (zh ye rfl sz3 rfl rfl)<|e_u 5 rfl rfl (zg 0 ty3 rfl rfl rfl)<|d_vl 6 rfl rfl kr kr rfl rfl (zia (x0:=(sol.getD ((cm.b).toNat) (0:Rat))) 7 ((cm.b).toNat) rfl yf sz28 rfl (by first|rfl|assumption|omega|exact Rd.prt_len _ _) rfl om (gD (d:=(0:Rat)) om)) ?_
     rintro ⟨b27,o28,w29,w30⟩ -
     dsimp only [aq,nq,cq]
     refine zxb open_rQ<|e_u 7 rfl rfl (zaa (j:=0) 0 ty28 rfl rfl rfl (.t4 .nil))<|e_dm 8 rfl rfl rfl<|e_pv 9 rfl rfl (zh ye rfl sz3 rfl rfl)<|e_u 10 rfl rfl (zg 0 ty3 rfl rfl rfl)<|d_vl 11 rfl rfl kr kr rfl rfl (zia (x0:=(sol.getD ((cm.a).toNat) (0:Rat))) 9 ((cm.a).toNat) rfl yf sz28 rfl (by first|rfl|assumption|omega|exact Rd.prt_len _ _) rfl om (gD (d:=(0:Rat)) om)) ?_
     rintro ⟨b31,o32,w33,w34⟩ -
     dsimp only [aq,nq,cq]
     refine zxb open_rQ<|e_u 12 rfl rfl (zaa (j:=0) 0 ty28 rfl rfl rfl (.t4 .nil))<|e_pv 14 rfl rfl (zh ye rfl sz3 rfl rfl)<|e_u 15 rfl rfl (zg 0 ty3 rfl rfl rfl)<|zne (m':=[(71,ya yb (cm.d)),(68,.agg (cw [w33,w34]).toArray),(63,.agg (cw [w29,w30]).toArray),(57,ya yb (cm.w)),(13,yc (some ⟨b26,0,none⟩)),(52,ya yb ((k:Nat):Int)),(51,ya yb ((nL:Nat):Int)),(50,.slice pL nL cL),(10,yc (some ⟨b10,0,none⟩)),(9,yc (some ⟨b9,0,none⟩)),(8,ya yb ((i:Nat):Int)),(28,ya yb ((i:Nat):Int)),(27,ya yb ((n:Nat):Int)),(7,.slice p32 n c33),(0,ya yb ((n:Nat):Int)),(1,.slice pL nL cL),(2,.slice pS n cS)]) (R':=[qF true w33 w34 (sol.getD ((cm.a).toNat) (0:Rat)),qF true w29 w30 (sol.getD ((cm.b).toNat) (0:Rat)),qF true wg wh (Rd.Gq L sol i k),qF true wa wb (0:Rat),qF true w37 w48 (Rat.divInt 0 1),qF true w35 w46 (Rat.divInt 0 1),slF (rI .i64) p32 c33 (Rd.prt n L),slF (rI4 .i64) pL cL L,slF rQ pS cS sol]) ((.of rfl):SubM _ _) (List.Perm.refl _) (List.Perm.refl _) ((.of [1,3,5,6,7,8,9,10,11] rfl):SelR _ _ _)<|zFa (X:=Wd×Wd×Wd×Wd×Wd×Wd×Wd×Wd×Wd×Wd×Nat) (k':=0) (L':=(lb 21 2097151)) (fun (u2_1,u2_2,u13_1,u13_2,u16_1,u16_2,u17_1,u17_2,u18_1,u18_2,u19_1)=>([(14,yc (some ⟨u19_1,0,none⟩)),(13,yc (some ⟨b26,0,none⟩)),(52,ya yb ((k:Nat):Int)),(51,ya yb ((nL:Nat):Int)),(50,.slice pL nL cL),(10,yc (some ⟨b10,0,none⟩)),(9,yc (some ⟨b9,0,none⟩)),(8,ya yb ((i:Nat):Int)),(28,ya yb ((i:Nat):Int)),(27,ya yb ((n:Nat):Int)),(7,.slice p32 n c33),(0,ya yb ((n:Nat):Int)),(1,.slice pL nL cL),(2,.slice pS n cS)],[boxA u19_1 28 (cw [u18_1,u18_2])],[boxA b26 68 [ya yb (cm.a),ya yb (cm.b),ya yb (cm.d),ya yb (cm.w)],boxA b10 28 (cw [wg,wh]),boxA b9 28 (cw [wa,wb])],[qF true u18_1 u18_2 ((Rat.divInt cm.w 1)*(((sol.getD ((cm.b).toNat) (0:Rat)) - (sol.getD ((cm.a).toNat) (0:Rat)))+(Rat.divInt cm.d 1))),qF true u17_1 u17_2 (((sol.getD ((cm.b).toNat) (0:Rat)) - (sol.getD ((cm.a).toNat) (0:Rat)))+(Rat.divInt cm.d 1)),qF true u16_1 u16_2 (Rat.divInt cm.d 1),qF true u13_1 u13_2 ((sol.getD ((cm.b).toNat) (0:Rat)) - (sol.getD ((cm.a).toNat) (0:Rat))),qF true u2_1 u2_2 (Rat.divInt cm.w 1),qF true w33 w34 (sol.getD ((cm.a).toNat) (0:Rat)),qF true w29 w30 (sol.getD ((cm.b).toNat) (0:Rat)),qF true wg wh (Rd.Gq L sol i k),qF true wa wb (0:Rat),qF true w37 w48 (Rat.divInt 0 1),qF true w35 w46 (Rat.divInt 0 1),slF (rI .i64) p32 c33 (Rd.prt n L),slF (rI4 .i64) pL cL L,slF rQ pS cS sol])) ?_ (fun hD0=> ?_)
     ·
      rintro ⟨u2_1,u2_2,u13_1,u13_2,u16_1,u16_2,u17_1,u17_2,u18_1,u18_2,u19_1⟩
      dsimp only [cw]
      refine zZ kr<|zc<|ze<|ze ?_
      have e35:((Rat.divInt cm.w 1)*(((sol.getD ((cm.b).toNat) (0:Rat)) - (sol.getD ((cm.a).toNat) (0:Rat)))+(Rat.divInt cm.d 1)):Rat)=(Rd.dt sol cm):=by rfl
      rw [e35]
      refine za<|e_p (zh ye rfl sz3 rfl rfl)<|e_ru (zg 1 ty3 rfl rfl rfl)<|e_mv rfl<|e_p (zpa rfl rfl)<|zf<|zc<|zA rfl (fun h78=> ?_) (fun h78=> ?_)
      ·
       refine za<|e_ru (zd 2 ty28 rfl rfl (.t4 .nil))<|e_ru (zd 0 ty28 rfl rfl (.t4 .nil))<|zu rfl rfl (.c rfl (.c rfl .n)) ce36 (zFb (u1:=wg) (v1:=wh) (q1:=(Rd.Gq L sol i k)) (u2:=u18_1) (v2:=u18_2) (q2:=(Rd.dt sol cm)) (hl:=cbo)) (.c (j:=7) rfl (.c (j:=0) rfl .n)) ?_
       rintro ⟨w336,w437⟩ -
       dsimp only [aq,nq,cq]
       refine zl 2 rfl rfl rfl rfl rfl sz28 rfl (.t4 .nil) (.s (.s .z))<|zf<|zc<|ze<|za<|e_p (zh ye rfl sz3 rfl rfl)<|e_ru (zg 1 ty3 rfl rfl rfl)<|e_mv rfl<|e_p (zpa rfl rfl)<|zf<|zc<|zA rfl (fun h85=> ?_) (fun h85=> ?_)
       ·
        refine za<|e_ru (zd 2 ty28 rfl rfl (.t4 .nil))<|e_ru (zd 0 ty28 rfl rfl (.t4 .nil))<|zu rfl rfl (.c rfl (.c rfl .n)) ce28 (znb (k1:=true) (u1:=w336) (v1:=w437) (q1:=(Rd.Gq L sol i k)+(Rd.dt sol cm)) (k2:=true) (u2:=u18_1) (v2:=u18_2) (q2:=(Rd.dt sol cm)) (hl:=cbo)) (.c (j:=0) rfl (.c (j:=1) rfl .n)) ?_
        rintro ⟨w338,w439⟩ -
        dsimp only [aq,nq,cq]
        refine zl 2 rfl rfl rfl rfl rfl sz28 rfl (.t4 .nil) (.s (.s .z))<|zf<|zL<|zc<|za<|e_p (zH (z:=(((k+1):Nat):Int)) rfl rfl (w64 om))<|e_mv rfl<|zf<|zba ((k+1),w338,w439) (show (k+1)≤nL from by show k+1≤nL;omega) (by show nL - (k+1)<nL - k;omega) ((.of rfl):SubM _ _) (ho:=((.of [2,2] rfl):PickO _ _ _)) ((.e (j:=0) rfl (by exfalso;omega) (.of [10,11,12,13,14,15] rfl)):SelR _ _ _)
       ·
        refine zv<|zL<|zc<|za<|e_p (zH (z:=(((k+1):Nat):Int)) rfl rfl (w64 om))<|e_mv rfl<|zf<|zba ((k+1),w336,w437) (show (k+1)≤nL from by show k+1≤nL;omega) (by show nL - (k+1)<nL - k;omega) ((.of rfl):SubM _ _) (ho:=((.of [2,2] rfl):PickO _ _ _)) ((.e (j:=0) rfl (by rw [Rd.Gq_b (n:=n) (show k<L.length by omega) (by rw [← hcm];exact hoi) (by rw [← hcm];exact h78),←hcm]) (.of [9,10,11,12,13,14] rfl)):SelR _ _ _)
      ·
       refine zv<|zc<|ze<|za<|e_p (zh ye rfl sz3 rfl rfl)<|e_ru (zg 1 ty3 rfl rfl rfl)<|e_mv rfl<|e_p (zpa rfl rfl)<|zf<|zc<|zA rfl (fun h85=> ?_) (fun h85=> ?_)
       ·
        refine za<|e_ru (zd 2 ty28 rfl rfl (.t4 .nil))<|e_ru (zd 0 ty28 rfl rfl (.t4 .nil))<|zu rfl rfl (.c rfl (.c rfl .n)) ce28 (znb (k1:=true) (u1:=wg) (v1:=wh) (q1:=(Rd.Gq L sol i k)) (k2:=true) (u2:=u18_1) (v2:=u18_2) (q2:=(Rd.dt sol cm)) (hl:=cbo)) (.c (j:=7) rfl (.c (j:=0) rfl .n)) ?_
        rintro ⟨w340,w441⟩ -
        dsimp only [aq,nq,cq]
        refine zl 2 rfl rfl rfl rfl rfl sz28 rfl (.t4 .nil) (.s (.s .z))<|zf<|zL<|zc<|za<|e_p (zH (z:=(((k+1):Nat):Int)) rfl rfl (w64 om))<|e_mv rfl<|zf<|zba ((k+1),w340,w441) (show (k+1)≤nL from by show k+1≤nL;omega) (by show nL - (k+1)<nL - k;omega) ((.of rfl):SubM _ _) (ho:=((.of [2,2] rfl):PickO _ _ _)) ((.e (j:=0) rfl (by rw [Rd.Gq_a (n:=n) (show k<L.length by omega) (by rw [← hcm];exact hoi) (by rw [← hcm];exact h85),←hcm]) (.of [9,10,11,12,13,14] rfl)):SelR _ _ _)
       ·
        refine zv<|zL<|zc<|za<|e_p (zH (z:=(((k+1):Nat):Int)) rfl rfl (w64 om))<|e_mv rfl<|zf<|zba ((k+1),wg,wh) (show (k+1)≤nL from by show k+1≤nL;omega) (by show nL - (k+1)<nL - k;omega) ((.of rfl):SubM _ _) (ho:=((.of [2,2] rfl):PickO _ _ _)) ((.e (j:=7) rfl (by rw [Rd.Gq_n (n:=n) (show k<L.length by omega) (by rw [← hcm];exact hoi) (by rw [← hcm];exact h78) (by rw [← hcm];exact h85)]) (.of [8,9,10,11,12,13] rfl)):SelR _ _ _)
     refine zFa (X:=Wd×Wd×Wd×Wd×Wd×Wd×Wd×Wd×Wd×Wd×Nat) (k':=1) (L':=(lb 21 1048575)) (fun (u2_1,u2_2,u13_1,u13_2,u16_1,u16_2,u17_1,u17_2,u18_1,u18_2,u19_1)=>([(14,yc (some ⟨u19_1,0,none⟩)),(74,.agg (cw [u18_1,u18_2]).toArray),(13,yc (some ⟨b26,0,none⟩)),(52,ya yb ((k:Nat):Int)),(51,ya yb ((nL:Nat):Int)),(50,.slice pL nL cL),(10,yc (some ⟨b10,0,none⟩)),(9,yc (some ⟨b9,0,none⟩)),(8,ya yb ((i:Nat):Int)),(28,ya yb ((i:Nat):Int)),(27,ya yb ((n:Nat):Int)),(7,.slice p32 n c33),(0,ya yb ((n:Nat):Int)),(1,.slice pL nL cL),(2,.slice pS n cS)],[boxA u19_1 28 (cw [wz,wz])],[boxA b26 68 [ya yb (cm.a),ya yb (cm.b),ya yb (cm.d),ya yb (cm.w)],boxA b10 28 (cw [wg,wh]),boxA b9 28 (cw [wa,wb])],[qF true u18_1 u18_2 ((Rat.divInt cm.w 1)*(((sol.getD ((cm.b).toNat) (0:Rat)) - (sol.getD ((cm.a).toNat) (0:Rat)))+(Rat.divInt cm.d 1))),qF true u17_1 u17_2 (((sol.getD ((cm.b).toNat) (0:Rat)) - (sol.getD ((cm.a).toNat) (0:Rat)))+(Rat.divInt cm.d 1)),qF true u16_1 u16_2 (Rat.divInt cm.d 1),qF true u13_1 u13_2 ((sol.getD ((cm.b).toNat) (0:Rat)) - (sol.getD ((cm.a).toNat) (0:Rat))),qF true u2_1 u2_2 (Rat.divInt cm.w 1),qF true w33 w34 (sol.getD ((cm.a).toNat) (0:Rat)),qF true w29 w30 (sol.getD ((cm.b).toNat) (0:Rat)),qF true wg wh (Rd.Gq L sol i k),qF true wa wb (0:Rat),qF true w37 w48 (Rat.divInt 0 1),qF true w35 w46 (Rat.divInt 0 1),slF (rI .i64) p32 c33 (Rd.prt n L),slF (rI4 .i64) pL cL L,slF rQ pS cS sol])) ?_ (fun hD1=> ?_)
     ·
      rintro ⟨u2_1,u2_2,u13_1,u13_2,u16_1,u16_2,u17_1,u17_2,u18_1,u18_2,u19_1⟩
      dsimp only [cw]
      refine zJb 20 kr ?_
      ·
       refine zD kr rfl rfl rfl rfl rfl sz28 rfl (.t4 .nil) ?_
       exact zoa (hD0 (u2_1,u2_2,u13_1,u13_2,u16_1,u16_2,u17_1,u17_2,u18_1,u18_2,u19_1)) kr ((.of rfl):SubM _ _) .rfl .rfl ((.of [0,1,2,3,4,5,6,7,8,9,10,11,12,13] rfl):SelR _ _ _)
     refine zFa (X:=Wd×Wd×Wd×Wd×Wd×Wd×Wd×Wd×Wd×Wd) (k':=2) (L':=(lb 21 524287)) (fun (u2_1,u2_2,u13_1,u13_2,u16_1,u16_2,u17_1,u17_2,u18_1,u18_2)=>([(74,.agg (cw [u18_1,u18_2]).toArray),(13,yc (some ⟨b26,0,none⟩)),(52,ya yb ((k:Nat):Int)),(51,ya yb ((nL:Nat):Int)),(50,.slice pL nL cL),(10,yc (some ⟨b10,0,none⟩)),(9,yc (some ⟨b9,0,none⟩)),(8,ya yb ((i:Nat):Int)),(28,ya yb ((i:Nat):Int)),(27,ya yb ((n:Nat):Int)),(7,.slice p32 n c33),(0,ya yb ((n:Nat):Int)),(1,.slice pL nL cL),(2,.slice pS n cS)],[],[boxA b26 68 [ya yb (cm.a),ya yb (cm.b),ya yb (cm.d),ya yb (cm.w)],boxA b10 28 (cw [wg,wh]),boxA b9 28 (cw [wa,wb])],[qF true u18_1 u18_2 ((Rat.divInt cm.w 1)*(((sol.getD ((cm.b).toNat) (0:Rat)) - (sol.getD ((cm.a).toNat) (0:Rat)))+(Rat.divInt cm.d 1))),qF true u17_1 u17_2 (((sol.getD ((cm.b).toNat) (0:Rat)) - (sol.getD ((cm.a).toNat) (0:Rat)))+(Rat.divInt cm.d 1)),qF true u16_1 u16_2 (Rat.divInt cm.d 1),qF true u13_1 u13_2 ((sol.getD ((cm.b).toNat) (0:Rat)) - (sol.getD ((cm.a).toNat) (0:Rat))),qF true u2_1 u2_2 (Rat.divInt cm.w 1),qF true w33 w34 (sol.getD ((cm.a).toNat) (0:Rat)),qF true w29 w30 (sol.getD ((cm.b).toNat) (0:Rat)),qF true wg wh (Rd.Gq L sol i k),qF true wa wb (0:Rat),qF true w37 w48 (Rat.divInt 0 1),qF true w35 w46 (Rat.divInt 0 1),slF (rI .i64) p32 c33 (Rd.prt n L),slF (rI4 .i64) pL cL L,slF rQ pS cS sol])) ?_ (fun hD2=> ?_)
     ·
      rintro ⟨u2_1,u2_2,u13_1,u13_2,u16_1,u16_2,u17_1,u17_2,u18_1,u18_2⟩
      dsimp only [cw]
      refine zJb 19 kr ?_
      ·
       refine zpb rfl rfl rfl rfl (zw zr28 rfl) (fun u19_1 _=> ?_)
       exact zoa (hD1 (u2_1,u2_2,u13_1,u13_2,u16_1,u16_2,u17_1,u17_2,u18_1,u18_2,u19_1)) kr ((.of rfl):SubM _ _) .rfl .rfl ((.of [0,1,2,3,4,5,6,7,8,9,10,11,12,13] rfl):SelR _ _ _)
     refine zFa (X:=Wd×Wd×Wd×Wd×Wd×Wd×Wd×Wd×Nat) (k':=2) (L':=(lb 21 786431)) (fun (u2_1,u2_2,u13_1,u13_2,u16_1,u16_2,u17_1,u17_2,u19_1)=>([(14,yc (some ⟨u19_1,0,none⟩)),(73,.agg (cw [u17_1,u17_2]).toArray),(58,.agg (cw [u2_1,u2_2]).toArray),(13,yc (some ⟨b26,0,none⟩)),(52,ya yb ((k:Nat):Int)),(51,ya yb ((nL:Nat):Int)),(50,.slice pL nL cL),(10,yc (some ⟨b10,0,none⟩)),(9,yc (some ⟨b9,0,none⟩)),(8,ya yb ((i:Nat):Int)),(28,ya yb ((i:Nat):Int)),(27,ya yb ((n:Nat):Int)),(7,.slice p32 n c33),(0,ya yb ((n:Nat):Int)),(1,.slice pL nL cL),(2,.slice pS n cS)],[boxA u19_1 28 (cw [wz,wz])],[boxA b26 68 [ya yb (cm.a),ya yb (cm.b),ya yb (cm.d),ya yb (cm.w)],boxA b10 28 (cw [wg,wh]),boxA b9 28 (cw [wa,wb])],[qF true u17_1 u17_2 (((sol.getD ((cm.b).toNat) (0:Rat)) - (sol.getD ((cm.a).toNat) (0:Rat)))+(Rat.divInt cm.d 1)),qF true u16_1 u16_2 (Rat.divInt cm.d 1),qF true u13_1 u13_2 ((sol.getD ((cm.b).toNat) (0:Rat)) - (sol.getD ((cm.a).toNat) (0:Rat))),qF true u2_1 u2_2 (Rat.divInt cm.w 1),qF true w33 w34 (sol.getD ((cm.a).toNat) (0:Rat)),qF true w29 w30 (sol.getD ((cm.b).toNat) (0:Rat)),qF true wg wh (Rd.Gq L sol i k),qF true wa wb (0:Rat),qF true w37 w48 (Rat.divInt 0 1),qF true w35 w46 (Rat.divInt 0 1),slF (rI .i64) p32 c33 (Rd.prt n L),slF (rI4 .i64) pL cL L,slF rQ pS cS sol])) ?_ (fun hD3=> ?_)
     ·
      rintro ⟨u2_1,u2_2,u13_1,u13_2,u16_1,u16_2,u17_1,u17_2,u19_1⟩
      dsimp only [cw]
      refine zJb 18 kr ?_
      ·
       refine zx rfl rfl rfl rfl (.c rfl (.c rfl .n)) ce24 (zCc (u1:=u2_1) (v1:=u2_2) (q1:=Rat.divInt cm.w 1) (u2:=u17_1) (v2:=u17_2) (q2:=((sol.getD ((cm.b).toNat) (0:Rat)) - (sol.getD ((cm.a).toNat) (0:Rat)))+(Rat.divInt cm.d 1)) (hl:=cbo)) (.c (j:=3) rfl (.c (j:=0) rfl .n)) ?_
       rintro ⟨u18_1,u18_2⟩ -
       dsimp only [aq,nq,cq]
       exact zoa (hD1 (u2_1,u2_2,u13_1,u13_2,u16_1,u16_2,u17_1,u17_2,u18_1,u18_2,u19_1)) kr ((.of rfl):SubM _ _) .rfl .rfl ((.of [0,1,2,3,4,5,6,7,8,9,10,11,12,13] rfl):SelR _ _ _)
     refine zFa (X:=Wd×Wd×Wd×Wd×Wd×Wd×Wd×Wd) (k':=3) (L':=(lb 21 262143)) (fun (u2_1,u2_2,u13_1,u13_2,u16_1,u16_2,u17_1,u17_2)=>([(73,.agg (cw [u17_1,u17_2]).toArray),(58,.agg (cw [u2_1,u2_2]).toArray),(13,yc (some ⟨b26,0,none⟩)),(52,ya yb ((k:Nat):Int)),(51,ya yb ((nL:Nat):Int)),(50,.slice pL nL cL),(10,yc (some ⟨b10,0,none⟩)),(9,yc (some ⟨b9,0,none⟩)),(8,ya yb ((i:Nat):Int)),(28,ya yb ((i:Nat):Int)),(27,ya yb ((n:Nat):Int)),(7,.slice p32 n c33),(0,ya yb ((n:Nat):Int)),(1,.slice pL nL cL),(2,.slice pS n cS)],[],[boxA b26 68 [ya yb (cm.a),ya yb (cm.b),ya yb (cm.d),ya yb (cm.w)],boxA b10 28 (cw [wg,wh]),boxA b9 28 (cw [wa,wb])],[qF true u17_1 u17_2 (((sol.getD ((cm.b).toNat) (0:Rat)) - (sol.getD ((cm.a).toNat) (0:Rat)))+(Rat.divInt cm.d 1)),qF true u16_1 u16_2 (Rat.divInt cm.d 1),qF true u13_1 u13_2 ((sol.getD ((cm.b).toNat) (0:Rat)) - (sol.getD ((cm.a).toNat) (0:Rat))),qF true u2_1 u2_2 (Rat.divInt cm.w 1),qF true w33 w34 (sol.getD ((cm.a).toNat) (0:Rat)),qF true w29 w30 (sol.getD ((cm.b).toNat) (0:Rat)),qF true wg wh (Rd.Gq L sol i k),qF true wa wb (0:Rat),qF true w37 w48 (Rat.divInt 0 1),qF true w35 w46 (Rat.divInt 0 1),slF (rI .i64) p32 c33 (Rd.prt n L),slF (rI4 .i64) pL cL L,slF rQ pS cS sol])) ?_ (fun hD4=> ?_)
     ·
      rintro ⟨u2_1,u2_2,u13_1,u13_2,u16_1,u16_2,u17_1,u17_2⟩
      dsimp only [cw]
      refine zUc 18 19 kr ?_ ?_
      ·
       refine zx rfl rfl rfl rfl (.c rfl (.c rfl .n)) ce24 (zCc (u1:=u2_1) (v1:=u2_2) (q1:=Rat.divInt cm.w 1) (u2:=u17_1) (v2:=u17_2) (q2:=((sol.getD ((cm.b).toNat) (0:Rat)) - (sol.getD ((cm.a).toNat) (0:Rat)))+(Rat.divInt cm.d 1)) (hl:=cbo)) (.c (j:=3) rfl (.c (j:=0) rfl .n)) ?_
       rintro ⟨u18_1,u18_2⟩ -
       dsimp only [aq,nq,cq]
       exact zoa (hD2 (u2_1,u2_2,u13_1,u13_2,u16_1,u16_2,u17_1,u17_2,u18_1,u18_2)) kr ((.of rfl):SubM _ _) .rfl .rfl ((.of [0,1,2,3,4,5,6,7,8,9,10,11,12,13] rfl):SelR _ _ _)
      ·
       refine zpb rfl rfl rfl rfl (zw zr28 rfl) (fun u19_1 _=> ?_)
       exact zoa (hD3 (u2_1,u2_2,u13_1,u13_2,u16_1,u16_2,u17_1,u17_2,u19_1)) kr ((.of rfl):SubM _ _) .rfl .rfl ((.of [0,1,2,3,4,5,6,7,8,9,10,11,12] rfl):SelR _ _ _)
     refine zFa (X:=Wd×Wd×Wd×Wd×Wd×Wd×Nat) (k':=3) (L':=(lb 21 655359)) (fun (u2_1,u2_2,u13_1,u13_2,u16_1,u16_2,u19_1)=>([(14,yc (some ⟨u19_1,0,none⟩)),(72,.agg (cw [u16_1,u16_2]).toArray),(69,.agg (cw [u13_1,u13_2]).toArray),(58,.agg (cw [u2_1,u2_2]).toArray),(13,yc (some ⟨b26,0,none⟩)),(52,ya yb ((k:Nat):Int)),(51,ya yb ((nL:Nat):Int)),(50,.slice pL nL cL),(10,yc (some ⟨b10,0,none⟩)),(9,yc (some ⟨b9,0,none⟩)),(8,ya yb ((i:Nat):Int)),(28,ya yb ((i:Nat):Int)),(27,ya yb ((n:Nat):Int)),(7,.slice p32 n c33),(0,ya yb ((n:Nat):Int)),(1,.slice pL nL cL),(2,.slice pS n cS)],[boxA u19_1 28 (cw [wz,wz])],[boxA b26 68 [ya yb (cm.a),ya yb (cm.b),ya yb (cm.d),ya yb (cm.w)],boxA b10 28 (cw [wg,wh]),boxA b9 28 (cw [wa,wb])],[qF true u16_1 u16_2 (Rat.divInt cm.d 1),qF true u13_1 u13_2 ((sol.getD ((cm.b).toNat) (0:Rat)) - (sol.getD ((cm.a).toNat) (0:Rat))),qF true u2_1 u2_2 (Rat.divInt cm.w 1),qF true w33 w34 (sol.getD ((cm.a).toNat) (0:Rat)),qF true w29 w30 (sol.getD ((cm.b).toNat) (0:Rat)),qF true wg wh (Rd.Gq L sol i k),qF true wa wb (0:Rat),qF true w37 w48 (Rat.divInt 0 1),qF true w35 w46 (Rat.divInt 0 1),slF (rI .i64) p32 c33 (Rd.prt n L),slF (rI4 .i64) pL cL L,slF rQ pS cS sol])) ?_ (fun hD5=> ?_)
     ·
      rintro ⟨u2_1,u2_2,u13_1,u13_2,u16_1,u16_2,u19_1⟩
      dsimp only [cw]
      refine zJb 17 kr ?_
      ·
       refine zx rfl rfl rfl rfl (.c rfl (.c rfl .n)) ce36 (zFb (u1:=u13_1) (v1:=u13_2) (q1:=(sol.getD ((cm.b).toNat) (0:Rat)) - (sol.getD ((cm.a).toNat) (0:Rat))) (u2:=u16_1) (v2:=u16_2) (q2:=Rat.divInt cm.d 1) (hl:=cbo)) (.c (j:=1) rfl (.c (j:=0) rfl .n)) ?_
       rintro ⟨u17_1,u17_2⟩ -
       dsimp only [aq,nq,cq]
       exact zoa (hD3 (u2_1,u2_2,u13_1,u13_2,u16_1,u16_2,u17_1,u17_2,u19_1)) kr ((.of rfl):SubM _ _) .rfl .rfl ((.of [0,1,2,3,4,5,6,7,8,9,10,11,12] rfl):SelR _ _ _)
     refine zFa (X:=Wd×Wd×Wd×Wd×Wd×Wd) (k':=4) (L':=(lb 21 131071)) (fun (u2_1,u2_2,u13_1,u13_2,u16_1,u16_2)=>([(72,.agg (cw [u16_1,u16_2]).toArray),(69,.agg (cw [u13_1,u13_2]).toArray),(58,.agg (cw [u2_1,u2_2]).toArray),(13,yc (some ⟨b26,0,none⟩)),(52,ya yb ((k:Nat):Int)),(51,ya yb ((nL:Nat):Int)),(50,.slice pL nL cL),(10,yc (some ⟨b10,0,none⟩)),(9,yc (some ⟨b9,0,none⟩)),(8,ya yb ((i:Nat):Int)),(28,ya yb ((i:Nat):Int)),(27,ya yb ((n:Nat):Int)),(7,.slice p32 n c33),(0,ya yb ((n:Nat):Int)),(1,.slice pL nL cL),(2,.slice pS n cS)],[],[boxA b26 68 [ya yb (cm.a),ya yb (cm.b),ya yb (cm.d),ya yb (cm.w)],boxA b10 28 (cw [wg,wh]),boxA b9 28 (cw [wa,wb])],[qF true u16_1 u16_2 (Rat.divInt cm.d 1),qF true u13_1 u13_2 ((sol.getD ((cm.b).toNat) (0:Rat)) - (sol.getD ((cm.a).toNat) (0:Rat))),qF true u2_1 u2_2 (Rat.divInt cm.w 1),qF true w33 w34 (sol.getD ((cm.a).toNat) (0:Rat)),qF true w29 w30 (sol.getD ((cm.b).toNat) (0:Rat)),qF true wg wh (Rd.Gq L sol i k),qF true wa wb (0:Rat),qF true w37 w48 (Rat.divInt 0 1),qF true w35 w46 (Rat.divInt 0 1),slF (rI .i64) p32 c33 (Rd.prt n L),slF (rI4 .i64) pL cL L,slF rQ pS cS sol])) ?_ (fun hD6=> ?_)
     ·
      rintro ⟨u2_1,u2_2,u13_1,u13_2,u16_1,u16_2⟩
      dsimp only [cw]
      refine zUc 17 19 kr ?_ ?_
      ·
       refine zx rfl rfl rfl rfl (.c rfl (.c rfl .n)) ce36 (zFb (u1:=u13_1) (v1:=u13_2) (q1:=(sol.getD ((cm.b).toNat) (0:Rat)) - (sol.getD ((cm.a).toNat) (0:Rat))) (u2:=u16_1) (v2:=u16_2) (q2:=Rat.divInt cm.d 1) (hl:=cbo)) (.c (j:=1) rfl (.c (j:=0) rfl .n)) ?_
       rintro ⟨u17_1,u17_2⟩ -
       dsimp only [aq,nq,cq]
       exact zoa (hD4 (u2_1,u2_2,u13_1,u13_2,u16_1,u16_2,u17_1,u17_2)) kr ((.of rfl):SubM _ _) .rfl .rfl ((.of [0,1,2,3,4,5,6,7,8,9,10,11,12] rfl):SelR _ _ _)
      ·
       refine zpb rfl rfl rfl rfl (zw zr28 rfl) (fun u19_1 _=> ?_)
       exact zoa (hD5 (u2_1,u2_2,u13_1,u13_2,u16_1,u16_2,u19_1)) kr ((.of rfl):SubM _ _) .rfl .rfl ((.of [0,1,2,3,4,5,6,7,8,9,10,11] rfl):SelR _ _ _)
     refine zFa (X:=Wd×Wd×Wd×Wd×Nat) (k':=4) (L':=(lb 21 589823)) (fun (u2_1,u2_2,u13_1,u13_2,u19_1)=>([(14,yc (some ⟨u19_1,0,none⟩)),(69,.agg (cw [u13_1,u13_2]).toArray),(58,.agg (cw [u2_1,u2_2]).toArray),(71,ya yb (cm.d)),(13,yc (some ⟨b26,0,none⟩)),(52,ya yb ((k:Nat):Int)),(51,ya yb ((nL:Nat):Int)),(50,.slice pL nL cL),(10,yc (some ⟨b10,0,none⟩)),(9,yc (some ⟨b9,0,none⟩)),(8,ya yb ((i:Nat):Int)),(28,ya yb ((i:Nat):Int)),(27,ya yb ((n:Nat):Int)),(7,.slice p32 n c33),(0,ya yb ((n:Nat):Int)),(1,.slice pL nL cL),(2,.slice pS n cS)],[boxA u19_1 28 (cw [wz,wz])],[boxA b26 68 [ya yb (cm.a),ya yb (cm.b),ya yb (cm.d),ya yb (cm.w)],boxA b10 28 (cw [wg,wh]),boxA b9 28 (cw [wa,wb])],[qF true u13_1 u13_2 ((sol.getD ((cm.b).toNat) (0:Rat)) - (sol.getD ((cm.a).toNat) (0:Rat))),qF true u2_1 u2_2 (Rat.divInt cm.w 1),qF true w33 w34 (sol.getD ((cm.a).toNat) (0:Rat)),qF true w29 w30 (sol.getD ((cm.b).toNat) (0:Rat)),qF true wg wh (Rd.Gq L sol i k),qF true wa wb (0:Rat),qF true w37 w48 (Rat.divInt 0 1),qF true w35 w46 (Rat.divInt 0 1),slF (rI .i64) p32 c33 (Rd.prt n L),slF (rI4 .i64) pL cL L,slF rQ pS cS sol])) ?_ (fun hD7=> ?_)
     ·
      rintro ⟨u2_1,u2_2,u13_1,u13_2,u19_1⟩
      dsimp only [cw]
      refine zJb 16 kr ?_
      ·
       refine zx rfl rfl rfl rfl (.c rfl (.c rfl .n)) ce25 (zMa (z1:=cm.d) (z2:=1) (hz1:=cbo) (hz2:=cbo) (hy:=cbo)) (.n) ?_
       rintro ⟨u16_1,u16_2⟩ -
       dsimp only [aq,nq,cq]
       exact zoa (hD5 (u2_1,u2_2,u13_1,u13_2,u16_1,u16_2,u19_1)) kr ((.of rfl):SubM _ _) .rfl .rfl ((.of [0,1,2,3,4,5,6,7,8,9,10,11] rfl):SelR _ _ _)
     refine zFa (X:=Wd×Wd×Wd×Wd) (k':=5) (L':=(lb 21 65535)) (fun (u2_1,u2_2,u13_1,u13_2)=>([(69,.agg (cw [u13_1,u13_2]).toArray),(58,.agg (cw [u2_1,u2_2]).toArray),(71,ya yb (cm.d)),(13,yc (some ⟨b26,0,none⟩)),(52,ya yb ((k:Nat):Int)),(51,ya yb ((nL:Nat):Int)),(50,.slice pL nL cL),(10,yc (some ⟨b10,0,none⟩)),(9,yc (some ⟨b9,0,none⟩)),(8,ya yb ((i:Nat):Int)),(28,ya yb ((i:Nat):Int)),(27,ya yb ((n:Nat):Int)),(7,.slice p32 n c33),(0,ya yb ((n:Nat):Int)),(1,.slice pL nL cL),(2,.slice pS n cS)],[],[boxA b26 68 [ya yb (cm.a),ya yb (cm.b),ya yb (cm.d),ya yb (cm.w)],boxA b10 28 (cw [wg,wh]),boxA b9 28 (cw [wa,wb])],[qF true u13_1 u13_2 ((sol.getD ((cm.b).toNat) (0:Rat)) - (sol.getD ((cm.a).toNat) (0:Rat))),qF true u2_1 u2_2 (Rat.divInt cm.w 1),qF true w33 w34 (sol.getD ((cm.a).toNat) (0:Rat)),qF true w29 w30 (sol.getD ((cm.b).toNat) (0:Rat)),qF true wg wh (Rd.Gq L sol i k),qF true wa wb (0:Rat),qF true w37 w48 (Rat.divInt 0 1),qF true w35 w46 (Rat.divInt 0 1),slF (rI .i64) p32 c33 (Rd.prt n L),slF (rI4 .i64) pL cL L,slF rQ pS cS sol])) ?_ (fun hD8=> ?_)
     ·
      rintro ⟨u2_1,u2_2,u13_1,u13_2⟩
      dsimp only [cw]
      refine zUc 16 19 kr ?_ ?_
      ·
       refine zx rfl rfl rfl rfl (.c rfl (.c rfl .n)) ce25 (zMa (z1:=cm.d) (z2:=1) (hz1:=cbo) (hz2:=cbo) (hy:=cbo)) (.n) ?_
       rintro ⟨u16_1,u16_2⟩ -
       dsimp only [aq,nq,cq]
       exact zoa (hD6 (u2_1,u2_2,u13_1,u13_2,u16_1,u16_2)) kr ((.of rfl):SubM _ _) .rfl .rfl ((.of [0,1,2,3,4,5,6,7,8,9,10,11] rfl):SelR _ _ _)
      ·
       refine zpb rfl rfl rfl rfl (zw zr28 rfl) (fun u19_1 _=> ?_)
       exact zoa (hD7 (u2_1,u2_2,u13_1,u13_2,u19_1)) kr ((.of rfl):SubM _ _) .rfl .rfl ((.of [0,1,2,3,4,5,6,7,8,9,10] rfl):SelR _ _ _)
     refine zFa (X:=Wd×Wd×Nat) (k':=5) (L':=(lb 21 581631)) (fun (u2_1,u2_2,u19_1)=>([(14,yc (some ⟨u19_1,0,none⟩)),(58,.agg (cw [u2_1,u2_2]).toArray),(71,ya yb (cm.d)),(68,.agg (cw [w33,w34]).toArray),(63,.agg (cw [w29,w30]).toArray),(13,yc (some ⟨b26,0,none⟩)),(52,ya yb ((k:Nat):Int)),(51,ya yb ((nL:Nat):Int)),(50,.slice pL nL cL),(10,yc (some ⟨b10,0,none⟩)),(9,yc (some ⟨b9,0,none⟩)),(8,ya yb ((i:Nat):Int)),(28,ya yb ((i:Nat):Int)),(27,ya yb ((n:Nat):Int)),(7,.slice p32 n c33),(0,ya yb ((n:Nat):Int)),(1,.slice pL nL cL),(2,.slice pS n cS)],[boxA u19_1 28 (cw [wz,wz])],[boxA b26 68 [ya yb (cm.a),ya yb (cm.b),ya yb (cm.d),ya yb (cm.w)],boxA b10 28 (cw [wg,wh]),boxA b9 28 (cw [wa,wb])],[qF true u2_1 u2_2 (Rat.divInt cm.w 1),qF true w33 w34 (sol.getD ((cm.a).toNat) (0:Rat)),qF true w29 w30 (sol.getD ((cm.b).toNat) (0:Rat)),qF true wg wh (Rd.Gq L sol i k),qF true wa wb (0:Rat),qF true w37 w48 (Rat.divInt 0 1),qF true w35 w46 (Rat.divInt 0 1),slF (rI .i64) p32 c33 (Rd.prt n L),slF (rI4 .i64) pL cL L,slF rQ pS cS sol])) ?_ (fun hD9=> ?_)
     ·
      rintro ⟨u2_1,u2_2,u19_1⟩
      dsimp only [cw]
      refine zJb 13 kr ?_
      ·
       refine zx rfl rfl rfl rfl (.c rfl (.c rfl .n)) ce28 (znb (k1:=true) (u1:=w29) (v1:=w30) (q1:=(sol.getD ((cm.b).toNat) (0:Rat))) (k2:=true) (u2:=w33) (v2:=w34) (q2:=(sol.getD ((cm.a).toNat) (0:Rat))) (hl:=cbo)) (.c (j:=2) rfl (.c (j:=1) rfl .n)) ?_
       rintro ⟨u13_1,u13_2⟩ -
       dsimp only [aq,nq,cq]
       exact zoa (hD7 (u2_1,u2_2,u13_1,u13_2,u19_1)) kr ((.of rfl):SubM _ _) .rfl .rfl ((.of [0,1,2,3,4,5,6,7,8,9,10] rfl):SelR _ _ _)
     refine zFa (X:=Wd×Wd) (k':=6) (L':=(lb 21 57343)) (fun (u2_1,u2_2)=>([(58,.agg (cw [u2_1,u2_2]).toArray),(71,ya yb (cm.d)),(68,.agg (cw [w33,w34]).toArray),(63,.agg (cw [w29,w30]).toArray),(13,yc (some ⟨b26,0,none⟩)),(52,ya yb ((k:Nat):Int)),(51,ya yb ((nL:Nat):Int)),(50,.slice pL nL cL),(10,yc (some ⟨b10,0,none⟩)),(9,yc (some ⟨b9,0,none⟩)),(8,ya yb ((i:Nat):Int)),(28,ya yb ((i:Nat):Int)),(27,ya yb ((n:Nat):Int)),(7,.slice p32 n c33),(0,ya yb ((n:Nat):Int)),(1,.slice pL nL cL),(2,.slice pS n cS)],[],[boxA b26 68 [ya yb (cm.a),ya yb (cm.b),ya yb (cm.d),ya yb (cm.w)],boxA b10 28 (cw [wg,wh]),boxA b9 28 (cw [wa,wb])],[qF true u2_1 u2_2 (Rat.divInt cm.w 1),qF true w33 w34 (sol.getD ((cm.a).toNat) (0:Rat)),qF true w29 w30 (sol.getD ((cm.b).toNat) (0:Rat)),qF true wg wh (Rd.Gq L sol i k),qF true wa wb (0:Rat),qF true w37 w48 (Rat.divInt 0 1),qF true w35 w46 (Rat.divInt 0 1),slF (rI .i64) p32 c33 (Rd.prt n L),slF (rI4 .i64) pL cL L,slF rQ pS cS sol])) ?_ (fun hD10=> ?_)
     ·
      rintro ⟨u2_1,u2_2⟩
      dsimp only [cw]
      refine zUc 13 19 kr ?_ ?_
      ·
       refine zx rfl rfl rfl rfl (.c rfl (.c rfl .n)) ce28 (znb (k1:=true) (u1:=w29) (v1:=w30) (q1:=(sol.getD ((cm.b).toNat) (0:Rat))) (k2:=true) (u2:=w33) (v2:=w34) (q2:=(sol.getD ((cm.a).toNat) (0:Rat))) (hl:=cbo)) (.c (j:=2) rfl (.c (j:=1) rfl .n)) ?_
       rintro ⟨u13_1,u13_2⟩ -
       dsimp only [aq,nq,cq]
       exact zoa (hD8 (u2_1,u2_2,u13_1,u13_2)) kr ((.of rfl):SubM _ _) .rfl .rfl ((.of [0,1,2,3,4,5,6,7,8,9,10] rfl):SelR _ _ _)
      ·
       refine zpb rfl rfl rfl rfl (zw zr28 rfl) (fun u19_1 _=> ?_)
       exact zoa (hD9 (u2_1,u2_2,u19_1)) kr ((.of rfl):SubM _ _) .rfl .rfl ((.of [0,1,2,3,4,5,6,7,8,9] rfl):SelR _ _ _)
     refine zFa (X:=Nat) (k':=6) (L':=(lb 21 581627)) (fun u19_1=>([(14,yc (some ⟨u19_1,0,none⟩)),(71,ya yb (cm.d)),(68,.agg (cw [w33,w34]).toArray),(63,.agg (cw [w29,w30]).toArray),(57,ya yb (cm.w)),(13,yc (some ⟨b26,0,none⟩)),(52,ya yb ((k:Nat):Int)),(51,ya yb ((nL:Nat):Int)),(50,.slice pL nL cL),(10,yc (some ⟨b10,0,none⟩)),(9,yc (some ⟨b9,0,none⟩)),(8,ya yb ((i:Nat):Int)),(28,ya yb ((i:Nat):Int)),(27,ya yb ((n:Nat):Int)),(7,.slice p32 n c33),(0,ya yb ((n:Nat):Int)),(1,.slice pL nL cL),(2,.slice pS n cS)],[boxA u19_1 28 (cw [wz,wz])],[boxA b26 68 [ya yb (cm.a),ya yb (cm.b),ya yb (cm.d),ya yb (cm.w)],boxA b10 28 (cw [wg,wh]),boxA b9 28 (cw [wa,wb])],[qF true w33 w34 (sol.getD ((cm.a).toNat) (0:Rat)),qF true w29 w30 (sol.getD ((cm.b).toNat) (0:Rat)),qF true wg wh (Rd.Gq L sol i k),qF true wa wb (0:Rat),qF true w37 w48 (Rat.divInt 0 1),qF true w35 w46 (Rat.divInt 0 1),slF (rI .i64) p32 c33 (Rd.prt n L),slF (rI4 .i64) pL cL L,slF rQ pS cS sol])) ?_ (fun hD11=> ?_)
     ·
      rintro u19_1
      dsimp only [cw]
      refine zJb 2 kr ?_
      ·
       refine zx rfl rfl rfl rfl (.c rfl (.c rfl .n)) ce25 (zMa (z1:=cm.w) (z2:=1) (hz1:=cbo) (hz2:=cbo) (hy:=cbo)) (.n) ?_
       rintro ⟨u2_1,u2_2⟩ -
       dsimp only [aq,nq,cq]
       exact zoa (hD9 (u2_1,u2_2,u19_1)) kr ((.of rfl):SubM _ _) .rfl .rfl ((.of [0,1,2,3,4,5,6,7,8,9] rfl):SelR _ _ _)
     refine zUc 2 19 kr ?_ ?_
     ·
      refine zx rfl rfl rfl rfl (.c rfl (.c rfl .n)) ce25 (zMa (z1:=cm.w) (z2:=1) (hz1:=cbo) (hz2:=cbo) (hy:=cbo)) (.n) ?_
      rintro ⟨u2_1,u2_2⟩ -
      dsimp only [aq,nq,cq]
      exact zoa (hD10 (u2_1,u2_2)) kr ((.of rfl):SubM _ _) .rfl .rfl ((.of [0,1,2,3,4,5,6,7,8,9] rfl):SelR _ _ _)
     ·
      refine zpb rfl rfl rfl rfl (zw zr28 rfl) (fun u19_1 _=> ?_)
      exact zoa (hD11 u19_1) kr ((.of rfl):SubM _ _) .rfl .rfl ((.of [0,1,2,3,4,5,6,7,8] rfl):SelR _ _ _)
    ·
     refine zea<|zi<|zi<|zp<|zc ?_
     have e42:(Rd.Gq L sol i k:Rat)=(0:Rat):=by rw [show k=L.length by omega];exact Rd.Gq_all hlv om
     rw [e42]
     refine zDa (X:=Unit) (fun x=>True) (fun x=>[(97,.bool (decide ((Big.sgq (0:Rat)≠0)∨(Big.sgq (0:Rat)≠0)))),(28,ya yb ((i:Nat):Int)),(27,ya yb ((n:Nat):Int)),(7,.slice p32 n c33),(0,ya yb ((n:Nat):Int)),(1,.slice pL nL cL),(2,.slice pS n cS)]) (fun x=>[boxA b10 28 (cw [wg,wh]),boxA b9 28 (cw [wa,wb])]) (fun x=>[qF true wg wh (0:Rat),qF true wa wb (0:Rat),qF true w37 w48 (Rat.divInt 0 1),qF true w35 w46 (Rat.divInt 0 1),slF (rI .i64) p32 c33 (Rd.prt n L),slF (rI4 .i64) pL cL L,slF rQ pS cS sol]) ?_ ?_
     ·
      refine za<|e_ru (zd 1 ty28 rfl rfl (.t4 .nil))<|zP rfl rfl (.c rfl .n) ce35 (zpc (k1:=true) (u1:=wa) (v1:=wb) (q1:=(0:Rat)) (hl:=cbo)) (.c (j:=1) rfl .n)<|e_p (zwa rfl rfl)<|zO rfl rfl (zS rfl) (fun h43=> ?_) (fun h43=> ?_)
      ·
       refine e_no<|e_no<|e_no<|e_p (zk rfl rfl)<|zf ?_
       exact zda () (show True from by first|trivial|omega|simp_all) ((.e rfl (congrArg Value.bool cbu) (.of rfl)):SubM _ _) (ho:=((.of [0,0] rfl):PickO _ _ _)) ((.of [0,1,2,3,4,5,6] rfl):SelR _ _ _)
      ·
       refine e_ru (zd 0 ty28 rfl rfl (.t4 .nil))<|zP rfl rfl (.c rfl .n) ce35 (zpc (k1:=true) (u1:=wg) (v1:=wh) (q1:=(0:Rat)) (hl:=cbo)) (.c (j:=0) rfl .n)<|e_p (zwa rfl rfl)<|e_p (zk rfl rfl)<|zf ?_
       exact zda () (show True from by first|trivial|omega|simp_all) ((.e rfl (congrArg Value.bool cbu) (.of rfl)):SubM _ _) (ho:=((.of [0,0] rfl):PickO _ _ _)) ((.of [0,1,2,3,4,5,6] rfl):SelR _ _ _)
     ·
      rintro ⟨⟩ -
      try dsimp only [cw]
      refine zA rfl (fun h97=> ?_) (fun h97=> ?_)
      ·
       exact False.elim (h97.elim (fun z=>z dd) (fun z=>z dd))
      ·
       refine zv<|zL<|zc<|za<|e_p (zH (z:=(((i+1):Nat):Int)) rfl rfl (w64 om))<|e_mv rfl<|zf<|zba (i+1) (show (i+1)≤n from by show i+1≤n;omega) (by show n - (i+1)<n - i;omega) ((.of rfl):SubM _ _) (ho:=(.n:PickO _ _ _)) ((.of [4,5,6] rfl):SelR _ _ _)
  ·
   refine zea<|zi<|zi<|zp<|zc<|ze<|za<|e_p (zb rfl)<|zf<|zc<|zJ ?_
   exact zy Tryz.results33 () trivial (zo rfl) rfl (ho:=(.n:PickO _ _ _)) (.n:SelR _ _ _)
theorem zze {n:Nat} {pL:Option Addr} {nL:Nat} {cL:Nat} {L:List Cm} {pS:Option Addr} {cS:Nat} {lo:List (Option Rat)} (hnL:L.length=nL) (hnl:nL≤12) (hok:Rd.Oks n L) (hsl:lo.length=n) (hqs:∀i,yk ((lo.getD i none).getD 0)≤200000):Con yj 34 [.slice pL nL cL,.slice pS n cS] [] [slF (rI4 .i64) pL cL L,slF rE pS cS lo] (Y:=Wd×Wd) (fun y=>True) (fun y=> .agg #[y.1.b,y.1.l,y.2.b,y.2.l]) (fun y=>[]) (fun y=>[qF true y.1 y.2 (Rd.ls L lo L.length)]):=by
 refine zm Tryz.func34 rfl rfl rfl (fun c=> ?_)
 show RunC _ _ _ _ _ [(0,.slice pL nL cL),(1,.slice pS n cS)] [] [slF (rI4 .i64) pL cL L,slF rE pS cS lo]
 refine zY 0 rfl (fun hL0=> ?_)
 refine zY 1 rfl (fun hL1=> ?_)
 refine ze<|za<|zK rfl rfl (zw zr28 rfl) (fun b1=> ?_)
 refine zf<|zc<|ze<|za<|zu rfl rfl (.c rfl (.c rfl .n)) ce25 (zMa (z1:=0) (z2:=1) (hz1:=cbo) (hz2:=cbo) (hy:=cbo)) (.n) ?_
 rintro ⟨w32,w43⟩ -
 dsimp only [aq,nq,cq]
 refine zK rfl rfl (zw zr28 rfl) (fun b4=> ?_)
 refine zl 0 rfl rfl rfl rfl rfl sz28 rfl (.t4 .nil) .z<|zf<|zc<|ze<|ze<|za<|e_mv rfl<|e_p (zC yg rfl)<|e_mv rfl<|zf<|zc<|zt<|zga (X:=Nat×Wd×Wd) (fun x:Nat×Wd×Wd=>x.1≤nL) (fun x=>[(12,ya yb ((x.1:Nat):Int)),(11,ya yb ((nL:Nat):Int)),(10,.slice pL nL cL),(5,yc (some ⟨b4,0,none⟩)),(4,yc (some ⟨b1,0,none⟩)),(1,.slice pS n cS)]) (fun x=>[boxA b4 28 (cw [x.2.1,x.2.2]),boxA b1 28 (cw [wz,wz])]) (fun x=>[qF true x.2.1 x.2.2 (Rd.ls L lo x.1),qF true w32 w43 (Rat.divInt 0 1),slF (rI4 .i64) pL cL L,slF rE pS cS lo]) (fun x:Nat×Wd×Wd=>nL - x.1) (0,w32,w43) (show 0≤nL from by exact Nat.zero_le _) ((.e rfl (by first|rfl|(congr 1;omega)|simp_all) (.of rfl)):SubM _ _) (ho:=((.of [0,0] rfl):PickO _ _ _)) ((.e (j:=0) rfl (by rw [Rd.ls_0 L lo]) (.of [0,1,2] rfl)):SelR _ _ _) ?_
 rintro ⟨k,wa,wb⟩ hK
 replace hK:k≤nL:=hK
 try dsimp only [cw]
 refine ze<|za<|e_p (zT rfl rfl)<|zf<|zc<|ze<|zA rfl (fun h5=> ?_) (fun h5=> ?_)
 ·
  have hgq:=Rd.ls_hq hok hqs k om
  have hkq:k*(4*200000+14)≤12*(4*200000+14):=Nat.mul_le_mul_right _ om
  refine zv<|zc<|ze<|zt<|ze<|za<|zV (x0:=(L.getD k Rd.c0)) 2 k rfl yg sz68 rfl rfl rfl cbs rfl rfl (gD (d:=Rd.c0) om) (fun b6 o7 hok8=> ?_)
  obtain ⟨hok80,hok81,hok82,hok83⟩:=hok8
  replace hok80:=zN.1 hok80
  replace hok81:=zN.1 hok81
  replace hok82:=zN.1 hok82
  replace hok83:=zN.1 hok83
  refine e_ru (zaa (j:=0) 0 ty68 rfl rfl rfl (.t4 .nil))<|zK rfl rfl (zw zr68 rfl) (fun b9=> ?_)
  refine zl 0 rfl rfl rfl rfl rfl sz68 rfl (.t4 .nil) .z<|zf<|zc<|ze ?_
  obtain ⟨cm,hcm⟩:∃z:Cm,z=(L.getD k Rd.c0):=⟨_,rfl⟩
  rw [← hcm]
  have hoi:Rd.Ok n cm:=by rw [hcm];exact hok.getD (show k<L.length by omega)
  have hoa:=hoi.a
  have hob:=hoi.b
  have hoa0:=hoi.a0
  have hob0:=hoi.b0
  have hone:=hoi.ne
  have hod:=hoi.d
  have how:=hoi.w
  obtain ⟨hz1,hz2,hz3,hz4,hz5,hz6⟩:=Rd.lt_hq hqs cm hod how
  have hzb:=hqs cm.b.toNat
  have hza:=hqs cm.a.toNat
  refine zca (OW:=[]) (O:=[boxA b9 68 [ya yb (cm.a),ya yb (cm.b),ya yb (cm.d),ya yb (cm.w)],boxA b4 28 (cw [wa,wb]),boxA b1 28 (cw [wz,wz])]) 16 mixed (.then (.block (.then (.then (.block (.then .ret)))))) kr<|e_dm 0 rfl rfl rfl<|e_pv 1 rfl rfl (zh ye rfl sz3 rfl rfl)<|e_u 2 rfl rfl (zg 0 ty3 rfl rfl rfl)<|d_vl 3 rfl rfl kr kr rfl rfl (zia (x0:=(lo.getD ((cm.b).toNat) (none:Option Rat))) 4 ((cm.b).toNat) rfl yf sz28 rfl cbs rfl om (gD (d:=(none:Option Rat)) om)) ?_
  rintro ⟨b10,o11,w12,w13⟩ -
  dsimp only [aq,nq,cq]
  refine zxb open_rE<|e_u 4 rfl rfl (zaa (j:=0) 0 ty28 rfl rfl rfl (.t4 .nil))<|e_dm 5 rfl rfl rfl<|e_pv 6 rfl rfl (zh ye rfl sz3 rfl rfl)<|e_u 7 rfl rfl (zg 0 ty3 rfl rfl rfl)<|d_vl 8 rfl rfl kr kr rfl rfl (zia (x0:=(lo.getD ((cm.a).toNat) (none:Option Rat))) 7 ((cm.a).toNat) rfl yf sz28 rfl cbs rfl om (gD (d:=(none:Option Rat)) om)) ?_
  rintro ⟨b14,o15,w16,w17⟩ -
  dsimp only [aq,nq,cq]
  refine zxb open_rE<|e_u 9 rfl rfl (zaa (j:=0) 0 ty28 rfl rfl rfl (.t4 .nil))<|e_pv 11 rfl rfl (zh ye rfl sz3 rfl rfl)<|e_u 12 rfl rfl (zg 0 ty3 rfl rfl rfl)<|zne (m':=[(28,ya yb (cm.d)),(25,.agg (cw [w16,w17]).toArray),(20,.agg (cw [w12,w13]).toArray),(7,yc (some ⟨b9,0,none⟩)),(12,ya yb ((k:Nat):Int)),(11,ya yb ((nL:Nat):Int)),(10,.slice pL nL cL),(5,yc (some ⟨b4,0,none⟩)),(4,yc (some ⟨b1,0,none⟩)),(1,.slice pS n cS)]) (R':=[qF ((lo.getD ((cm.a).toNat) (none:Option Rat)).isSome) w16 w17 ((lo.getD ((cm.a).toNat) (none:Option Rat)).getD 0),eF w16 w17 (lo.getD ((cm.a).toNat) (none:Option Rat)),qF ((lo.getD ((cm.b).toNat) (none:Option Rat)).isSome) w12 w13 ((lo.getD ((cm.b).toNat) (none:Option Rat)).getD 0),eF w12 w13 (lo.getD ((cm.b).toNat) (none:Option Rat)),qF true wa wb (Rd.ls L lo k),qF true w32 w43 (Rat.divInt 0 1),slF (rI4 .i64) pL cL L,slF rE pS cS lo]) ((.of rfl):SubM _ _) (List.Perm.refl _) (List.Perm.refl _) ((.of [1,2,4,5,7,8,9,10] rfl):SelR _ _ _)<|zFa (X:=Wd×Wd×Wd×Wd×Wd×Wd×Nat) (k':=0) (L':=(lb 17 131071)) (fun (u10_1,u10_2,u13_1,u13_2,u14_1,u14_2,u15_1)=>([(8,yc (some ⟨u15_1,0,none⟩)),(7,yc (some ⟨b9,0,none⟩)),(12,ya yb ((k:Nat):Int)),(11,ya yb ((nL:Nat):Int)),(10,.slice pL nL cL),(5,yc (some ⟨b4,0,none⟩)),(4,yc (some ⟨b1,0,none⟩)),(1,.slice pS n cS)],[boxA u15_1 28 (cw [u14_1,u14_2])],[boxA b9 68 [ya yb (cm.a),ya yb (cm.b),ya yb (cm.d),ya yb (cm.w)],boxA b4 28 (cw [wa,wb]),boxA b1 28 (cw [wz,wz])],[qF true u14_1 u14_2 ((((lo.getD ((cm.b).toNat) (none:Option Rat)).getD 0) - ((lo.getD ((cm.a).toNat) (none:Option Rat)).getD 0))+(Rat.divInt cm.d 1)),qF true u13_1 u13_2 (Rat.divInt cm.d 1),qF true u10_1 u10_2 (((lo.getD ((cm.b).toNat) (none:Option Rat)).getD 0) - ((lo.getD ((cm.a).toNat) (none:Option Rat)).getD 0)),qF ((lo.getD ((cm.a).toNat) (none:Option Rat)).isSome) w16 w17 ((lo.getD ((cm.a).toNat) (none:Option Rat)).getD 0),eF w16 w17 (lo.getD ((cm.a).toNat) (none:Option Rat)),qF ((lo.getD ((cm.b).toNat) (none:Option Rat)).isSome) w12 w13 ((lo.getD ((cm.b).toNat) (none:Option Rat)).getD 0),eF w12 w13 (lo.getD ((cm.b).toNat) (none:Option Rat)),qF true wa wb (Rd.ls L lo k),qF true w32 w43 (Rat.divInt 0 1),slF (rI4 .i64) pL cL L,slF rE pS cS lo])) ?_ (fun hD0=> ?_)
  ·
   rintro ⟨u10_1,u10_2,u13_1,u13_2,u14_1,u14_2,u15_1⟩
   dsimp only [cw]
   refine zZ kr<|zc ?_
   have e18:((((lo.getD ((cm.b).toNat) (none:Option Rat)).getD 0) - ((lo.getD ((cm.a).toNat) (none:Option Rat)).getD 0))+(Rat.divInt cm.d 1):Rat)=(Rd.lt lo cm):=by rfl
   rw [e18]
   refine zma (.c (i:=2) rfl (.c (i:=0) rfl (.c (i:=0) rfl (.c (i:=0) rfl .n))))<|zca (OW:=[boxA b4 28 (cw [wa,wb])]) (O:=[boxA u15_1 28 (cw [u14_1,u14_2]),boxA b9 68 [ya yb (cm.a),ya yb (cm.b),ya yb (cm.d),ya yb (cm.w)],boxA b1 28 (cw [wz,wz])]) 9 mixed (.block (.then (.then (.block (.then .ret))))) kr<|e_uw 0 rfl rfl (zd 0 ty28 rfl rfl (.t4 .nil))<|e_pv 1 rfl rfl (zh ye rfl sz3 rfl rfl)<|e_uw 2 rfl rfl (zg 2 ty3 rfl rfl rfl)<|e_uw 4 rfl rfl (zd 1 ty28 rfl rfl (.t4 .nil))<|e_uw 5 rfl rfl (zd 1 ty28 rfl rfl (.t4 .nil))<|e_one 3 (zx rfl rfl rfl rfl (.c rfl (.c rfl .n)) ce25 (zMa (z1:=cm.w) (z2:=1) (hz1:=cbo) (hz2:=cbo) (hy:=cbo)) (.n) ?_)
   rintro ⟨w319,w420⟩ -
   dsimp only [aq,nq,cq]
   refine e_one 6 (zx rfl rfl rfl rfl (.c rfl (.c rfl .n)) ce24 (zCc (u1:=u14_1) (v1:=u14_2) (q1:=(Rd.lt lo cm)) (u2:=u14_1) (v2:=u14_2) (q2:=(Rd.lt lo cm)) (hl:=cbo)) (.c (j:=1) rfl (.c (j:=1) rfl .n)) ?_)
   rintro ⟨w321,w422⟩ -
   dsimp only [aq,nq,cq]
   refine e_one 7 (zx rfl rfl rfl rfl (.c rfl (.c rfl .n)) ce24 (zCc (u1:=w319) (v1:=w420) (q1:=Rat.divInt cm.w 1) (u2:=w321) (v2:=w422) (q2:=(Rd.lt lo cm)*(Rd.lt lo cm)) (hl:=cbo)) (.c (j:=1) rfl (.c (j:=0) rfl .n)) ?_)
   rintro ⟨w323,w424⟩ -
   dsimp only [aq,nq,cq]
   refine e_one 8 (zx rfl rfl rfl rfl (.c rfl (.c rfl .n)) ce36 (zFb (u1:=wa) (v1:=wb) (q1:=(Rd.ls L lo k)) (u2:=w323) (v2:=w424) (q2:=(Rat.divInt cm.w 1)*((Rd.lt lo cm)*(Rd.lt lo cm))) (hl:=cbo)) (.c (j:=10) rfl (.c (j:=0) rfl .n)) ?_)
   rintro ⟨w325,w426⟩ -
   dsimp only [aq,nq,cq]
   refine e_one 9 (zD kr rfl rfl rfl rfl rfl sz28 rfl (.t4 .nil) ?_)
   refine zZ kr<|zL<|zc<|za<|e_p (zH (z:=(((k+1):Nat):Int)) rfl rfl (w64 om))<|e_mv rfl<|zf<|zba ((k+1),w325,w426) (show (k+1)≤nL from by show k+1≤nL;omega) (by show nL - (k+1)<nL - k;omega) ((.of rfl):SubM _ _) (ho:=((.of [0,2] rfl):PickO _ _ _)) ((.e (j:=0) rfl (by rw [Rd.ls_succ (show k<L.length by omega),←hcm]) (.of [12,13,14] rfl)):SelR _ _ _)
  refine zFa (X:=Wd×Wd×Wd×Wd×Wd×Wd×Nat) (k':=1) (L':=(lb 17 65535)) (fun (u10_1,u10_2,u13_1,u13_2,u14_1,u14_2,u15_1)=>([(8,yc (some ⟨u15_1,0,none⟩)),(30,.agg (cw [u14_1,u14_2]).toArray),(7,yc (some ⟨b9,0,none⟩)),(12,ya yb ((k:Nat):Int)),(11,ya yb ((nL:Nat):Int)),(10,.slice pL nL cL),(5,yc (some ⟨b4,0,none⟩)),(4,yc (some ⟨b1,0,none⟩)),(1,.slice pS n cS)],[boxA u15_1 28 (cw [wz,wz])],[boxA b9 68 [ya yb (cm.a),ya yb (cm.b),ya yb (cm.d),ya yb (cm.w)],boxA b4 28 (cw [wa,wb]),boxA b1 28 (cw [wz,wz])],[qF true u14_1 u14_2 ((((lo.getD ((cm.b).toNat) (none:Option Rat)).getD 0) - ((lo.getD ((cm.a).toNat) (none:Option Rat)).getD 0))+(Rat.divInt cm.d 1)),qF true u13_1 u13_2 (Rat.divInt cm.d 1),qF true u10_1 u10_2 (((lo.getD ((cm.b).toNat) (none:Option Rat)).getD 0) - ((lo.getD ((cm.a).toNat) (none:Option Rat)).getD 0)),qF ((lo.getD ((cm.a).toNat) (none:Option Rat)).isSome) w16 w17 ((lo.getD ((cm.a).toNat) (none:Option Rat)).getD 0),eF w16 w17 (lo.getD ((cm.a).toNat) (none:Option Rat)),qF ((lo.getD ((cm.b).toNat) (none:Option Rat)).isSome) w12 w13 ((lo.getD ((cm.b).toNat) (none:Option Rat)).getD 0),eF w12 w13 (lo.getD ((cm.b).toNat) (none:Option Rat)),qF true wa wb (Rd.ls L lo k),qF true w32 w43 (Rat.divInt 0 1),slF (rI4 .i64) pL cL L,slF rE pS cS lo])) ?_ (fun hD1=> ?_)
  ·
   rintro ⟨u10_1,u10_2,u13_1,u13_2,u14_1,u14_2,u15_1⟩
   dsimp only [cw]
   refine zJb 16 kr ?_
   ·
    refine zD kr rfl rfl rfl rfl rfl sz28 rfl (.t4 .nil) ?_
    exact zoa (hD0 (u10_1,u10_2,u13_1,u13_2,u14_1,u14_2,u15_1)) kr ((.of rfl):SubM _ _) .rfl .rfl ((.of [0,1,2,3,4,5,6,7,8,9,10] rfl):SelR _ _ _)
  refine zFa (X:=Wd×Wd×Wd×Wd×Wd×Wd) (k':=2) (L':=(lb 17 32767)) (fun (u10_1,u10_2,u13_1,u13_2,u14_1,u14_2)=>([(30,.agg (cw [u14_1,u14_2]).toArray),(7,yc (some ⟨b9,0,none⟩)),(12,ya yb ((k:Nat):Int)),(11,ya yb ((nL:Nat):Int)),(10,.slice pL nL cL),(5,yc (some ⟨b4,0,none⟩)),(4,yc (some ⟨b1,0,none⟩)),(1,.slice pS n cS)],[],[boxA b9 68 [ya yb (cm.a),ya yb (cm.b),ya yb (cm.d),ya yb (cm.w)],boxA b4 28 (cw [wa,wb]),boxA b1 28 (cw [wz,wz])],[qF true u14_1 u14_2 ((((lo.getD ((cm.b).toNat) (none:Option Rat)).getD 0) - ((lo.getD ((cm.a).toNat) (none:Option Rat)).getD 0))+(Rat.divInt cm.d 1)),qF true u13_1 u13_2 (Rat.divInt cm.d 1),qF true u10_1 u10_2 (((lo.getD ((cm.b).toNat) (none:Option Rat)).getD 0) - ((lo.getD ((cm.a).toNat) (none:Option Rat)).getD 0)),qF ((lo.getD ((cm.a).toNat) (none:Option Rat)).isSome) w16 w17 ((lo.getD ((cm.a).toNat) (none:Option Rat)).getD 0),eF w16 w17 (lo.getD ((cm.a).toNat) (none:Option Rat)),qF ((lo.getD ((cm.b).toNat) (none:Option Rat)).isSome) w12 w13 ((lo.getD ((cm.b).toNat) (none:Option Rat)).getD 0),eF w12 w13 (lo.getD ((cm.b).toNat) (none:Option Rat)),qF true wa wb (Rd.ls L lo k),qF true w32 w43 (Rat.divInt 0 1),slF (rI4 .i64) pL cL L,slF rE pS cS lo])) ?_ (fun hD2=> ?_)
  ·
   rintro ⟨u10_1,u10_2,u13_1,u13_2,u14_1,u14_2⟩
   dsimp only [cw]
   refine zJb 15 kr ?_
   ·
    refine zpb rfl rfl rfl rfl (zw zr28 rfl) (fun u15_1 _=> ?_)
    exact zoa (hD1 (u10_1,u10_2,u13_1,u13_2,u14_1,u14_2,u15_1)) kr ((.of rfl):SubM _ _) .rfl .rfl ((.of [0,1,2,3,4,5,6,7,8,9,10] rfl):SelR _ _ _)
  refine zFa (X:=Wd×Wd×Wd×Wd×Nat) (k':=2) (L':=(lb 17 49151)) (fun (u10_1,u10_2,u13_1,u13_2,u15_1)=>([(8,yc (some ⟨u15_1,0,none⟩)),(29,.agg (cw [u13_1,u13_2]).toArray),(26,.agg (cw [u10_1,u10_2]).toArray),(7,yc (some ⟨b9,0,none⟩)),(12,ya yb ((k:Nat):Int)),(11,ya yb ((nL:Nat):Int)),(10,.slice pL nL cL),(5,yc (some ⟨b4,0,none⟩)),(4,yc (some ⟨b1,0,none⟩)),(1,.slice pS n cS)],[boxA u15_1 28 (cw [wz,wz])],[boxA b9 68 [ya yb (cm.a),ya yb (cm.b),ya yb (cm.d),ya yb (cm.w)],boxA b4 28 (cw [wa,wb]),boxA b1 28 (cw [wz,wz])],[qF true u13_1 u13_2 (Rat.divInt cm.d 1),qF true u10_1 u10_2 (((lo.getD ((cm.b).toNat) (none:Option Rat)).getD 0) - ((lo.getD ((cm.a).toNat) (none:Option Rat)).getD 0)),qF ((lo.getD ((cm.a).toNat) (none:Option Rat)).isSome) w16 w17 ((lo.getD ((cm.a).toNat) (none:Option Rat)).getD 0),eF w16 w17 (lo.getD ((cm.a).toNat) (none:Option Rat)),qF ((lo.getD ((cm.b).toNat) (none:Option Rat)).isSome) w12 w13 ((lo.getD ((cm.b).toNat) (none:Option Rat)).getD 0),eF w12 w13 (lo.getD ((cm.b).toNat) (none:Option Rat)),qF true wa wb (Rd.ls L lo k),qF true w32 w43 (Rat.divInt 0 1),slF (rI4 .i64) pL cL L,slF rE pS cS lo])) ?_ (fun hD3=> ?_)
  ·
   rintro ⟨u10_1,u10_2,u13_1,u13_2,u15_1⟩
   dsimp only [cw]
   refine zJb 14 kr ?_
   ·
    refine zx rfl rfl rfl rfl (.c rfl (.c rfl .n)) ce36 (zFb (u1:=u10_1) (v1:=u10_2) (q1:=((lo.getD ((cm.b).toNat) (none:Option Rat)).getD 0) - ((lo.getD ((cm.a).toNat) (none:Option Rat)).getD 0)) (u2:=u13_1) (v2:=u13_2) (q2:=Rat.divInt cm.d 1) (hl:=cbo)) (.c (j:=1) rfl (.c (j:=0) rfl .n)) ?_
    rintro ⟨u14_1,u14_2⟩ -
    dsimp only [aq,nq,cq]
    exact zoa (hD1 (u10_1,u10_2,u13_1,u13_2,u14_1,u14_2,u15_1)) kr ((.of rfl):SubM _ _) .rfl .rfl ((.of [0,1,2,3,4,5,6,7,8,9,10] rfl):SelR _ _ _)
  refine zFa (X:=Wd×Wd×Wd×Wd) (k':=3) (L':=(lb 17 16383)) (fun (u10_1,u10_2,u13_1,u13_2)=>([(29,.agg (cw [u13_1,u13_2]).toArray),(26,.agg (cw [u10_1,u10_2]).toArray),(7,yc (some ⟨b9,0,none⟩)),(12,ya yb ((k:Nat):Int)),(11,ya yb ((nL:Nat):Int)),(10,.slice pL nL cL),(5,yc (some ⟨b4,0,none⟩)),(4,yc (some ⟨b1,0,none⟩)),(1,.slice pS n cS)],[],[boxA b9 68 [ya yb (cm.a),ya yb (cm.b),ya yb (cm.d),ya yb (cm.w)],boxA b4 28 (cw [wa,wb]),boxA b1 28 (cw [wz,wz])],[qF true u13_1 u13_2 (Rat.divInt cm.d 1),qF true u10_1 u10_2 (((lo.getD ((cm.b).toNat) (none:Option Rat)).getD 0) - ((lo.getD ((cm.a).toNat) (none:Option Rat)).getD 0)),qF ((lo.getD ((cm.a).toNat) (none:Option Rat)).isSome) w16 w17 ((lo.getD ((cm.a).toNat) (none:Option Rat)).getD 0),eF w16 w17 (lo.getD ((cm.a).toNat) (none:Option Rat)),qF ((lo.getD ((cm.b).toNat) (none:Option Rat)).isSome) w12 w13 ((lo.getD ((cm.b).toNat) (none:Option Rat)).getD 0),eF w12 w13 (lo.getD ((cm.b).toNat) (none:Option Rat)),qF true wa wb (Rd.ls L lo k),qF true w32 w43 (Rat.divInt 0 1),slF (rI4 .i64) pL cL L,slF rE pS cS lo])) ?_ (fun hD4=> ?_)
  ·
   rintro ⟨u10_1,u10_2,u13_1,u13_2⟩
   dsimp only [cw]
   refine zUc 14 15 kr ?_ ?_
   ·
    refine zx rfl rfl rfl rfl (.c rfl (.c rfl .n)) ce36 (zFb (u1:=u10_1) (v1:=u10_2) (q1:=((lo.getD ((cm.b).toNat) (none:Option Rat)).getD 0) - ((lo.getD ((cm.a).toNat) (none:Option Rat)).getD 0)) (u2:=u13_1) (v2:=u13_2) (q2:=Rat.divInt cm.d 1) (hl:=cbo)) (.c (j:=1) rfl (.c (j:=0) rfl .n)) ?_
    rintro ⟨u14_1,u14_2⟩ -
    dsimp only [aq,nq,cq]
    exact zoa (hD2 (u10_1,u10_2,u13_1,u13_2,u14_1,u14_2)) kr ((.of rfl):SubM _ _) .rfl .rfl ((.of [0,1,2,3,4,5,6,7,8,9,10] rfl):SelR _ _ _)
   ·
    refine zpb rfl rfl rfl rfl (zw zr28 rfl) (fun u15_1 _=> ?_)
    exact zoa (hD3 (u10_1,u10_2,u13_1,u13_2,u15_1)) kr ((.of rfl):SubM _ _) .rfl .rfl ((.of [0,1,2,3,4,5,6,7,8,9] rfl):SelR _ _ _)
  refine zFa (X:=Wd×Wd×Nat) (k':=3) (L':=(lb 17 40959)) (fun (u10_1,u10_2,u15_1)=>([(8,yc (some ⟨u15_1,0,none⟩)),(26,.agg (cw [u10_1,u10_2]).toArray),(28,ya yb (cm.d)),(7,yc (some ⟨b9,0,none⟩)),(12,ya yb ((k:Nat):Int)),(11,ya yb ((nL:Nat):Int)),(10,.slice pL nL cL),(5,yc (some ⟨b4,0,none⟩)),(4,yc (some ⟨b1,0,none⟩)),(1,.slice pS n cS)],[boxA u15_1 28 (cw [wz,wz])],[boxA b9 68 [ya yb (cm.a),ya yb (cm.b),ya yb (cm.d),ya yb (cm.w)],boxA b4 28 (cw [wa,wb]),boxA b1 28 (cw [wz,wz])],[qF true u10_1 u10_2 (((lo.getD ((cm.b).toNat) (none:Option Rat)).getD 0) - ((lo.getD ((cm.a).toNat) (none:Option Rat)).getD 0)),qF ((lo.getD ((cm.a).toNat) (none:Option Rat)).isSome) w16 w17 ((lo.getD ((cm.a).toNat) (none:Option Rat)).getD 0),eF w16 w17 (lo.getD ((cm.a).toNat) (none:Option Rat)),qF ((lo.getD ((cm.b).toNat) (none:Option Rat)).isSome) w12 w13 ((lo.getD ((cm.b).toNat) (none:Option Rat)).getD 0),eF w12 w13 (lo.getD ((cm.b).toNat) (none:Option Rat)),qF true wa wb (Rd.ls L lo k),qF true w32 w43 (Rat.divInt 0 1),slF (rI4 .i64) pL cL L,slF rE pS cS lo])) ?_ (fun hD5=> ?_)
  ·
   rintro ⟨u10_1,u10_2,u15_1⟩
   dsimp only [cw]
   refine zJb 13 kr ?_
   ·
    refine zx rfl rfl rfl rfl (.c rfl (.c rfl .n)) ce25 (zMa (z1:=cm.d) (z2:=1) (hz1:=cbo) (hz2:=cbo) (hy:=cbo)) (.n) ?_
    rintro ⟨u13_1,u13_2⟩ -
    dsimp only [aq,nq,cq]
    exact zoa (hD3 (u10_1,u10_2,u13_1,u13_2,u15_1)) kr ((.of rfl):SubM _ _) .rfl .rfl ((.of [0,1,2,3,4,5,6,7,8,9] rfl):SelR _ _ _)
  refine zFa (X:=Wd×Wd) (k':=4) (L':=(lb 17 8191)) (fun (u10_1,u10_2)=>([(26,.agg (cw [u10_1,u10_2]).toArray),(28,ya yb (cm.d)),(7,yc (some ⟨b9,0,none⟩)),(12,ya yb ((k:Nat):Int)),(11,ya yb ((nL:Nat):Int)),(10,.slice pL nL cL),(5,yc (some ⟨b4,0,none⟩)),(4,yc (some ⟨b1,0,none⟩)),(1,.slice pS n cS)],[],[boxA b9 68 [ya yb (cm.a),ya yb (cm.b),ya yb (cm.d),ya yb (cm.w)],boxA b4 28 (cw [wa,wb]),boxA b1 28 (cw [wz,wz])],[qF true u10_1 u10_2 (((lo.getD ((cm.b).toNat) (none:Option Rat)).getD 0) - ((lo.getD ((cm.a).toNat) (none:Option Rat)).getD 0)),qF ((lo.getD ((cm.a).toNat) (none:Option Rat)).isSome) w16 w17 ((lo.getD ((cm.a).toNat) (none:Option Rat)).getD 0),eF w16 w17 (lo.getD ((cm.a).toNat) (none:Option Rat)),qF ((lo.getD ((cm.b).toNat) (none:Option Rat)).isSome) w12 w13 ((lo.getD ((cm.b).toNat) (none:Option Rat)).getD 0),eF w12 w13 (lo.getD ((cm.b).toNat) (none:Option Rat)),qF true wa wb (Rd.ls L lo k),qF true w32 w43 (Rat.divInt 0 1),slF (rI4 .i64) pL cL L,slF rE pS cS lo])) ?_ (fun hD6=> ?_)
  ·
   rintro ⟨u10_1,u10_2⟩
   dsimp only [cw]
   refine zUc 13 15 kr ?_ ?_
   ·
    refine zx rfl rfl rfl rfl (.c rfl (.c rfl .n)) ce25 (zMa (z1:=cm.d) (z2:=1) (hz1:=cbo) (hz2:=cbo) (hy:=cbo)) (.n) ?_
    rintro ⟨u13_1,u13_2⟩ -
    dsimp only [aq,nq,cq]
    exact zoa (hD4 (u10_1,u10_2,u13_1,u13_2)) kr ((.of rfl):SubM _ _) .rfl .rfl ((.of [0,1,2,3,4,5,6,7,8,9] rfl):SelR _ _ _)
   ·
    refine zpb rfl rfl rfl rfl (zw zr28 rfl) (fun u15_1 _=> ?_)
    exact zoa (hD5 (u10_1,u10_2,u15_1)) kr ((.of rfl):SubM _ _) .rfl .rfl ((.of [0,1,2,3,4,5,6,7,8] rfl):SelR _ _ _)
  refine zFa (X:=Nat) (k':=4) (L':=(lb 17 39935)) (fun u15_1=>([(8,yc (some ⟨u15_1,0,none⟩)),(28,ya yb (cm.d)),(25,.agg (cw [w16,w17]).toArray),(20,.agg (cw [w12,w13]).toArray),(7,yc (some ⟨b9,0,none⟩)),(12,ya yb ((k:Nat):Int)),(11,ya yb ((nL:Nat):Int)),(10,.slice pL nL cL),(5,yc (some ⟨b4,0,none⟩)),(4,yc (some ⟨b1,0,none⟩)),(1,.slice pS n cS)],[boxA u15_1 28 (cw [wz,wz])],[boxA b9 68 [ya yb (cm.a),ya yb (cm.b),ya yb (cm.d),ya yb (cm.w)],boxA b4 28 (cw [wa,wb]),boxA b1 28 (cw [wz,wz])],[qF ((lo.getD ((cm.a).toNat) (none:Option Rat)).isSome) w16 w17 ((lo.getD ((cm.a).toNat) (none:Option Rat)).getD 0),eF w16 w17 (lo.getD ((cm.a).toNat) (none:Option Rat)),qF ((lo.getD ((cm.b).toNat) (none:Option Rat)).isSome) w12 w13 ((lo.getD ((cm.b).toNat) (none:Option Rat)).getD 0),eF w12 w13 (lo.getD ((cm.b).toNat) (none:Option Rat)),qF true wa wb (Rd.ls L lo k),qF true w32 w43 (Rat.divInt 0 1),slF (rI4 .i64) pL cL L,slF rE pS cS lo])) ?_ (fun hD7=> ?_)
  ·
   rintro u15_1
   dsimp only [cw]
   refine zJb 10 kr ?_
   ·
    refine zx rfl rfl rfl rfl (.c rfl (.c rfl .n)) ce28 (znb (k1:=(lo.getD ((cm.b).toNat) (none:Option Rat)).isSome) (u1:=w12) (v1:=w13) (q1:=((lo.getD ((cm.b).toNat) (none:Option Rat)).getD 0)) (k2:=(lo.getD ((cm.a).toNat) (none:Option Rat)).isSome) (u2:=w16) (v2:=w17) (q2:=((lo.getD ((cm.a).toNat) (none:Option Rat)).getD 0)) (hl:=cbo)) (.c (j:=2) rfl (.c (j:=0) rfl .n)) ?_
    rintro ⟨u10_1,u10_2⟩ -
    dsimp only [aq,nq,cq]
    exact zoa (hD5 (u10_1,u10_2,u15_1)) kr ((.of rfl):SubM _ _) .rfl .rfl ((.of [0,1,2,3,4,5,6,7,8] rfl):SelR _ _ _)
  refine zUc 10 15 kr ?_ ?_
  ·
   refine zx rfl rfl rfl rfl (.c rfl (.c rfl .n)) ce28 (znb (k1:=(lo.getD ((cm.b).toNat) (none:Option Rat)).isSome) (u1:=w12) (v1:=w13) (q1:=((lo.getD ((cm.b).toNat) (none:Option Rat)).getD 0)) (k2:=(lo.getD ((cm.a).toNat) (none:Option Rat)).isSome) (u2:=w16) (v2:=w17) (q2:=((lo.getD ((cm.a).toNat) (none:Option Rat)).getD 0)) (hl:=cbo)) (.c (j:=2) rfl (.c (j:=0) rfl .n)) ?_
   rintro ⟨u10_1,u10_2⟩ -
   dsimp only [aq,nq,cq]
   exact zoa (hD6 (u10_1,u10_2)) kr ((.of rfl):SubM _ _) .rfl .rfl ((.of [0,1,2,3,4,5,6,7,8] rfl):SelR _ _ _)
  ·
   refine zpb rfl rfl rfl rfl (zw zr28 rfl) (fun u15_1 _=> ?_)
   exact zoa (hD7 u15_1) kr ((.of rfl):SubM _ _) .rfl .rfl ((.of [0,1,2,3,4,5,6,7] rfl):SelR _ _ _)
 ·
  refine zea<|zi<|zi<|zp<|zc<|ze<|za<|e_ru (zd 0 ty28 rfl rfl (.t4 .nil))<|zl 1 rfl rfl rfl rfl rfl sz28 rfl (.t4 .nil) (.s .z)<|zf<|zc<|zJ ?_
  exact zy Tryz.results34 (wa,wb) trivial (zq 1 ty28 rfl rfl (.t4 .nil)) rfl (ho:=(.n:PickO _ _ _)) ((.e (j:=0) rfl (by rw [show k=L.length by omega]) .n):SelR _ _ _)
theorem zZe {s:Bool} {p1:Option Addr} {n1:Nat} {c1:Nat} {l1:List Int} {t:Bool} {p2:Option Addr} {n2:Nat} {c2:Nat} {l2:List Int} (hn1:l1.length=n1) (hn2:l2.length=n2) (hm1:n1≤1099511627776) (hm2:n2≤1099511627776):Con yj 66 [.agg #[.bool s,.slice p1 n1 c1,.bool t,.slice p2 n2 c2]] [] [slF (rI .u32) p1 c1 l1,slF (rI .u32) p2 c2 l2] (Y:=Bool) (fun y=>True) (fun y=> .bool y) (fun y=>[]) (fun y=>[]):=by
 refine zm Tryz.func66 rfl rfl rfl (fun c=> ?_)
 show RunC _ _ _ _ _ [(0,.agg #[.bool s,.slice p1 n1 c1,.bool t,.slice p2 n2 c2])] [] [slF (rI .u32) p1 c1 l1,slF (rI .u32) p2 c2 l2]
 refine zY 0 rfl (fun hL0=> ?_)
 refine zNa 0 rfl (fun hE0=> ?_)
 refine zY 1 rfl (fun hL1=> ?_)
 refine zNa 1 rfl (fun hE1=> ?_)
 refine ze<|za<|zK rfl rfl (zX rfl rfl) (fun b1=> ?_)
 refine e_p (zb rfl)<|zf<|zc<|ze<|zca (OW:=[]) (O:=[boxA b1 28 [.bool s,.slice p1 n1 c1,.bool t,.slice p2 n2 c2]]) 100000 mixed (.then .ret) kr<|e_pv 0 rfl rfl (zh yl rfl sz26 rfl rfl)<|e_pv 1 rfl rfl (zh ym rfl sz24 rfl rfl)<|e_u 2 rfl rfl (zg 0 ty24 rfl rfl rfl)<|e_pv 3 rfl rfl (zh yl rfl sz26 rfl rfl)<|e_pv 4 rfl rfl (zh ym rfl sz24 rfl rfl)<|e_u 5 rfl rfl (zg 0 ty24 rfl rfl rfl)<|e_pv 6 rfl rfl (zb rfl)<|e_pv 7 rfl rfl (zb rfl)<|zZ kr<|zc<|ze<|zDa (X:=Bool) (fun x=>True) (fun x=>[(18,.bool x),(4,.slice p2 n2 c2),(3,.slice p1 n1 c1),(2,.bool false)]) (fun x=>[boxA b1 28 [.bool s,.slice p1 n1 c1,.bool t,.slice p2 n2 c2]]) (fun x=>[slF (rI .u32) p1 c1 l1,slF (rI .u32) p2 c2 l2]) ?_ ?_
 ·
  refine za<|e_mv rfl<|e_p (zC yh rfl)<|e_p (zka rfl rfl)<|zO rfl rfl (zS rfl) (fun h2=> ?_) (fun h2=> ?_)
  ·
   refine e_no<|e_no<|e_no<|e_p (zk rfl rfl)<|zf ?_
   exact zda true (show True from by first|trivial) ((.e rfl (congrArg Value.bool cbu) (.of rfl)):SubM _ _) (ho:=((.c (i:=0) rfl .n):PickO _ _ _)) ((.of [0,1] rfl):SelR _ _ _)
  ·
   refine e_mv rfl<|e_p (zC yh rfl)<|e_p (zka rfl rfl)<|e_p (zk rfl rfl)<|zf ?_
   exact zda (decide (1<((n2:Nat):Int))) (show True from by first|trivial) ((.of rfl):SubM _ _) (ho:=((.c (i:=0) rfl .n):PickO _ _ _)) ((.of [0,1] rfl):SelR _ _ _)
 ·
  rintro g9 -
  try dsimp only
  refine ztb rfl (fun h3=> ?_) (fun h3=> ?_)
  ·
   refine ze<|za<|e_p (zb rfl)<|zf<|zc<|zJ<|zn ?_
   exact zy Tryz.results66 false trivial (zo rfl) rfl (ho:=(.n:PickO _ _ _)) (.n:SelR _ _ _)
  ·
   refine zv<|zc<|zDa (X:=Bool) (fun x=>True) (fun x=>[(2,.bool x)]) (fun x=>[boxA b1 28 [.bool s,.slice p1 n1 c1,.bool t,.slice p2 n2 c2]]) (fun x=>[slF (rI .u32) p1 c1 l1,slF (rI .u32) p2 c2 l2]) ?_ ?_
   ·
    refine za<|e_mv rfl<|e_p (zC yh rfl)<|e_p (zpa rfl rfl)<|zO rfl rfl (zS rfl) (fun h4=> ?_) (fun h4=> ?_)
    ·
     refine e_no<|e_no<|e_no<|e_no<|e_p (zk rfl rfl)<|e_mv rfl<|e_mv rfl<|e_p (zC yh rfl)<|e_p (zpa rfl rfl)<|zO rfl rfl (zS rfl) (fun h5=> ?_) (fun h5=> ?_)
     ·
      refine e_no<|e_no<|e_no<|e_no<|e_p (zk rfl rfl)<|e_p (zk rfl rfl)<|e_p (zb rfl)<|zf ?_
      exact zda true (show True from by first|trivial) ((.e rfl (congrArg Value.bool cbu) .n):SubM _ _) (ho:=((.c (i:=0) rfl .n):PickO _ _ _)) ((.of [0,1] rfl):SelR _ _ _)
     ·
      refine e_mv rfl<|zV (x0:=(l2.getD 0 0)) 1 0 rfl yh sz115 rfl rfl rfl cbo rfl rfl (gD (d:=0) om) (fun b6 o7 hok8=> ?_)
      replace hok8:=zB.1 hok8
      refine e_ru (zj (j:=0) 0 ty115 rfl rfl rfl rfl)<|e_p (zUb rfl rfl)<|e_p (zk rfl rfl)<|e_p (zk rfl rfl)<|e_p (zb rfl)<|zf ?_
      exact zda (decide ((l2.getD 0 0)≤100)) (show True from by first|trivial) ((.c rfl .n):SubM _ _) (ho:=((.c (i:=0) rfl .n):PickO _ _ _)) ((.of [1,2] rfl):SelR _ _ _)
    ·
     refine e_mv rfl<|zV (x0:=(l1.getD 0 0)) 0 0 rfl yh sz115 rfl rfl rfl cbo rfl rfl (gD (d:=0) om) (fun b9 o10 hok11=> ?_)
     replace hok11:=zB.1 hok11
     refine e_ru (zj (j:=0) 0 ty115 rfl rfl rfl rfl)<|e_p (zT rfl rfl)<|e_p (zk rfl rfl)<|zO rfl rfl (zS rfl) (fun h12=> ?_) (fun h12=> ?_)
     ·
      refine e_mv rfl<|e_p (zC yh rfl)<|e_p (zpa rfl rfl)<|zO rfl rfl (zS rfl) (fun h13=> ?_) (fun h13=> ?_)
      ·
       refine e_no<|e_no<|e_no<|e_no<|e_p (zk rfl rfl)<|e_p (zk rfl rfl)<|e_p (zb rfl)<|zf ?_
       exact zda true (show True from by first|trivial) ((.e rfl (congrArg Value.bool cbu) .n):SubM _ _) (ho:=((.c (i:=0) rfl .n):PickO _ _ _)) ((.of [1,2] rfl):SelR _ _ _)
      ·
       refine e_mv rfl<|zV (x0:=(l2.getD 0 0)) 2 0 rfl yh sz115 rfl rfl rfl cbo rfl rfl (gD (d:=0) om) (fun b14 o15 hok16=> ?_)
       replace hok16:=zB.1 hok16
       refine e_ru (zj (j:=0) 0 ty115 rfl rfl rfl rfl)<|e_p (zUb rfl rfl)<|e_p (zk rfl rfl)<|e_p (zk rfl rfl)<|e_p (zb rfl)<|zf ?_
       exact zda (decide ((l2.getD 0 0)≤100)) (show True from by first|trivial) ((.c rfl .n):SubM _ _) (ho:=((.c (i:=0) rfl .n):PickO _ _ _)) ((.of [2,3] rfl):SelR _ _ _)
     ·
      refine e_no<|e_no<|e_no<|e_no<|e_no<|e_no<|e_no<|e_no<|e_no<|e_p (zk rfl rfl)<|e_p (zb rfl)<|zf ?_
      exact zda false (show True from by first|trivial) ((.e rfl (congrArg Value.bool cbu) .n):SubM _ _) (ho:=((.c (i:=0) rfl .n):PickO _ _ _)) ((.of [1,2] rfl):SelR _ _ _)
   ·
    rintro g9 -
    try dsimp only
    refine zJ ?_
    exact zy Tryz.results66 g9 trivial (zo rfl) rfl (ho:=(.n:PickO _ _ _)) (.n:SelR _ _ _)
theorem zPf {u1:Wd} {v1:Wd} {x1:Option Rat}:Con yj 66 [.agg #[u1.b,u1.l,v1.b,v1.l]] [] [eF u1 v1 (x1)] (Y:=(Bool)) (fun y=>True) (fun y=> .bool (y)) (fun y=>[]) (fun y=>[]):=by
  exact zlg (fun y hy h1 h2=>zZe rfl rfl h1 h2)
theorem zSb {p:Option Addr} {n:Nat} {cap:Nat} {lo:List (Option Rat)} {mm:Int} {gg:Int} (hn:lo.length=n) (hgg:gg≤100):Con yj 30 [.slice p n cap,ya yb mm,ya yb gg] [] [slF rE p cap lo] (Y:=Bool) (fun y=>(y=true→((n:Nat):Int)≤mm∧∀i,i<n→yk ((lo.getD i none).getD 0)≤100)) (fun y=> .bool y) (fun y=>[]) (fun y=>[]):=by
 refine zm Tryz.func30 rfl rfl rfl (fun c=> ?_)
 show RunC _ _ _ _ _ [(0,.slice p n cap),(1,ya yb mm),(2,ya yb gg)] [] [slF rE p cap lo]
 refine zY 0 rfl (fun hL0=> ?_)
 refine ze<|za<|e_p (zb rfl)<|zf<|zc<|ze<|ze<|za<|e_mv rfl<|e_p (zC yf rfl)<|e_mv rfl<|e_p (zka rfl rfl)<|zf<|zc<|zA rfl (fun h11=> ?_) (fun h11=> ?_)
 ·
  refine ze<|za<|e_p (zb rfl)<|zf<|zc<|zJ<|zn ?_
  exact zy Tryz.results30 false (fun k=>by cases k) (zo rfl) rfl (ho:=(.n:PickO _ _ _)) (.n:SelR _ _ _)
 ·
  refine zv<|zc<|ze<|ze<|za<|e_p (zb rfl)<|zf<|zc<|zt<|zga (X:=Nat) (fun x:Nat=>x≤n∧∀j,j<x→yk ((lo.getD j none).getD 0)≤100) (fun x=>[(7,ya yb ((x:Nat):Int)),(0,.slice p n cap),(2,ya yb gg)]) (fun x=>[]) (fun x=>[slF rE p cap lo]) (fun x:Nat=>n - x) 0 (show 0≤n∧∀j,j<0→yk ((lo.getD j none).getD 0)≤100 from by exact ⟨Nat.zero_le _,fun j h=>by omega⟩) ((.e rfl (by first|rfl|(congr 1;omega)|simp_all) (.c rfl (.c rfl .n))):SubM _ _) (ho:=(.n:PickO _ _ _)) ((.c (j:=0) rfl .n):SelR _ _ _) ?_
  rintro i hI
  replace hI:i≤n∧∀j,j<i→yk ((lo.getD j none).getD 0)≤100:=hI
  try dsimp only
  obtain ⟨hi,hall⟩:=hI
  refine ze<|ze<|za<|e_mv rfl<|e_mv rfl<|e_p (zC yf rfl)<|e_p (zT rfl rfl)<|zf<|zc<|zA rfl (fun h1=> ?_) (fun h1=> ?_)
  ·
   refine zv<|zc<|ze<|zt<|zDa (X:=Bool) (fun x=>(x=false→yk ((lo.getD i none).getD 0)≤100)) (fun x=>[(36,.bool x),(7,ya yb ((i:Nat):Int)),(0,.slice p n cap),(2,ya yb gg)]) (fun x=>[]) (fun x=>[slF rE p cap lo]) ?_ ?_
   ·
    refine za<|e_mv rfl<|e_mv rfl<|r_vl rfl rfl (zia (x0:=(lo.getD i (none:Option Rat))) 0 i rfl yf sz28 rfl cbo rfl rfl (gD (d:=(none:Option Rat)) om)) ?_
    rintro ⟨b2,o3,w4,w5⟩ -
    dsimp only [aq,nq,cq]
    refine zkb open_rE<|e_ru (zaa (j:=0) 0 ty28 rfl rfl rfl (.t4 .nil))<|zbf (fun g hh=>ee_n (Holds.get 2 rfl hh)) (fun hn9=> ?_)
    refine zP rfl rfl (.c rfl .n) ce49 (zhe (u1:=w4) (v1:=w5) (h1:=cbo) (h2:=cbo)) (.n)<|e_mv rfl<|e_p (zka rfl rfl)<|zO rfl rfl (zS rfl) (fun h6=> ?_) (fun h6=> ?_)
    ·
     refine e_no<|e_no<|e_no<|e_no<|e_no<|e_no<|e_no<|e_no<|e_no<|e_no<|e_p (zk rfl rfl)<|zf ?_
     exact zda true (show (true=false→yk ((lo.getD i none).getD 0)≤100) from by first|(intro e;cases e;done)|(intro _;exact hq9)) ((.e rfl (congrArg Value.bool cbu) (.of rfl)):SubM _ _) (ho:=(.n:PickO _ _ _)) ((.c (j:=3) rfl .n):SelR _ _ _)
    ·
     refine zbf (p:=yk ((lo.getD i (none:Option Rat)).getD 0)≤100) (fun g hh=>eF_nn (Holds.get 2 rfl hh) om om dd) (fun hq9=> ?_)
     refine e_mv rfl<|e_p (zUb rfl rfl)<|zO rfl rfl (zS rfl) (fun h7=> ?_) (fun h7=> ?_)
     ·
      refine e_mv rfl<|e_mv rfl<|r_vl rfl rfl (zia (x0:=(lo.getD i (none:Option Rat))) 3 i rfl yf sz28 rfl cbo rfl rfl (gD (d:=(none:Option Rat)) om)) ?_
      rintro ⟨b8,o9,w10,w11⟩ -
      dsimp only [aq,nq,cq]
      refine zkb open_rE<|e_ru (zaa (j:=0) 0 ty28 rfl rfl rfl (.t4 .nil))<|zu rfl rfl (.c rfl .n) ce66 (zPf (u1:=w10) (v1:=w11) (x1:=(lo.getD i (none:Option Rat)))) (.c (j:=2) rfl .n) ?_
      rintro b912 -
      dsimp only [aq,nq,cq]
      refine e_p (zUa rfl)<|e_p (zk rfl rfl)<|e_p (zk rfl rfl)<|zf ?_
      exact zda (!b912) (show ((!b912)=false→yk ((lo.getD i none).getD 0)≤100) from by first|(intro e;cases e;done)|(intro _;exact hq9)) ((.of rfl):SubM _ _) (ho:=(.n:PickO _ _ _)) ((.c (j:=6) rfl .n):SelR _ _ _)
     ·
      refine e_no<|e_no<|e_no<|e_no<|e_no<|e_no<|e_p (zk rfl rfl)<|e_p (zk rfl rfl)<|zf ?_
      exact zda false (show (false=false→yk ((lo.getD i none).getD 0)≤100) from by first|(intro e;cases e;done)|(intro _;exact hq9)) ((.e rfl (congrArg Value.bool cbu) (.of rfl)):SubM _ _) (ho:=(.n:PickO _ _ _)) ((.c (j:=3) rfl .n):SelR _ _ _)
   ·
    rintro g9 hC
    replace hC:(g9=false→yk ((lo.getD i none).getD 0)≤100):=hC
    try dsimp only
    refine ztb rfl (fun h36=> ?_) (fun h36=> ?_)
    ·
     refine ze<|za<|e_p (zb rfl)<|zf<|zc<|zJ<|zR<|zn<|zn<|zR<|zn ?_
     exact zy Tryz.results30 false (fun k=>by cases k) (zo rfl) rfl (ho:=(.n:PickO _ _ _)) (.n:SelR _ _ _)
    ·
     have hcq:=hC (by simpa using h36)
     refine zv<|zL<|zc<|za<|e_mv rfl<|e_p (zH (z:=(((i+1):Nat):Int)) rfl rfl (w64 om))<|e_p (zb rfl)<|zf<|zba (i+1) (show (i+1)≤n∧∀j,j<(i+1)→yk ((lo.getD j none).getD 0)≤100 from by refine ⟨by omega,fun j hj=> ?_⟩;by_cases e:j=i;subst e;exact hcq;exact hall j om) (by show n - (i+1)<n - i;omega) ((.of rfl):SubM _ _) (ho:=(.n:PickO _ _ _)) ((.c (j:=0) rfl .n):SelR _ _ _)
  ·
   refine zea<|zi<|zi<|zp<|zc<|ze<|za<|e_p (zb rfl)<|zf<|zc<|zJ ?_
   exact zy Tryz.results30 true (fun _=>⟨by omega,fun j hj=>hall j om⟩) (zo rfl) rfl (ho:=(.n:PickO _ _ _)) (.n:SelR _ _ _)
end Go.Proofs.YtkohlohbogpooaaGreat.Sp
