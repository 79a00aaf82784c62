/- Lemmas on the walk and plain lemmas that the claim of this folder uses; each states its own conditions. Lines were printed by a program of ours. -/
import Derived.Test.YtalfgjpbbongcaaZ9C
set_option linter.unusedVariables false
set_option linter.unusedSimpArgs false
set_option linter.unusedSectionVars false
namespace Go.Proofs.Ytalfgjpbbongcaa.Sp
open Go
set_option linter.unusedVariables false
set_option maxRecDepth 100000
set_option maxHeartbeats 1000000
theorem zLc {pv:Option Addr} {nv:Nat} {cv:Nat} {V:List (Int×Int×Int)} {pf:Option Addr} {nf:Nat} {cf:Nat} {F:List (Int×Int×Int)} (hnv:V.length=nv) (hnf:F.length=nf) (hg:Ms.Good V F):Con Try.prog 66 [.agg #[.slice pv nv cv,.slice pf nf cf]] [] [slF (rI3 .i64) pv cv V,slF (rI3 .i64) pf cf F] (Y:=Nat×(List ((Int×Int)×Tri))) (fun y=>Raw y.2 (Ms.sides F)) (fun y=> .map (some y.1)) (fun y=>[mapA y.1 (fun z:Int×Int=> .agg #[.int .i64 z.1,.int .i64 z.2]) (fun z:Option Addr×Nat×Nat=> .slice z.1 z.2.1 z.2.2) (fun z=>InK .i64 z.1∧InK .i64 z.2) (y.2)]) (fun y=>[rawF (rI .i64) (y.2) (Ms.sides F)]):=by
 refine zx Try.func66 rfl rfl rfl (fun c=> ?_)
 show RunC _ _ _ _ _ [(0,.agg #[.slice pv nv cv,.slice pf nf cf])] [] [slF (rI3 .i64) pv cv V,slF (rI3 .i64) pf cf F]
 refine zba 0 rfl (fun hL0=> ?_)
 refine zba 1 rfl (fun hL1=> ?_)
 have hnv5:nv≤512:=by have:=hg.nv;omega
 have hnf5:nf≤1024:=by have:=hg.nf;omega
 refine ze<|za<|zO rfl rfl (zfa rfl rfl) (fun b1=> ?_)
 refine r_pv rfl rfl (zd rfl)<|zg<|zc<|ze<|za<|zFa rfl rfl (zNa (κ:=Int×Int) (ν:=Option Addr×Nat×Nat) (fun z:Int×Int=> .agg #[.int .i64 z.1,.int .i64 z.2]) (fun z:Option Addr×Nat×Nat=> .slice z.1 z.2.1 z.2.2) (fun z=>InK .i64 z.1∧InK .i64 z.2)) (fun b2 _=> ?_)
 refine r_pv rfl rfl (zd rfl)<|zg<|zc<|ze<|ze<|zPb (fun w mm=>mm.mrNew 3 (rI .i64))<|za<|r_pv rfl rfl (zn Try.underlying25 rfl sz23 rfl rfl)<|r_u rfl rfl (zf 1 ty23 rfl rfl rfl)<|r_pv rfl rfl (zL Try.underlying23 rfl)<|r_pv rfl rfl (zb rfl)<|zg<|zc<|zq<|zda (X:=Nat) (fun x:Nat=>x≤nf) (fun x=>[(12,.int .i64 ((x:Nat):Int)),(11,.int .i64 ((nf:Nat):Int)),(10,.slice pf nf cf),(3,.map (some b2)),(2,.map none)]) (fun x=>[mrA b2 (fun z:Int×Int=> .agg #[.int .i64 z.1,.int .i64 z.2]) (fun z=>InK .i64 z.1∧InK .i64 z.2) 3 (rI .i64) (Ms.sides (F.take x)),boxA b1 25 [.slice pv nv cv,.slice pf nf cf]]) (fun x=>[slF (rI3 .i64) pv cv V,slF (rI3 .i64) pf cf F]) (fun x:Nat=>nf - x) 0 (show 0≤nf from by exact Nat.zero_le _) ((.e rfl (by first|rfl|(congr 1;omega)|simp_all) (.of rfl)):SubM _ _) (ho:=((.e (i:=0) rfl (by rfl) (.c (i:=0) rfl .n)):PickO _ _ _)) ((.of [0,1] rfl):SelR _ _ _) ?_
 rintro i hI
 replace hI:i≤nf:=hI
 try dsimp only
 refine ze<|za<|r_pv rfl rfl (zG rfl rfl)<|zg<|zc<|ze<|zC rfl (fun h3=> ?_) (fun h3=> ?_)
 ·
  have hat:=hg.at (show i<F.length by omega)
  have hsl0:=Ms.sides_len (F.take i)
  rw [List.length_take] at hsl0
  refine zu<|zc<|ze<|zq<|ze<|za<|r_pv rfl rfl (zb rfl)<|zN (x0:=(F.getD i (0,0,0))) 1 i rfl Try.underlying23 sz44 rfl rfl rfl (by first|rfl|assumption|(simp;done)|omega) rfl rfl (gD (d:=(0,0,0)) (by omega)) (fun b4 o5 hok6=> ?_)
  obtain ⟨hok6x,hok6y,hok6z⟩:=hok6
  replace hok6x:=zm.1 hok6x
  replace hok6y:=zm.1 hok6y
  replace hok6z:=zm.1 hok6z
  refine r_u rfl rfl (zE (j:=0) 0 ty44 rfl rfl rfl (.take (.take (.take .nil))))<|zO rfl rfl (zr zr44 rfl) (fun b7=> ?_)
  refine r_pv rfl rfl (zd rfl)<|zt 0 rfl rfl rfl rfl rfl sz44 rfl (.take (.take (.take .nil))) .z<|zg<|zc<|ze<|za<|r_u rfl rfl (zh 0 ty44 rfl rfl (.take (.take (.take .nil))))<|zW rfl rfl (.c rfl .n) ce47 (zsb (ex:=(F.getD i (0,0,0)).1) (ey:=(F.getD i (0,0,0)).2.1) (ez:=(F.getD i (0,0,0)).2.2)) (.n)<|r_pv rfl rfl (zb rfl)<|zg<|zc<|zq<|zbb<|zZ<|ze<|za<|r_pv rfl rfl (zG rfl rfl)<|zg<|zc<|ze<|zY rfl rfl<|zu<|zc<|ze<|zq<|ze<|za<|r_pv rfl rfl (zia (i:=0) Try.underlying74 ty73 rfl rfl (by decide) (.take (.take .nil)))<|zO rfl rfl (zr zr73 rfl) (fun b8=> ?_)
  refine zt 0 rfl rfl rfl rfl rfl sz73 rfl (.take (.take .nil)) .z<|zg<|zc<|zhd (fun w mm=>mm.mrOpen 2 ((min ((F.getD i (0,0,0)).1) ((F.getD i (0,0,0)).2.1)),(max ((F.getD i (0,0,0)).1) ((F.getD i (0,0,0)).2.1))) rfl) ?_
  rintro ⟨raw0,pz0,cz0⟩ ⟨hraw0,hgt0⟩
  dsimp only [List.eraseIdx] at hgt0 ⊢
  obtain ⟨lz0,hlz0⟩:∃z,z=(mget (Ms.sides (F.take i)) ((min ((F.getD i (0,0,0)).1) ((F.getD i (0,0,0)).2.1)),(max ((F.getD i (0,0,0)).1) ((F.getD i (0,0,0)).2.1)))).getD []:=⟨_,rfl⟩
  rw [← hlz0] at hgt0 ⊢
  have hlb0:lz0.length≤4000:=by have h9:=hsl0 ((min ((F.getD i (0,0,0)).1) ((F.getD i (0,0,0)).2.1)),(max ((F.getD i (0,0,0)).1) ((F.getD i (0,0,0)).2.1)));rw [← hlz0] at h9;omega
  refine zib (.c (i:=1) rfl (.c (i:=0) rfl (.c (i:=0) rfl (.c (i:=0) rfl (.c (i:=0) rfl (.c (i:=0) rfl .n))))))<|zya (OW:=[rowA 3 (rI .i64) pz0 cz0 lz0,mapA b2 (fun z:Int×Int=> .agg #[.int .i64 z.1,.int .i64 z.2]) (fun z:Option Addr×Nat×Nat=> .slice z.1 z.2.1 z.2.2) (fun z=>InK .i64 z.1∧InK .i64 z.2) raw0]) (O:=[allA (mrest 3 (rI .i64) ((min ((F.getD i (0,0,0)).1) ((F.getD i (0,0,0)).2.1)),(max ((F.getD i (0,0,0)).1) ((F.getD i (0,0,0)).2.1))) raw0 (Ms.sides (F.take i))),boxA b8 73 [.int .i64 ((F.getD i (0,0,0)).1),.int .i64 ((F.getD i (0,0,0)).2.1)],boxA b7 44 [.int .i64 ((F.getD i (0,0,0)).1),.int .i64 ((F.getD i (0,0,0)).2.1),.int .i64 ((F.getD i (0,0,0)).2.2)],boxA b1 25 [.slice pv nv cv,.slice pf nf cf]]) 9 mixed (.block (.then (.then (.block (.block (.then (.then (.block (.then .ret))))))))) (by kernel_rfl)<|d_pv 0 rfl rfl (by kernel_rfl) (by kernel_rfl) rfl rfl (zb rfl)<|d_uw 1 rfl rfl (by kernel_rfl) (by kernel_rfl) (by kernel_rfl) rfl rfl (zh 3 ty73 rfl rfl (.take (.take .nil)))<|d_pv 3 rfl rfl (by kernel_rfl) (by kernel_rfl) rfl rfl (zb rfl)<|d_uw 4 rfl rfl (by kernel_rfl) (by kernel_rfl) (by kernel_rfl) rfl rfl (zh 3 ty73 rfl rfl (.take (.take .nil)))<|d_pv 7 rfl rfl (by kernel_rfl) (by kernel_rfl) rfl rfl (zb rfl)<|zbc (m':=[(29,.int .i64 ((i:Nat):Int)),(26,.agg #[.int .i64 ((F.getD i (0,0,0)).1),.int .i64 ((F.getD i (0,0,0)).2.1)]),(25,.map (some b2)),(23,.agg #[.int .i64 ((F.getD i (0,0,0)).1),.int .i64 ((F.getD i (0,0,0)).2.1)]),(22,.map (some b2)),(7,.pointer (some ⟨b8,0,none⟩)),(21,.agg #[.int .i64 ((F.getD i (0,0,0)).1),.int .i64 ((F.getD i (0,0,0)).2.1)]),(20,.bool true),(19,.int .i64 0),(18,.agg #[.int .i64 ((F.getD i (0,0,0)).1),.int .i64 ((F.getD i (0,0,0)).2.1),.int .i64 ((F.getD i (0,0,0)).2.1),.int .i64 ((F.getD i (0,0,0)).2.2),.int .i64 ((F.getD i (0,0,0)).2.2),.int .i64 ((F.getD i (0,0,0)).1)]),(4,.int .i64 ((i:Nat):Int)),(12,.int .i64 ((i:Nat):Int)),(11,.int .i64 ((nf:Nat):Int)),(10,.slice pf nf cf),(3,.map (some b2)),(2,.map none)]) (R':=[slF (rI3 .i64) pv cv V,slF (rI3 .i64) pf cf F]) ((.of rfl):SubM _ _) (List.Perm.refl _) (List.Perm.refl _) ((.of [1,2] rfl):SelR _ _ _)<|zS (X:=Nat×Option Addr×Nat) (k':=0) (L':=(lb 11 2047)) (fun (u8_1,u9_1,u9_2)=>([(31,.slice u9_1 (lz0.length+1) u9_2),(30,.slice (some ⟨u8_1,0,none⟩) 1 1),(28,.slice pz0 (lz0.length) cz0),(27,.agg #[.int .i64 (min ((F.getD i (0,0,0)).1) ((F.getD i (0,0,0)).2.1)),.int .i64 (max ((F.getD i (0,0,0)).1) ((F.getD i (0,0,0)).2.1))]),(24,.agg #[.int .i64 (min ((F.getD i (0,0,0)).1) ((F.getD i (0,0,0)).2.1)),.int .i64 (max ((F.getD i (0,0,0)).1) ((F.getD i (0,0,0)).2.1))]),(29,.int .i64 ((i:Nat):Int)),(26,.agg #[.int .i64 ((F.getD i (0,0,0)).1),.int .i64 ((F.getD i (0,0,0)).2.1)]),(25,.map (some b2)),(23,.agg #[.int .i64 ((F.getD i (0,0,0)).1),.int .i64 ((F.getD i (0,0,0)).2.1)]),(22,.map (some b2)),(7,.pointer (some ⟨b8,0,none⟩)),(21,.agg #[.int .i64 ((F.getD i (0,0,0)).1),.int .i64 ((F.getD i (0,0,0)).2.1)]),(20,.bool true),(19,.int .i64 0),(18,.agg #[.int .i64 ((F.getD i (0,0,0)).1),.int .i64 ((F.getD i (0,0,0)).2.1),.int .i64 ((F.getD i (0,0,0)).2.1),.int .i64 ((F.getD i (0,0,0)).2.2),.int .i64 ((F.getD i (0,0,0)).2.2),.int .i64 ((F.getD i (0,0,0)).1)]),(4,.int .i64 ((i:Nat):Int)),(12,.int .i64 ((i:Nat):Int)),(11,.int .i64 ((nf:Nat):Int)),(10,.slice pf nf cf),(3,.map (some b2)),(2,.map none)],[mapA b2 (fun z:Int×Int=> .agg #[.int .i64 z.1,.int .i64 z.2]) (fun z:Option Addr×Nat×Nat=> .slice z.1 z.2.1 z.2.2) (fun z=>InK .i64 z.1∧InK .i64 z.2) (mput raw0 ((min ((F.getD i (0,0,0)).1) ((F.getD i (0,0,0)).2.1)),(max ((F.getD i (0,0,0)).1) ((F.getD i (0,0,0)).2.1))) (u9_1,lz0.length+1,u9_2)),rowA 3 (rI .i64) u9_1 u9_2 (lz0++([((i:Nat):Int)]))],[emA,allA (mrest 3 (rI .i64) ((min ((F.getD i (0,0,0)).1) ((F.getD i (0,0,0)).2.1)),(max ((F.getD i (0,0,0)).1) ((F.getD i (0,0,0)).2.1))) raw0 (Ms.sides (F.take i))),boxA b8 73 [.int .i64 ((F.getD i (0,0,0)).1),.int .i64 ((F.getD i (0,0,0)).2.1)],boxA b7 44 [.int .i64 ((F.getD i (0,0,0)).1),.int .i64 ((F.getD i (0,0,0)).2.1),.int .i64 ((F.getD i (0,0,0)).2.2)],boxA b1 25 [.slice pv nv cv,.slice pf nf cf]],[slF (rI .i64) (some ⟨u8_1,0,none⟩) 1 ([((i:Nat):Int)]),slF (rI3 .i64) pv cv V,slF (rI3 .i64) pf cf F])) ?_ (fun hD0=> ?_)
  ·
   rintro ⟨u8_1,u9_1,u9_2⟩
   dsimp only
   refine zwa (by kernel_rfl)<|zy<|zc<|zPb (fun w mm=>(mm.perm (zX 0 rfl (zX 0 rfl (zX 1 rfl (List.Perm.refl _))))).mrClose (xs:=(lz0++([((i:Nat):Int)]))) ((min ((F.getD i (0,0,0)).1) ((F.getD i (0,0,0)).2.1)),(max ((F.getD i (0,0,0)).1) ((F.getD i (0,0,0)).2.1))) hraw0 (by simp)) ?_
   try dsimp only [List.eraseIdx]
   obtain ⟨Mq0,hMq0⟩:∃z,z=Ms.sideS (Ms.sides (F.take i)) (Ms.pl (((F.getD i (0,0,0)).1),((F.getD i (0,0,0)).2.1)),((i:Nat):Int)):=⟨_,rfl⟩
   rw [show mput (Ms.sides (F.take i)) ((min ((F.getD i (0,0,0)).1) ((F.getD i (0,0,0)).2.1)),(max ((F.getD i (0,0,0)).1) ((F.getD i (0,0,0)).2.1))) (lz0++([((i:Nat):Int)]))=Mq0 by rw [hMq0,hlz0];rfl]
   have hsl1:=Ms.sideS_len hsl0 (Ms.pl (((F.getD i (0,0,0)).1),((F.getD i (0,0,0)).2.1)),((i:Nat):Int))
   rw [← hMq0] at hsl1
   refine za<|r_pv rfl rfl (zD (z:=1) rfl rfl (w64 (by decide)))<|r_pv rfl rfl (zb rfl)<|zg<|zoa<|zZ<|ze<|za<|r_pv rfl rfl (zG rfl rfl)<|zg<|zc<|ze<|zY rfl rfl<|zu<|zc<|ze<|zq<|ze<|za<|r_pv rfl rfl (zia (i:=1) Try.underlying74 ty73 rfl rfl (by decide) (.skip (.skip (.take (.take .nil)))))<|zO rfl rfl (zr zr73 rfl) (fun b9=> ?_)
   refine zt 0 rfl rfl rfl rfl rfl sz73 rfl (.take (.take .nil)) .z<|zg<|zc<|zhd (fun w mm=>mm.mrOpen 1 ((min ((F.getD i (0,0,0)).2.1) ((F.getD i (0,0,0)).2.2)),(max ((F.getD i (0,0,0)).2.1) ((F.getD i (0,0,0)).2.2))) rfl) ?_
   rintro ⟨raw1,pz1,cz1⟩ ⟨hraw1,hgt1⟩
   dsimp only [List.eraseIdx] at hgt1 ⊢
   obtain ⟨lz1,hlz1⟩:∃z,z=(mget Mq0 ((min ((F.getD i (0,0,0)).2.1) ((F.getD i (0,0,0)).2.2)),(max ((F.getD i (0,0,0)).2.1) ((F.getD i (0,0,0)).2.2)))).getD []:=⟨_,rfl⟩
   rw [← hlz1] at hgt1 ⊢
   have hlb1:lz1.length≤4000:=by have h9:=hsl1 ((min ((F.getD i (0,0,0)).2.1) ((F.getD i (0,0,0)).2.2)),(max ((F.getD i (0,0,0)).2.1) ((F.getD i (0,0,0)).2.2)));rw [← hlz1] at h9;omega
   refine zib (.c (i:=1) rfl (.c (i:=0) rfl (.c (i:=0) rfl (.c (i:=0) rfl (.c (i:=0) rfl (.c (i:=0) rfl (.c (i:=0) rfl (.c (i:=0) rfl .n))))))))<|zya (OW:=[rowA 3 (rI .i64) pz1 cz1 lz1,mapA b2 (fun z:Int×Int=> .agg #[.int .i64 z.1,.int .i64 z.2]) (fun z:Option Addr×Nat×Nat=> .slice z.1 z.2.1 z.2.2) (fun z=>InK .i64 z.1∧InK .i64 z.2) raw1]) (O:=[allA (mrest 3 (rI .i64) ((min ((F.getD i (0,0,0)).2.1) ((F.getD i (0,0,0)).2.2)),(max ((F.getD i (0,0,0)).2.1) ((F.getD i (0,0,0)).2.2))) raw1 Mq0),boxA b9 73 [.int .i64 ((F.getD i (0,0,0)).2.1),.int .i64 ((F.getD i (0,0,0)).2.2)],emA,boxA b8 73 [.int .i64 ((F.getD i (0,0,0)).1),.int .i64 ((F.getD i (0,0,0)).2.1)],boxA b7 44 [.int .i64 ((F.getD i (0,0,0)).1),.int .i64 ((F.getD i (0,0,0)).2.1),.int .i64 ((F.getD i (0,0,0)).2.2)],boxA b1 25 [.slice pv nv cv,.slice pf nf cf]]) 9 mixed (.block (.then (.then (.block (.block (.then (.then (.block (.then .ret))))))))) (by kernel_rfl)<|d_pv 0 rfl rfl (by kernel_rfl) (by kernel_rfl) rfl rfl (zb rfl)<|d_uw 1 rfl rfl (by kernel_rfl) (by kernel_rfl) (by kernel_rfl) rfl rfl (zh 3 ty73 rfl rfl (.take (.take .nil)))<|d_pv 3 rfl rfl (by kernel_rfl) (by kernel_rfl) rfl rfl (zb rfl)<|d_uw 4 rfl rfl (by kernel_rfl) (by kernel_rfl) (by kernel_rfl) rfl rfl (zh 3 ty73 rfl rfl (.take (.take .nil)))<|d_pv 7 rfl rfl (by kernel_rfl) (by kernel_rfl) rfl rfl (zb rfl)<|zbc (m':=[(29,.int .i64 ((i:Nat):Int)),(26,.agg #[.int .i64 ((F.getD i (0,0,0)).2.1),.int .i64 ((F.getD i (0,0,0)).2.2)]),(25,.map (some b2)),(23,.agg #[.int .i64 ((F.getD i (0,0,0)).2.1),.int .i64 ((F.getD i (0,0,0)).2.2)]),(22,.map (some b2)),(7,.pointer (some ⟨b9,0,none⟩)),(21,.agg #[.int .i64 ((F.getD i (0,0,0)).2.1),.int .i64 ((F.getD i (0,0,0)).2.2)]),(20,.bool true),(19,.int .i64 1),(32,.int .i64 1),(31,.slice u9_1 (lz0.length+1) u9_2),(30,.slice (some ⟨u8_1,0,none⟩) 1 1),(28,.slice pz0 (lz0.length) cz0),(27,.agg #[.int .i64 (min ((F.getD i (0,0,0)).1) ((F.getD i (0,0,0)).2.1)),.int .i64 (max ((F.getD i (0,0,0)).1) ((F.getD i (0,0,0)).2.1))]),(24,.agg #[.int .i64 (min ((F.getD i (0,0,0)).1) ((F.getD i (0,0,0)).2.1)),.int .i64 (max ((F.getD i (0,0,0)).1) ((F.getD i (0,0,0)).2.1))]),(18,.agg #[.int .i64 ((F.getD i (0,0,0)).1),.int .i64 ((F.getD i (0,0,0)).2.1),.int .i64 ((F.getD i (0,0,0)).2.1),.int .i64 ((F.getD i (0,0,0)).2.2),.int .i64 ((F.getD i (0,0,0)).2.2),.int .i64 ((F.getD i (0,0,0)).1)]),(4,.int .i64 ((i:Nat):Int)),(12,.int .i64 ((i:Nat):Int)),(11,.int .i64 ((nf:Nat):Int)),(10,.slice pf nf cf),(3,.map (some b2)),(2,.map none)]) (R':=[slF (rI .i64) (some ⟨u8_1,0,none⟩) 1 ([((i:Nat):Int)]),slF (rI3 .i64) pv cv V,slF (rI3 .i64) pf cf F]) ((.of rfl):SubM _ _) (List.Perm.refl _) (List.Perm.refl _) ((.of [0,1,2] rfl):SelR _ _ _) ?_
   obtain ⟨qd1,hqd1⟩:∃z,z=(min ((F.getD i (0,0,0)).1) ((F.getD i (0,0,0)).2.1)):=⟨_,rfl⟩
   rw [← hqd1]
   obtain ⟨qd2,hqd2⟩:∃z,z=(max ((F.getD i (0,0,0)).1) ((F.getD i (0,0,0)).2.1)):=⟨_,rfl⟩
   rw [← hqd2]
   refine zS (X:=Nat×Option Addr×Nat) (k':=0) (L':=(lb 11 2047)) (fun (u8_1,u9_1,u9_2)=>([(31,.slice u9_1 (lz1.length+1) u9_2),(30,.slice (some ⟨u8_1,0,none⟩) 1 1),(28,.slice pz1 (lz1.length) cz1),(27,.agg #[.int .i64 (min ((F.getD i (0,0,0)).2.1) ((F.getD i (0,0,0)).2.2)),.int .i64 (max ((F.getD i (0,0,0)).2.1) ((F.getD i (0,0,0)).2.2))]),(24,.agg #[.int .i64 (min ((F.getD i (0,0,0)).2.1) ((F.getD i (0,0,0)).2.2)),.int .i64 (max ((F.getD i (0,0,0)).2.1) ((F.getD i (0,0,0)).2.2))]),(29,.int .i64 ((i:Nat):Int)),(26,.agg #[.int .i64 ((F.getD i (0,0,0)).2.1),.int .i64 ((F.getD i (0,0,0)).2.2)]),(25,.map (some b2)),(23,.agg #[.int .i64 ((F.getD i (0,0,0)).2.1),.int .i64 ((F.getD i (0,0,0)).2.2)]),(22,.map (some b2)),(7,.pointer (some ⟨b9,0,none⟩)),(21,.agg #[.int .i64 ((F.getD i (0,0,0)).2.1),.int .i64 ((F.getD i (0,0,0)).2.2)]),(20,.bool true),(19,.int .i64 1),(32,.int .i64 1),(18,.agg #[.int .i64 ((F.getD i (0,0,0)).1),.int .i64 ((F.getD i (0,0,0)).2.1),.int .i64 ((F.getD i (0,0,0)).2.1),.int .i64 ((F.getD i (0,0,0)).2.2),.int .i64 ((F.getD i (0,0,0)).2.2),.int .i64 ((F.getD i (0,0,0)).1)]),(4,.int .i64 ((i:Nat):Int)),(12,.int .i64 ((i:Nat):Int)),(11,.int .i64 ((nf:Nat):Int)),(10,.slice pf nf cf),(3,.map (some b2)),(2,.map none)],[mapA b2 (fun z:Int×Int=> .agg #[.int .i64 z.1,.int .i64 z.2]) (fun z:Option Addr×Nat×Nat=> .slice z.1 z.2.1 z.2.2) (fun z=>InK .i64 z.1∧InK .i64 z.2) (mput raw1 ((min ((F.getD i (0,0,0)).2.1) ((F.getD i (0,0,0)).2.2)),(max ((F.getD i (0,0,0)).2.1) ((F.getD i (0,0,0)).2.2))) (u9_1,lz1.length+1,u9_2)),rowA 3 (rI .i64) u9_1 u9_2 (lz1++([((i:Nat):Int)]))],[emA,allA (mrest 3 (rI .i64) ((min ((F.getD i (0,0,0)).2.1) ((F.getD i (0,0,0)).2.2)),(max ((F.getD i (0,0,0)).2.1) ((F.getD i (0,0,0)).2.2))) raw1 Mq0),boxA b9 73 [.int .i64 ((F.getD i (0,0,0)).2.1),.int .i64 ((F.getD i (0,0,0)).2.2)],emA,boxA b8 73 [.int .i64 ((F.getD i (0,0,0)).1),.int .i64 ((F.getD i (0,0,0)).2.1)],boxA b7 44 [.int .i64 ((F.getD i (0,0,0)).1),.int .i64 ((F.getD i (0,0,0)).2.1),.int .i64 ((F.getD i (0,0,0)).2.2)],boxA b1 25 [.slice pv nv cv,.slice pf nf cf]],[slF (rI .i64) (some ⟨u8_1,0,none⟩) 1 ([((i:Nat):Int)]),slF (rI .i64) (some ⟨u8_1,0,none⟩) 1 ([((i:Nat):Int)]),slF (rI3 .i64) pv cv V,slF (rI3 .i64) pf cf F])) ?_ (fun hD0=> ?_)
   ·
    rintro ⟨u8_1,u9_1,u9_2⟩
    dsimp only
    refine zwa (by kernel_rfl) ?_
    subst hqd1 hqd2
    refine zy<|zc<|zPb (fun w mm=>(mm.perm (zX 0 rfl (zX 0 rfl (zX 1 rfl (List.Perm.refl _))))).mrClose (xs:=(lz1++([((i:Nat):Int)]))) ((min ((F.getD i (0,0,0)).2.1) ((F.getD i (0,0,0)).2.2)),(max ((F.getD i (0,0,0)).2.1) ((F.getD i (0,0,0)).2.2))) hraw1 (by simp)) ?_
    try dsimp only [List.eraseIdx]
    obtain ⟨Mq1,hMq1⟩:∃z,z=Ms.sideS Mq0 (Ms.pl (((F.getD i (0,0,0)).2.1),((F.getD i (0,0,0)).2.2)),((i:Nat):Int)):=⟨_,rfl⟩
    rw [show mput Mq0 ((min ((F.getD i (0,0,0)).2.1) ((F.getD i (0,0,0)).2.2)),(max ((F.getD i (0,0,0)).2.1) ((F.getD i (0,0,0)).2.2))) (lz1++([((i:Nat):Int)]))=Mq1 by rw [hMq1,hlz1];rfl]
    have hsl2:=Ms.sideS_len hsl1 (Ms.pl (((F.getD i (0,0,0)).2.1),((F.getD i (0,0,0)).2.2)),((i:Nat):Int))
    rw [← hMq1] at hsl2
    refine za<|r_pv rfl rfl (zD (z:=2) rfl rfl (w64 (by decide)))<|r_pv rfl rfl (zb rfl)<|zg<|zoa<|zZ<|ze<|za<|r_pv rfl rfl (zG rfl rfl)<|zg<|zc<|ze<|zY rfl rfl<|zu<|zc<|ze<|zq<|ze<|za<|r_pv rfl rfl (zia (i:=2) Try.underlying74 ty73 rfl rfl (by decide) (.skip (.skip (.skip (.skip (.take (.take .nil)))))))<|zO rfl rfl (zr zr73 rfl) (fun b10=> ?_)
    refine zt 0 rfl rfl rfl rfl rfl sz73 rfl (.take (.take .nil)) .z<|zg<|zc<|zhd (fun w mm=>mm.mrOpen 1 ((min ((F.getD i (0,0,0)).2.2) ((F.getD i (0,0,0)).1)),(max ((F.getD i (0,0,0)).2.2) ((F.getD i (0,0,0)).1))) rfl) ?_
    rintro ⟨raw2,pz2,cz2⟩ ⟨hraw2,hgt2⟩
    dsimp only [List.eraseIdx] at hgt2 ⊢
    obtain ⟨lz2,hlz2⟩:∃z,z=(mget Mq1 ((min ((F.getD i (0,0,0)).2.2) ((F.getD i (0,0,0)).1)),(max ((F.getD i (0,0,0)).2.2) ((F.getD i (0,0,0)).1)))).getD []:=⟨_,rfl⟩
    rw [← hlz2] at hgt2 ⊢
    have hlb2:lz2.length≤4000:=by have h9:=hsl2 ((min ((F.getD i (0,0,0)).2.2) ((F.getD i (0,0,0)).1)),(max ((F.getD i (0,0,0)).2.2) ((F.getD i (0,0,0)).1)));rw [← hlz2] at h9;omega
    refine zib (.c (i:=1) rfl (.c (i:=0) rfl (.c (i:=0) rfl (.c (i:=0) rfl (.c (i:=0) rfl (.c (i:=0) rfl (.c (i:=0) rfl (.c (i:=0) rfl (.c (i:=0) rfl (.c (i:=0) rfl .n))))))))))<|zya (OW:=[rowA 3 (rI .i64) pz2 cz2 lz2,mapA b2 (fun z:Int×Int=> .agg #[.int .i64 z.1,.int .i64 z.2]) (fun z:Option Addr×Nat×Nat=> .slice z.1 z.2.1 z.2.2) (fun z=>InK .i64 z.1∧InK .i64 z.2) raw2]) (O:=[allA (mrest 3 (rI .i64) ((min ((F.getD i (0,0,0)).2.2) ((F.getD i (0,0,0)).1)),(max ((F.getD i (0,0,0)).2.2) ((F.getD i (0,0,0)).1))) raw2 Mq1),boxA b10 73 [.int .i64 ((F.getD i (0,0,0)).2.2),.int .i64 ((F.getD i (0,0,0)).1)],emA,boxA b9 73 [.int .i64 ((F.getD i (0,0,0)).2.1),.int .i64 ((F.getD i (0,0,0)).2.2)],emA,boxA b8 73 [.int .i64 ((F.getD i (0,0,0)).1),.int .i64 ((F.getD i (0,0,0)).2.1)],boxA b7 44 [.int .i64 ((F.getD i (0,0,0)).1),.int .i64 ((F.getD i (0,0,0)).2.1),.int .i64 ((F.getD i (0,0,0)).2.2)],boxA b1 25 [.slice pv nv cv,.slice pf nf cf]]) 9 mixed (.block (.then (.then (.block (.block (.then (.then (.block (.then .ret))))))))) (by kernel_rfl)<|d_pv 0 rfl rfl (by kernel_rfl) (by kernel_rfl) rfl rfl (zb rfl)<|d_uw 1 rfl rfl (by kernel_rfl) (by kernel_rfl) (by kernel_rfl) rfl rfl (zh 3 ty73 rfl rfl (.take (.take .nil)))<|d_pv 3 rfl rfl (by kernel_rfl) (by kernel_rfl) rfl rfl (zb rfl)<|d_uw 4 rfl rfl (by kernel_rfl) (by kernel_rfl) (by kernel_rfl) rfl rfl (zh 3 ty73 rfl rfl (.take (.take .nil)))<|d_pv 7 rfl rfl (by kernel_rfl) (by kernel_rfl) rfl rfl (zb rfl)<|zbc (m':=[(29,.int .i64 ((i:Nat):Int)),(26,.agg #[.int .i64 ((F.getD i (0,0,0)).2.2),.int .i64 ((F.getD i (0,0,0)).1)]),(25,.map (some b2)),(23,.agg #[.int .i64 ((F.getD i (0,0,0)).2.2),.int .i64 ((F.getD i (0,0,0)).1)]),(22,.map (some b2)),(7,.pointer (some ⟨b10,0,none⟩)),(21,.agg #[.int .i64 ((F.getD i (0,0,0)).2.2),.int .i64 ((F.getD i (0,0,0)).1)]),(20,.bool true),(19,.int .i64 2),(32,.int .i64 2),(31,.slice u9_1 (lz1.length+1) u9_2),(30,.slice (some ⟨u8_1,0,none⟩) 1 1),(28,.slice pz1 (lz1.length) cz1),(27,.agg #[.int .i64 (min ((F.getD i (0,0,0)).2.1) ((F.getD i (0,0,0)).2.2)),.int .i64 (max ((F.getD i (0,0,0)).2.1) ((F.getD i (0,0,0)).2.2))]),(24,.agg #[.int .i64 (min ((F.getD i (0,0,0)).2.1) ((F.getD i (0,0,0)).2.2)),.int .i64 (max ((F.getD i (0,0,0)).2.1) ((F.getD i (0,0,0)).2.2))]),(18,.agg #[.int .i64 ((F.getD i (0,0,0)).1),.int .i64 ((F.getD i (0,0,0)).2.1),.int .i64 ((F.getD i (0,0,0)).2.1),.int .i64 ((F.getD i (0,0,0)).2.2),.int .i64 ((F.getD i (0,0,0)).2.2),.int .i64 ((F.getD i (0,0,0)).1)]),(4,.int .i64 ((i:Nat):Int)),(12,.int .i64 ((i:Nat):Int)),(11,.int .i64 ((nf:Nat):Int)),(10,.slice pf nf cf),(3,.map (some b2)),(2,.map none)]) (R':=[slF (rI .i64) (some ⟨u8_1,0,none⟩) 1 ([((i:Nat):Int)]),slF (rI .i64) (some ⟨u8_1,0,none⟩) 1 ([((i:Nat):Int)]),slF (rI3 .i64) pv cv V,slF (rI3 .i64) pf cf F]) ((.of rfl):SubM _ _) (List.Perm.refl _) (List.Perm.refl _) ((.of [0,0,2,3] rfl):SelR _ _ _) ?_
    obtain ⟨qd1,hqd1⟩:∃z,z=(min ((F.getD i (0,0,0)).2.1) ((F.getD i (0,0,0)).2.2)):=⟨_,rfl⟩
    rw [← hqd1]
    obtain ⟨qd2,hqd2⟩:∃z,z=(max ((F.getD i (0,0,0)).2.1) ((F.getD i (0,0,0)).2.2)):=⟨_,rfl⟩
    rw [← hqd2]
    refine zS (X:=Nat×Option Addr×Nat) (k':=0) (L':=(lb 11 2047)) (fun (u8_1,u9_1,u9_2)=>([(31,.slice u9_1 (lz2.length+1) u9_2),(30,.slice (some ⟨u8_1,0,none⟩) 1 1),(28,.slice pz2 (lz2.length) cz2),(27,.agg #[.int .i64 (min ((F.getD i (0,0,0)).2.2) ((F.getD i (0,0,0)).1)),.int .i64 (max ((F.getD i (0,0,0)).2.2) ((F.getD i (0,0,0)).1))]),(24,.agg #[.int .i64 (min ((F.getD i (0,0,0)).2.2) ((F.getD i (0,0,0)).1)),.int .i64 (max ((F.getD i (0,0,0)).2.2) ((F.getD i (0,0,0)).1))]),(29,.int .i64 ((i:Nat):Int)),(26,.agg #[.int .i64 ((F.getD i (0,0,0)).2.2),.int .i64 ((F.getD i (0,0,0)).1)]),(25,.map (some b2)),(23,.agg #[.int .i64 ((F.getD i (0,0,0)).2.2),.int .i64 ((F.getD i (0,0,0)).1)]),(22,.map (some b2)),(7,.pointer (some ⟨b10,0,none⟩)),(21,.agg #[.int .i64 ((F.getD i (0,0,0)).2.2),.int .i64 ((F.getD i (0,0,0)).1)]),(20,.bool true),(19,.int .i64 2),(32,.int .i64 2),(18,.agg #[.int .i64 ((F.getD i (0,0,0)).1),.int .i64 ((F.getD i (0,0,0)).2.1),.int .i64 ((F.getD i (0,0,0)).2.1),.int .i64 ((F.getD i (0,0,0)).2.2),.int .i64 ((F.getD i (0,0,0)).2.2),.int .i64 ((F.getD i (0,0,0)).1)]),(4,.int .i64 ((i:Nat):Int)),(12,.int .i64 ((i:Nat):Int)),(11,.int .i64 ((nf:Nat):Int)),(10,.slice pf nf cf),(3,.map (some b2)),(2,.map none)],[mapA b2 (fun z:Int×Int=> .agg #[.int .i64 z.1,.int .i64 z.2]) (fun z:Option Addr×Nat×Nat=> .slice z.1 z.2.1 z.2.2) (fun z=>InK .i64 z.1∧InK .i64 z.2) (mput raw2 ((min ((F.getD i (0,0,0)).2.2) ((F.getD i (0,0,0)).1)),(max ((F.getD i (0,0,0)).2.2) ((F.getD i (0,0,0)).1))) (u9_1,lz2.length+1,u9_2)),rowA 3 (rI .i64) u9_1 u9_2 (lz2++([((i:Nat):Int)]))],[emA,allA (mrest 3 (rI .i64) ((min ((F.getD i (0,0,0)).2.2) ((F.getD i (0,0,0)).1)),(max ((F.getD i (0,0,0)).2.2) ((F.getD i (0,0,0)).1))) raw2 Mq1),boxA b10 73 [.int .i64 ((F.getD i (0,0,0)).2.2),.int .i64 ((F.getD i (0,0,0)).1)],emA,boxA b9 73 [.int .i64 ((F.getD i (0,0,0)).2.1),.int .i64 ((F.getD i (0,0,0)).2.2)],emA,boxA b8 73 [.int .i64 ((F.getD i (0,0,0)).1),.int .i64 ((F.getD i (0,0,0)).2.1)],boxA b7 44 [.int .i64 ((F.getD i (0,0,0)).1),.int .i64 ((F.getD i (0,0,0)).2.1),.int .i64 ((F.getD i (0,0,0)).2.2)],boxA b1 25 [.slice pv nv cv,.slice pf nf cf]],[slF (rI .i64) (some ⟨u8_1,0,none⟩) 1 ([((i:Nat):Int)]),slF (rI .i64) (some ⟨u8_1,0,none⟩) 1 ([((i:Nat):Int)]),slF (rI .i64) (some ⟨u8_1,0,none⟩) 1 ([((i:Nat):Int)]),slF (rI3 .i64) pv cv V,slF (rI3 .i64) pf cf F])) ?_ (fun hD0=> ?_)
    ·
     rintro ⟨u8_1,u9_1,u9_2⟩
     dsimp only
     refine zwa (by kernel_rfl) ?_
     subst hqd1 hqd2
     refine zy<|zc<|zPb (fun w mm=>(mm.perm (zX 0 rfl (zX 0 rfl (zX 1 rfl (List.Perm.refl _))))).mrClose (xs:=(lz2++([((i:Nat):Int)]))) ((min ((F.getD i (0,0,0)).2.2) ((F.getD i (0,0,0)).1)),(max ((F.getD i (0,0,0)).2.2) ((F.getD i (0,0,0)).1))) hraw2 (by simp)) ?_
     try dsimp only [List.eraseIdx]
     obtain ⟨Mq2,hMq2⟩:∃z,z=Ms.sideS Mq1 (Ms.pl (((F.getD i (0,0,0)).2.2),((F.getD i (0,0,0)).1)),((i:Nat):Int)):=⟨_,rfl⟩
     rw [show mput Mq1 ((min ((F.getD i (0,0,0)).2.2) ((F.getD i (0,0,0)).1)),(max ((F.getD i (0,0,0)).2.2) ((F.getD i (0,0,0)).1))) (lz2++([((i:Nat):Int)]))=Mq2 by rw [hMq2,hlz2];rfl]
     have hsl3:=Ms.sideS_len hsl2 (Ms.pl (((F.getD i (0,0,0)).2.2),((F.getD i (0,0,0)).1)),((i:Nat):Int))
     rw [← hMq2] at hsl3
     refine za<|r_pv rfl rfl (zD (z:=3) rfl rfl (w64 (by decide)))<|r_pv rfl rfl (zb rfl)<|zg<|zoa<|zZ<|ze<|za<|r_pv rfl rfl (zG rfl rfl)<|zg<|zc<|ze<|zBa rfl rfl<|zP<|zi<|zi<|zp<|zy<|zc<|za<|r_pv rfl rfl (zD (z:=(((i+1):Nat):Int)) rfl rfl (w64 (by omega)))<|r_pv rfl rfl (zb rfl)<|zg<|zT (i+1) (show (i+1)≤nf from by exact (by omega:i+1≤nf)) (by show nf - (i+1)<nf - i;omega) ((.of rfl):SubM _ _) (ho:=((.e (i:=0) rfl (by rw [hMq2,hMq1,hMq0,Ms.sides_take (by omega)]) (.c (i:=7) rfl .n)):PickO _ _ _)) ((.of [3,4] rfl):SelR _ _ _)
    refine zS (X:=Nat×Option Addr×Nat) (k':=1) (L':=(lb 11 1023)) (fun (u8_1,u9_1,u9_2)=>([(31,.slice u9_1 (lz2.length+1) u9_2),(30,.slice (some ⟨u8_1,0,none⟩) 1 1),(28,.slice pz2 (lz2.length) cz2),(27,.agg #[.int .i64 (min ((F.getD i (0,0,0)).2.2) ((F.getD i (0,0,0)).1)),.int .i64 (max ((F.getD i (0,0,0)).2.2) ((F.getD i (0,0,0)).1))]),(24,.agg #[.int .i64 (min ((F.getD i (0,0,0)).2.2) ((F.getD i (0,0,0)).1)),.int .i64 (max ((F.getD i (0,0,0)).2.2) ((F.getD i (0,0,0)).1))]),(29,.int .i64 ((i:Nat):Int)),(26,.agg #[.int .i64 ((F.getD i (0,0,0)).2.2),.int .i64 ((F.getD i (0,0,0)).1)]),(25,.map (some b2)),(23,.agg #[.int .i64 ((F.getD i (0,0,0)).2.2),.int .i64 ((F.getD i (0,0,0)).1)]),(22,.map (some b2)),(7,.pointer (some ⟨b10,0,none⟩)),(21,.agg #[.int .i64 ((F.getD i (0,0,0)).2.2),.int .i64 ((F.getD i (0,0,0)).1)]),(20,.bool true),(19,.int .i64 2),(32,.int .i64 2),(18,.agg #[.int .i64 ((F.getD i (0,0,0)).1),.int .i64 ((F.getD i (0,0,0)).2.1),.int .i64 ((F.getD i (0,0,0)).2.1),.int .i64 ((F.getD i (0,0,0)).2.2),.int .i64 ((F.getD i (0,0,0)).2.2),.int .i64 ((F.getD i (0,0,0)).1)]),(4,.int .i64 ((i:Nat):Int)),(12,.int .i64 ((i:Nat):Int)),(11,.int .i64 ((nf:Nat):Int)),(10,.slice pf nf cf),(3,.map (some b2)),(2,.map none)],[rowA 3 (rI .i64) u9_1 u9_2 (lz2++([((i:Nat):Int)])),mapA b2 (fun z:Int×Int=> .agg #[.int .i64 z.1,.int .i64 z.2]) (fun z:Option Addr×Nat×Nat=> .slice z.1 z.2.1 z.2.2) (fun z=>InK .i64 z.1∧InK .i64 z.2) raw2],[emA,allA (mrest 3 (rI .i64) ((min ((F.getD i (0,0,0)).2.2) ((F.getD i (0,0,0)).1)),(max ((F.getD i (0,0,0)).2.2) ((F.getD i (0,0,0)).1))) raw2 Mq1),boxA b10 73 [.int .i64 ((F.getD i (0,0,0)).2.2),.int .i64 ((F.getD i (0,0,0)).1)],emA,boxA b9 73 [.int .i64 ((F.getD i (0,0,0)).2.1),.int .i64 ((F.getD i (0,0,0)).2.2)],emA,boxA b8 73 [.int .i64 ((F.getD i (0,0,0)).1),.int .i64 ((F.getD i (0,0,0)).2.1)],boxA b7 44 [.int .i64 ((F.getD i (0,0,0)).1),.int .i64 ((F.getD i (0,0,0)).2.1),.int .i64 ((F.getD i (0,0,0)).2.2)],boxA b1 25 [.slice pv nv cv,.slice pf nf cf]],[slF (rI .i64) (some ⟨u8_1,0,none⟩) 1 ([((i:Nat):Int)]),slF (rI .i64) (some ⟨u8_1,0,none⟩) 1 ([((i:Nat):Int)]),slF (rI .i64) (some ⟨u8_1,0,none⟩) 1 ([((i:Nat):Int)]),slF (rI3 .i64) pv cv V,slF (rI3 .i64) pf cf F])) ?_ (fun hD1=> ?_)
    ·
     rintro ⟨u8_1,u9_1,u9_2⟩
     dsimp only
     refine zR 10 (by kernel_rfl) ?_
     ·
      refine zwb (zca (i:=1) rfl)<|zpb (A':=fun _=>mapA b2 (fun z:Int×Int=> .agg #[.int .i64 z.1,.int .i64 z.2]) (fun z:Option Addr×Nat×Nat=> .slice z.1 z.2.1 z.2.2) (fun z=>InK .i64 z.1∧InK .i64 z.2) (mput raw2 ((min ((F.getD i (0,0,0)).2.2) ((F.getD i (0,0,0)).1)),(max ((F.getD i (0,0,0)).2.2) ((F.getD i (0,0,0)).1))) (u9_1,lz2.length+1,u9_2))) (by kernel_rfl) rfl rfl rfl (zla (a0:=((min ((F.getD i (0,0,0)).2.2) ((F.getD i (0,0,0)).1)),(max ((F.getD i (0,0,0)).2.2) ((F.getD i (0,0,0)).1)))) (v:=(u9_1,lz2.length+1,u9_2)) ky73 Try.underlying98 rfl rfl rfl (⟨zm.2 (by omega),zm.2 (by omega)⟩)) (fun _ _=> ?_)
      exact zv (hD0 (u8_1,u9_1,u9_2)) (by kernel_rfl) ((.of rfl):SubM _ _) .rfl .rfl ((.of [0,0,0,3,4] rfl):SelR _ _ _)
    refine zS (X:=Nat) (k':=2) (L':=(lb 11 511)) (fun u8_1=>([(30,.slice (some ⟨u8_1,0,none⟩) 1 1),(28,.slice pz2 (lz2.length) cz2),(27,.agg #[.int .i64 (min ((F.getD i (0,0,0)).2.2) ((F.getD i (0,0,0)).1)),.int .i64 (max ((F.getD i (0,0,0)).2.2) ((F.getD i (0,0,0)).1))]),(24,.agg #[.int .i64 (min ((F.getD i (0,0,0)).2.2) ((F.getD i (0,0,0)).1)),.int .i64 (max ((F.getD i (0,0,0)).2.2) ((F.getD i (0,0,0)).1))]),(29,.int .i64 ((i:Nat):Int)),(26,.agg #[.int .i64 ((F.getD i (0,0,0)).2.2),.int .i64 ((F.getD i (0,0,0)).1)]),(25,.map (some b2)),(23,.agg #[.int .i64 ((F.getD i (0,0,0)).2.2),.int .i64 ((F.getD i (0,0,0)).1)]),(22,.map (some b2)),(7,.pointer (some ⟨b10,0,none⟩)),(21,.agg #[.int .i64 ((F.getD i (0,0,0)).2.2),.int .i64 ((F.getD i (0,0,0)).1)]),(20,.bool true),(19,.int .i64 2),(32,.int .i64 2),(31,.slice u9_1 (lz1.length+1) u9_2),(18,.agg #[.int .i64 ((F.getD i (0,0,0)).1),.int .i64 ((F.getD i (0,0,0)).2.1),.int .i64 ((F.getD i (0,0,0)).2.1),.int .i64 ((F.getD i (0,0,0)).2.2),.int .i64 ((F.getD i (0,0,0)).2.2),.int .i64 ((F.getD i (0,0,0)).1)]),(4,.int .i64 ((i:Nat):Int)),(12,.int .i64 ((i:Nat):Int)),(11,.int .i64 ((nf:Nat):Int)),(10,.slice pf nf cf),(3,.map (some b2)),(2,.map none)],[rowA 3 (rI .i64) pz2 cz2 lz2,mapA b2 (fun z:Int×Int=> .agg #[.int .i64 z.1,.int .i64 z.2]) (fun z:Option Addr×Nat×Nat=> .slice z.1 z.2.1 z.2.2) (fun z=>InK .i64 z.1∧InK .i64 z.2) raw2],[emA,allA (mrest 3 (rI .i64) ((min ((F.getD i (0,0,0)).2.2) ((F.getD i (0,0,0)).1)),(max ((F.getD i (0,0,0)).2.2) ((F.getD i (0,0,0)).1))) raw2 Mq1),boxA b10 73 [.int .i64 ((F.getD i (0,0,0)).2.2),.int .i64 ((F.getD i (0,0,0)).1)],emA,boxA b9 73 [.int .i64 ((F.getD i (0,0,0)).2.1),.int .i64 ((F.getD i (0,0,0)).2.2)],emA,boxA b8 73 [.int .i64 ((F.getD i (0,0,0)).1),.int .i64 ((F.getD i (0,0,0)).2.1)],boxA b7 44 [.int .i64 ((F.getD i (0,0,0)).1),.int .i64 ((F.getD i (0,0,0)).2.1),.int .i64 ((F.getD i (0,0,0)).2.2)],boxA b1 25 [.slice pv nv cv,.slice pf nf cf]],[slF (rI .i64) (some ⟨u8_1,0,none⟩) 1 ([((i:Nat):Int)]),slF (rI .i64) (some ⟨u8_1,0,none⟩) 1 ([((i:Nat):Int)]),slF (rI .i64) (some ⟨u8_1,0,none⟩) 1 ([((i:Nat):Int)]),slF (rI3 .i64) pv cv V,slF (rI3 .i64) pf cf F])) ?_ (fun hD2=> ?_)
    ·
     rintro u8_1
     dsimp only
     refine zR 9 (by kernel_rfl) ?_
     ·
      refine zpb (A':=fun v:Option Addr×Nat=>rowA 3 (rI .i64) v.1 v.2 (lz2++([((i:Nat):Int)]))) (by kernel_rfl) rfl rfl rfl (zga 0 rfl Try.underlying50 inf3 (by decide) rfl rfl (by first|rfl|assumption|(simp;done)|omega) rfl (by first|rfl|assumption|(simp;done)|omega) (by omega) (by omega)) ?_
      rintro ⟨u9_1,u9_2⟩ -
      dsimp only [List.append_eq,List.nil_append,List.cons_append]
      exact zv (hD1 (u8_1,u9_1,u9_2)) (by kernel_rfl) ((.of rfl):SubM _ _) .rfl .rfl ((.of [0,0,0,3,4] rfl):SelR _ _ _)
    refine zS (X:=Unit) (k':=3) (L':=(lb 11 255)) (fun _=>([(28,.slice pz2 (lz2.length) cz2),(27,.agg #[.int .i64 (min ((F.getD i (0,0,0)).2.2) ((F.getD i (0,0,0)).1)),.int .i64 (max ((F.getD i (0,0,0)).2.2) ((F.getD i (0,0,0)).1))]),(24,.agg #[.int .i64 (min ((F.getD i (0,0,0)).2.2) ((F.getD i (0,0,0)).1)),.int .i64 (max ((F.getD i (0,0,0)).2.2) ((F.getD i (0,0,0)).1))]),(29,.int .i64 ((i:Nat):Int)),(26,.agg #[.int .i64 ((F.getD i (0,0,0)).2.2),.int .i64 ((F.getD i (0,0,0)).1)]),(25,.map (some b2)),(23,.agg #[.int .i64 ((F.getD i (0,0,0)).2.2),.int .i64 ((F.getD i (0,0,0)).1)]),(22,.map (some b2)),(7,.pointer (some ⟨b10,0,none⟩)),(21,.agg #[.int .i64 ((F.getD i (0,0,0)).2.2),.int .i64 ((F.getD i (0,0,0)).1)]),(20,.bool true),(19,.int .i64 2),(32,.int .i64 2),(31,.slice u9_1 (lz1.length+1) u9_2),(30,.slice (some ⟨u8_1,0,none⟩) 1 1),(18,.agg #[.int .i64 ((F.getD i (0,0,0)).1),.int .i64 ((F.getD i (0,0,0)).2.1),.int .i64 ((F.getD i (0,0,0)).2.1),.int .i64 ((F.getD i (0,0,0)).2.2),.int .i64 ((F.getD i (0,0,0)).2.2),.int .i64 ((F.getD i (0,0,0)).1)]),(4,.int .i64 ((i:Nat):Int)),(12,.int .i64 ((i:Nat):Int)),(11,.int .i64 ((nf:Nat):Int)),(10,.slice pf nf cf),(3,.map (some b2)),(2,.map none)],[rowA 3 (rI .i64) pz2 cz2 lz2,mapA b2 (fun z:Int×Int=> .agg #[.int .i64 z.1,.int .i64 z.2]) (fun z:Option Addr×Nat×Nat=> .slice z.1 z.2.1 z.2.2) (fun z=>InK .i64 z.1∧InK .i64 z.2) raw2],[allA (mrest 3 (rI .i64) ((min ((F.getD i (0,0,0)).2.2) ((F.getD i (0,0,0)).1)),(max ((F.getD i (0,0,0)).2.2) ((F.getD i (0,0,0)).1))) raw2 Mq1),boxA b10 73 [.int .i64 ((F.getD i (0,0,0)).2.2),.int .i64 ((F.getD i (0,0,0)).1)],emA,boxA b9 73 [.int .i64 ((F.getD i (0,0,0)).2.1),.int .i64 ((F.getD i (0,0,0)).2.2)],emA,boxA b8 73 [.int .i64 ((F.getD i (0,0,0)).1),.int .i64 ((F.getD i (0,0,0)).2.1)],boxA b7 44 [.int .i64 ((F.getD i (0,0,0)).1),.int .i64 ((F.getD i (0,0,0)).2.1),.int .i64 ((F.getD i (0,0,0)).2.2)],boxA b1 25 [.slice pv nv cv,.slice pf nf cf]],[slF (rI .i64) (some ⟨u8_1,0,none⟩) 1 ([((i:Nat):Int)]),slF (rI .i64) (some ⟨u8_1,0,none⟩) 1 ([((i:Nat):Int)]),slF (rI3 .i64) pv cv V,slF (rI3 .i64) pf cf F])) ?_ (fun hD3=> ?_)
    ·
     rintro ⟨⟩
     dsimp only
     refine zR 8 (by kernel_rfl) ?_
     ·
      refine zBb rfl rfl rfl rfl (zz (enc:=fun z:Int=>[.int .i64 z]) (ok:=InK .i64) (h1:=fun _=>rfl) (h2:=fun _=>rfl) (k:=1) Try.underlying50 inf3 rfl (by decide) (by decide) (by decide) (.c (x:=((i:Nat):Int)) rfl rfl (fun _ _=>by exact zm.2 (by omega)) .n)) (fun u8_1 _=> ?_)
      refine zMa 0 rfl .z ?_
      exact zv (hD2 u8_1) (by kernel_rfl) ((.of rfl):SubM _ _) .rfl .rfl ((.of [0,0,0,3,4] rfl):SelR _ _ _)
    refine zS (X:=Nat) (k':=4) (L':=(lb 11 415)) (fun u8_1=>([(30,.slice (some ⟨u8_1,0,none⟩) 1 1),(24,.agg #[.int .i64 (min ((F.getD i (0,0,0)).2.2) ((F.getD i (0,0,0)).1)),.int .i64 (max ((F.getD i (0,0,0)).2.2) ((F.getD i (0,0,0)).1))]),(29,.int .i64 ((i:Nat):Int)),(26,.agg #[.int .i64 ((F.getD i (0,0,0)).2.2),.int .i64 ((F.getD i (0,0,0)).1)]),(25,.map (some b2)),(23,.agg #[.int .i64 ((F.getD i (0,0,0)).2.2),.int .i64 ((F.getD i (0,0,0)).1)]),(22,.map (some b2)),(7,.pointer (some ⟨b10,0,none⟩)),(21,.agg #[.int .i64 ((F.getD i (0,0,0)).2.2),.int .i64 ((F.getD i (0,0,0)).1)]),(20,.bool true),(19,.int .i64 2),(32,.int .i64 2),(31,.slice u9_1 (lz1.length+1) u9_2),(28,.slice pz1 (lz1.length) cz1),(27,.agg #[.int .i64 qd1,.int .i64 qd2]),(18,.agg #[.int .i64 ((F.getD i (0,0,0)).1),.int .i64 ((F.getD i (0,0,0)).2.1),.int .i64 ((F.getD i (0,0,0)).2.1),.int .i64 ((F.getD i (0,0,0)).2.2),.int .i64 ((F.getD i (0,0,0)).2.2),.int .i64 ((F.getD i (0,0,0)).1)]),(4,.int .i64 ((i:Nat):Int)),(12,.int .i64 ((i:Nat):Int)),(11,.int .i64 ((nf:Nat):Int)),(10,.slice pf nf cf),(3,.map (some b2)),(2,.map none)],[rowA 3 (rI .i64) pz2 cz2 lz2,mapA b2 (fun z:Int×Int=> .agg #[.int .i64 z.1,.int .i64 z.2]) (fun z:Option Addr×Nat×Nat=> .slice z.1 z.2.1 z.2.2) (fun z=>InK .i64 z.1∧InK .i64 z.2) raw2],[emA,allA (mrest 3 (rI .i64) ((min ((F.getD i (0,0,0)).2.2) ((F.getD i (0,0,0)).1)),(max ((F.getD i (0,0,0)).2.2) ((F.getD i (0,0,0)).1))) raw2 Mq1),boxA b10 73 [.int .i64 ((F.getD i (0,0,0)).2.2),.int .i64 ((F.getD i (0,0,0)).1)],emA,boxA b9 73 [.int .i64 ((F.getD i (0,0,0)).2.1),.int .i64 ((F.getD i (0,0,0)).2.2)],emA,boxA b8 73 [.int .i64 ((F.getD i (0,0,0)).1),.int .i64 ((F.getD i (0,0,0)).2.1)],boxA b7 44 [.int .i64 ((F.getD i (0,0,0)).1),.int .i64 ((F.getD i (0,0,0)).2.1),.int .i64 ((F.getD i (0,0,0)).2.2)],boxA b1 25 [.slice pv nv cv,.slice pf nf cf]],[slF (rI .i64) (some ⟨u8_1,0,none⟩) 1 ([((i:Nat):Int)]),slF (rI .i64) (some ⟨u8_1,0,none⟩) 1 ([((i:Nat):Int)]),slF (rI .i64) (some ⟨u8_1,0,none⟩) 1 ([((i:Nat):Int)]),slF (rI3 .i64) pv cv V,slF (rI3 .i64) pf cf F])) ?_ (fun hD4=> ?_)
    ·
     rintro u8_1
     dsimp only
     refine zR 5 (by kernel_rfl) ?_
     ·
      refine zDa rfl rfl rfl rfl (.c rfl .n) ce75 (zHa (ex:=((F.getD i (0,0,0)).2.2)) (ey:=((F.getD i (0,0,0)).1))) (.n)<|d_uw 6 rfl rfl (by kernel_rfl) (by kernel_rfl) (by kernel_rfl) rfl rfl (zza (z:=(none,0,0)) (a0:=((min ((F.getD i (0,0,0)).2.2) ((F.getD i (0,0,0)).1)),(max ((F.getD i (0,0,0)).2.2) ((F.getD i (0,0,0)).1)))) (v:= .slice pz2 (lz2.length) cz2) 1 rfl ky73 Try.underlying98 zr50 rfl rfl (⟨zm.2 (by omega),zm.2 (by omega)⟩) (by rw [hgt2])) ?_
      exact zv (hD2 u8_1) (by kernel_rfl) ((.of rfl):SubM _ _) .rfl .rfl ((.of [0,0,0,3,4] rfl):SelR _ _ _)
    refine zS (X:=Unit) (k':=5) (L':=(lb 11 159)) (fun _=>([(24,.agg #[.int .i64 (min ((F.getD i (0,0,0)).2.2) ((F.getD i (0,0,0)).1)),.int .i64 (max ((F.getD i (0,0,0)).2.2) ((F.getD i (0,0,0)).1))]),(29,.int .i64 ((i:Nat):Int)),(26,.agg #[.int .i64 ((F.getD i (0,0,0)).2.2),.int .i64 ((F.getD i (0,0,0)).1)]),(25,.map (some b2)),(23,.agg #[.int .i64 ((F.getD i (0,0,0)).2.2),.int .i64 ((F.getD i (0,0,0)).1)]),(22,.map (some b2)),(7,.pointer (some ⟨b10,0,none⟩)),(21,.agg #[.int .i64 ((F.getD i (0,0,0)).2.2),.int .i64 ((F.getD i (0,0,0)).1)]),(20,.bool true),(19,.int .i64 2),(32,.int .i64 2),(31,.slice u9_1 (lz1.length+1) u9_2),(30,.slice (some ⟨u8_1,0,none⟩) 1 1),(28,.slice pz1 (lz1.length) cz1),(27,.agg #[.int .i64 qd1,.int .i64 qd2]),(18,.agg #[.int .i64 ((F.getD i (0,0,0)).1),.int .i64 ((F.getD i (0,0,0)).2.1),.int .i64 ((F.getD i (0,0,0)).2.1),.int .i64 ((F.getD i (0,0,0)).2.2),.int .i64 ((F.getD i (0,0,0)).2.2),.int .i64 ((F.getD i (0,0,0)).1)]),(4,.int .i64 ((i:Nat):Int)),(12,.int .i64 ((i:Nat):Int)),(11,.int .i64 ((nf:Nat):Int)),(10,.slice pf nf cf),(3,.map (some b2)),(2,.map none)],[rowA 3 (rI .i64) pz2 cz2 lz2,mapA b2 (fun z:Int×Int=> .agg #[.int .i64 z.1,.int .i64 z.2]) (fun z:Option Addr×Nat×Nat=> .slice z.1 z.2.1 z.2.2) (fun z=>InK .i64 z.1∧InK .i64 z.2) raw2],[allA (mrest 3 (rI .i64) ((min ((F.getD i (0,0,0)).2.2) ((F.getD i (0,0,0)).1)),(max ((F.getD i (0,0,0)).2.2) ((F.getD i (0,0,0)).1))) raw2 Mq1),boxA b10 73 [.int .i64 ((F.getD i (0,0,0)).2.2),.int .i64 ((F.getD i (0,0,0)).1)],emA,boxA b9 73 [.int .i64 ((F.getD i (0,0,0)).2.1),.int .i64 ((F.getD i (0,0,0)).2.2)],emA,boxA b8 73 [.int .i64 ((F.getD i (0,0,0)).1),.int .i64 ((F.getD i (0,0,0)).2.1)],boxA b7 44 [.int .i64 ((F.getD i (0,0,0)).1),.int .i64 ((F.getD i (0,0,0)).2.1),.int .i64 ((F.getD i (0,0,0)).2.2)],boxA b1 25 [.slice pv nv cv,.slice pf nf cf]],[slF (rI .i64) (some ⟨u8_1,0,none⟩) 1 ([((i:Nat):Int)]),slF (rI .i64) (some ⟨u8_1,0,none⟩) 1 ([((i:Nat):Int)]),slF (rI3 .i64) pv cv V,slF (rI3 .i64) pf cf F])) ?_ (fun hD5=> ?_)
    ·
     rintro ⟨⟩
     dsimp only
     refine zcb 5 8 (by kernel_rfl) ?_ ?_
     ·
      refine zDa rfl rfl rfl rfl (.c rfl .n) ce75 (zHa (ex:=((F.getD i (0,0,0)).2.2)) (ey:=((F.getD i (0,0,0)).1))) (.n)<|d_uw 6 rfl rfl (by kernel_rfl) (by kernel_rfl) (by kernel_rfl) rfl rfl (zza (z:=(none,0,0)) (a0:=((min ((F.getD i (0,0,0)).2.2) ((F.getD i (0,0,0)).1)),(max ((F.getD i (0,0,0)).2.2) ((F.getD i (0,0,0)).1)))) (v:= .slice pz2 (lz2.length) cz2) 1 rfl ky73 Try.underlying98 zr50 rfl rfl (⟨zm.2 (by omega),zm.2 (by omega)⟩) (by rw [hgt2])) ?_
      exact zv (hD3 ()) (by kernel_rfl) ((.of rfl):SubM _ _) .rfl .rfl ((.of [0,0,2,3] rfl):SelR _ _ _)
     ·
      refine zBb rfl rfl rfl rfl (zz (enc:=fun z:Int=>[.int .i64 z]) (ok:=InK .i64) (h1:=fun _=>rfl) (h2:=fun _=>rfl) (k:=1) Try.underlying50 inf3 rfl (by decide) (by decide) (by decide) (.c (x:=((i:Nat):Int)) rfl rfl (fun _ _=>by exact zm.2 (by omega)) .n)) (fun u8_1 _=> ?_)
      refine zMa 0 rfl .z ?_
      exact zv (hD4 u8_1) (by kernel_rfl) ((.of rfl):SubM _ _) .rfl .rfl ((.of [0,0,0,3,4] rfl):SelR _ _ _)
    refine zS (X:=Nat) (k':=5) (L':=(lb 11 411)) (fun u8_1=>([(30,.slice (some ⟨u8_1,0,none⟩) 1 1),(29,.int .i64 ((i:Nat):Int)),(26,.agg #[.int .i64 ((F.getD i (0,0,0)).2.2),.int .i64 ((F.getD i (0,0,0)).1)]),(25,.map (some b2)),(23,.agg #[.int .i64 ((F.getD i (0,0,0)).2.2),.int .i64 ((F.getD i (0,0,0)).1)]),(22,.map (some b2)),(7,.pointer (some ⟨b10,0,none⟩)),(21,.agg #[.int .i64 ((F.getD i (0,0,0)).2.2),.int .i64 ((F.getD i (0,0,0)).1)]),(20,.bool true),(19,.int .i64 2),(32,.int .i64 2),(31,.slice u9_1 (lz1.length+1) u9_2),(28,.slice pz1 (lz1.length) cz1),(27,.agg #[.int .i64 qd1,.int .i64 qd2]),(24,.agg #[.int .i64 qd1,.int .i64 qd2]),(18,.agg #[.int .i64 ((F.getD i (0,0,0)).1),.int .i64 ((F.getD i (0,0,0)).2.1),.int .i64 ((F.getD i (0,0,0)).2.1),.int .i64 ((F.getD i (0,0,0)).2.2),.int .i64 ((F.getD i (0,0,0)).2.2),.int .i64 ((F.getD i (0,0,0)).1)]),(4,.int .i64 ((i:Nat):Int)),(12,.int .i64 ((i:Nat):Int)),(11,.int .i64 ((nf:Nat):Int)),(10,.slice pf nf cf),(3,.map (some b2)),(2,.map none)],[rowA 3 (rI .i64) pz2 cz2 lz2,mapA b2 (fun z:Int×Int=> .agg #[.int .i64 z.1,.int .i64 z.2]) (fun z:Option Addr×Nat×Nat=> .slice z.1 z.2.1 z.2.2) (fun z=>InK .i64 z.1∧InK .i64 z.2) raw2],[emA,allA (mrest 3 (rI .i64) ((min ((F.getD i (0,0,0)).2.2) ((F.getD i (0,0,0)).1)),(max ((F.getD i (0,0,0)).2.2) ((F.getD i (0,0,0)).1))) raw2 Mq1),boxA b10 73 [.int .i64 ((F.getD i (0,0,0)).2.2),.int .i64 ((F.getD i (0,0,0)).1)],emA,boxA b9 73 [.int .i64 ((F.getD i (0,0,0)).2.1),.int .i64 ((F.getD i (0,0,0)).2.2)],emA,boxA b8 73 [.int .i64 ((F.getD i (0,0,0)).1),.int .i64 ((F.getD i (0,0,0)).2.1)],boxA b7 44 [.int .i64 ((F.getD i (0,0,0)).1),.int .i64 ((F.getD i (0,0,0)).2.1),.int .i64 ((F.getD i (0,0,0)).2.2)],boxA b1 25 [.slice pv nv cv,.slice pf nf cf]],[slF (rI .i64) (some ⟨u8_1,0,none⟩) 1 ([((i:Nat):Int)]),slF (rI .i64) (some ⟨u8_1,0,none⟩) 1 ([((i:Nat):Int)]),slF (rI .i64) (some ⟨u8_1,0,none⟩) 1 ([((i:Nat):Int)]),slF (rI3 .i64) pv cv V,slF (rI3 .i64) pf cf F])) ?_ (fun hD6=> ?_)
    ·
     rintro u8_1
     dsimp only
     refine zR 2 (by kernel_rfl) ?_
     ·
      refine zDa rfl rfl rfl rfl (.c rfl .n) ce75 (zHa (ex:=((F.getD i (0,0,0)).2.2)) (ey:=((F.getD i (0,0,0)).1))) (.n) ?_
      exact zv (hD4 u8_1) (by kernel_rfl) ((.of rfl):SubM _ _) .rfl .rfl ((.of [0,0,0,3,4] rfl):SelR _ _ _)
    refine zcb 2 8 (by kernel_rfl) ?_ ?_
    ·
     refine zDa rfl rfl rfl rfl (.c rfl .n) ce75 (zHa (ex:=((F.getD i (0,0,0)).2.2)) (ey:=((F.getD i (0,0,0)).1))) (.n) ?_
     exact zv (hD5 ()) (by kernel_rfl) ((.of rfl):SubM _ _) .rfl .rfl ((.of [0,0,2,3] rfl):SelR _ _ _)
    ·
     refine zBb rfl rfl rfl rfl (zz (enc:=fun z:Int=>[.int .i64 z]) (ok:=InK .i64) (h1:=fun _=>rfl) (h2:=fun _=>rfl) (k:=1) Try.underlying50 inf3 rfl (by decide) (by decide) (by decide) (.c (x:=((i:Nat):Int)) rfl rfl (fun _ _=>by exact zm.2 (by omega)) .n)) (fun u8_1 _=> ?_)
     refine zMa 0 rfl .z ?_
     exact zv (hD6 u8_1) (by kernel_rfl) ((.of rfl):SubM _ _) .rfl .rfl ((.of [0,0,0,3,4] rfl):SelR _ _ _)
   refine zS (X:=Nat×Option Addr×Nat) (k':=1) (L':=(lb 11 1023)) (fun (u8_1,u9_1,u9_2)=>([(31,.slice u9_1 (lz1.length+1) u9_2),(30,.slice (some ⟨u8_1,0,none⟩) 1 1),(28,.slice pz1 (lz1.length) cz1),(27,.agg #[.int .i64 (min ((F.getD i (0,0,0)).2.1) ((F.getD i (0,0,0)).2.2)),.int .i64 (max ((F.getD i (0,0,0)).2.1) ((F.getD i (0,0,0)).2.2))]),(24,.agg #[.int .i64 (min ((F.getD i (0,0,0)).2.1) ((F.getD i (0,0,0)).2.2)),.int .i64 (max ((F.getD i (0,0,0)).2.1) ((F.getD i (0,0,0)).2.2))]),(29,.int .i64 ((i:Nat):Int)),(26,.agg #[.int .i64 ((F.getD i (0,0,0)).2.1),.int .i64 ((F.getD i (0,0,0)).2.2)]),(25,.map (some b2)),(23,.agg #[.int .i64 ((F.getD i (0,0,0)).2.1),.int .i64 ((F.getD i (0,0,0)).2.2)]),(22,.map (some b2)),(7,.pointer (some ⟨b9,0,none⟩)),(21,.agg #[.int .i64 ((F.getD i (0,0,0)).2.1),.int .i64 ((F.getD i (0,0,0)).2.2)]),(20,.bool true),(19,.int .i64 1),(32,.int .i64 1),(18,.agg #[.int .i64 ((F.getD i (0,0,0)).1),.int .i64 ((F.getD i (0,0,0)).2.1),.int .i64 ((F.getD i (0,0,0)).2.1),.int .i64 ((F.getD i (0,0,0)).2.2),.int .i64 ((F.getD i (0,0,0)).2.2),.int .i64 ((F.getD i (0,0,0)).1)]),(4,.int .i64 ((i:Nat):Int)),(12,.int .i64 ((i:Nat):Int)),(11,.int .i64 ((nf:Nat):Int)),(10,.slice pf nf cf),(3,.map (some b2)),(2,.map none)],[rowA 3 (rI .i64) u9_1 u9_2 (lz1++([((i:Nat):Int)])),mapA b2 (fun z:Int×Int=> .agg #[.int .i64 z.1,.int .i64 z.2]) (fun z:Option Addr×Nat×Nat=> .slice z.1 z.2.1 z.2.2) (fun z=>InK .i64 z.1∧InK .i64 z.2) raw1],[emA,allA (mrest 3 (rI .i64) ((min ((F.getD i (0,0,0)).2.1) ((F.getD i (0,0,0)).2.2)),(max ((F.getD i (0,0,0)).2.1) ((F.getD i (0,0,0)).2.2))) raw1 Mq0),boxA b9 73 [.int .i64 ((F.getD i (0,0,0)).2.1),.int .i64 ((F.getD i (0,0,0)).2.2)],emA,boxA b8 73 [.int .i64 ((F.getD i (0,0,0)).1),.int .i64 ((F.getD i (0,0,0)).2.1)],boxA b7 44 [.int .i64 ((F.getD i (0,0,0)).1),.int .i64 ((F.getD i (0,0,0)).2.1),.int .i64 ((F.getD i (0,0,0)).2.2)],boxA b1 25 [.slice pv nv cv,.slice pf nf cf]],[slF (rI .i64) (some ⟨u8_1,0,none⟩) 1 ([((i:Nat):Int)]),slF (rI .i64) (some ⟨u8_1,0,none⟩) 1 ([((i:Nat):Int)]),slF (rI3 .i64) pv cv V,slF (rI3 .i64) pf cf F])) ?_ (fun hD1=> ?_)
   ·
    rintro ⟨u8_1,u9_1,u9_2⟩
    dsimp only
    refine zR 10 (by kernel_rfl) ?_
    ·
     refine zwb (zca (i:=1) rfl)<|zpb (A':=fun _=>mapA b2 (fun z:Int×Int=> .agg #[.int .i64 z.1,.int .i64 z.2]) (fun z:Option Addr×Nat×Nat=> .slice z.1 z.2.1 z.2.2) (fun z=>InK .i64 z.1∧InK .i64 z.2) (mput raw1 ((min ((F.getD i (0,0,0)).2.1) ((F.getD i (0,0,0)).2.2)),(max ((F.getD i (0,0,0)).2.1) ((F.getD i (0,0,0)).2.2))) (u9_1,lz1.length+1,u9_2))) (by kernel_rfl) rfl rfl rfl (zla (a0:=((min ((F.getD i (0,0,0)).2.1) ((F.getD i (0,0,0)).2.2)),(max ((F.getD i (0,0,0)).2.1) ((F.getD i (0,0,0)).2.2)))) (v:=(u9_1,lz1.length+1,u9_2)) ky73 Try.underlying98 rfl rfl rfl (⟨zm.2 (by omega),zm.2 (by omega)⟩)) (fun _ _=> ?_)
     exact zv (hD0 (u8_1,u9_1,u9_2)) (by kernel_rfl) ((.of rfl):SubM _ _) .rfl .rfl ((.of [0,0,2,3] rfl):SelR _ _ _)
   refine zS (X:=Nat) (k':=2) (L':=(lb 11 511)) (fun u8_1=>([(30,.slice (some ⟨u8_1,0,none⟩) 1 1),(28,.slice pz1 (lz1.length) cz1),(27,.agg #[.int .i64 (min ((F.getD i (0,0,0)).2.1) ((F.getD i (0,0,0)).2.2)),.int .i64 (max ((F.getD i (0,0,0)).2.1) ((F.getD i (0,0,0)).2.2))]),(24,.agg #[.int .i64 (min ((F.getD i (0,0,0)).2.1) ((F.getD i (0,0,0)).2.2)),.int .i64 (max ((F.getD i (0,0,0)).2.1) ((F.getD i (0,0,0)).2.2))]),(29,.int .i64 ((i:Nat):Int)),(26,.agg #[.int .i64 ((F.getD i (0,0,0)).2.1),.int .i64 ((F.getD i (0,0,0)).2.2)]),(25,.map (some b2)),(23,.agg #[.int .i64 ((F.getD i (0,0,0)).2.1),.int .i64 ((F.getD i (0,0,0)).2.2)]),(22,.map (some b2)),(7,.pointer (some ⟨b9,0,none⟩)),(21,.agg #[.int .i64 ((F.getD i (0,0,0)).2.1),.int .i64 ((F.getD i (0,0,0)).2.2)]),(20,.bool true),(19,.int .i64 1),(32,.int .i64 1),(31,.slice u9_1 (lz0.length+1) u9_2),(18,.agg #[.int .i64 ((F.getD i (0,0,0)).1),.int .i64 ((F.getD i (0,0,0)).2.1),.int .i64 ((F.getD i (0,0,0)).2.1),.int .i64 ((F.getD i (0,0,0)).2.2),.int .i64 ((F.getD i (0,0,0)).2.2),.int .i64 ((F.getD i (0,0,0)).1)]),(4,.int .i64 ((i:Nat):Int)),(12,.int .i64 ((i:Nat):Int)),(11,.int .i64 ((nf:Nat):Int)),(10,.slice pf nf cf),(3,.map (some b2)),(2,.map none)],[rowA 3 (rI .i64) pz1 cz1 lz1,mapA b2 (fun z:Int×Int=> .agg #[.int .i64 z.1,.int .i64 z.2]) (fun z:Option Addr×Nat×Nat=> .slice z.1 z.2.1 z.2.2) (fun z=>InK .i64 z.1∧InK .i64 z.2) raw1],[emA,allA (mrest 3 (rI .i64) ((min ((F.getD i (0,0,0)).2.1) ((F.getD i (0,0,0)).2.2)),(max ((F.getD i (0,0,0)).2.1) ((F.getD i (0,0,0)).2.2))) raw1 Mq0),boxA b9 73 [.int .i64 ((F.getD i (0,0,0)).2.1),.int .i64 ((F.getD i (0,0,0)).2.2)],emA,boxA b8 73 [.int .i64 ((F.getD i (0,0,0)).1),.int .i64 ((F.getD i (0,0,0)).2.1)],boxA b7 44 [.int .i64 ((F.getD i (0,0,0)).1),.int .i64 ((F.getD i (0,0,0)).2.1),.int .i64 ((F.getD i (0,0,0)).2.2)],boxA b1 25 [.slice pv nv cv,.slice pf nf cf]],[slF (rI .i64) (some ⟨u8_1,0,none⟩) 1 ([((i:Nat):Int)]),slF (rI .i64) (some ⟨u8_1,0,none⟩) 1 ([((i:Nat):Int)]),slF (rI3 .i64) pv cv V,slF (rI3 .i64) pf cf F])) ?_ (fun hD2=> ?_)
   ·
    rintro u8_1
    dsimp only
    refine zR 9 (by kernel_rfl) ?_
    ·
     refine zpb (A':=fun v:Option Addr×Nat=>rowA 3 (rI .i64) v.1 v.2 (lz1++([((i:Nat):Int)]))) (by kernel_rfl) rfl rfl rfl (zga 0 rfl Try.underlying50 inf3 (by decide) rfl rfl (by first|rfl|assumption|(simp;done)|omega) rfl (by first|rfl|assumption|(simp;done)|omega) (by omega) (by omega)) ?_
     rintro ⟨u9_1,u9_2⟩ -
     dsimp only [List.append_eq,List.nil_append,List.cons_append]
     exact zv (hD1 (u8_1,u9_1,u9_2)) (by kernel_rfl) ((.of rfl):SubM _ _) .rfl .rfl ((.of [0,0,2,3] rfl):SelR _ _ _)
   refine zS (X:=Unit) (k':=3) (L':=(lb 11 255)) (fun _=>([(28,.slice pz1 (lz1.length) cz1),(27,.agg #[.int .i64 (min ((F.getD i (0,0,0)).2.1) ((F.getD i (0,0,0)).2.2)),.int .i64 (max ((F.getD i (0,0,0)).2.1) ((F.getD i (0,0,0)).2.2))]),(24,.agg #[.int .i64 (min ((F.getD i (0,0,0)).2.1) ((F.getD i (0,0,0)).2.2)),.int .i64 (max ((F.getD i (0,0,0)).2.1) ((F.getD i (0,0,0)).2.2))]),(29,.int .i64 ((i:Nat):Int)),(26,.agg #[.int .i64 ((F.getD i (0,0,0)).2.1),.int .i64 ((F.getD i (0,0,0)).2.2)]),(25,.map (some b2)),(23,.agg #[.int .i64 ((F.getD i (0,0,0)).2.1),.int .i64 ((F.getD i (0,0,0)).2.2)]),(22,.map (some b2)),(7,.pointer (some ⟨b9,0,none⟩)),(21,.agg #[.int .i64 ((F.getD i (0,0,0)).2.1),.int .i64 ((F.getD i (0,0,0)).2.2)]),(20,.bool true),(19,.int .i64 1),(32,.int .i64 1),(31,.slice u9_1 (lz0.length+1) u9_2),(30,.slice (some ⟨u8_1,0,none⟩) 1 1),(18,.agg #[.int .i64 ((F.getD i (0,0,0)).1),.int .i64 ((F.getD i (0,0,0)).2.1),.int .i64 ((F.getD i (0,0,0)).2.1),.int .i64 ((F.getD i (0,0,0)).2.2),.int .i64 ((F.getD i (0,0,0)).2.2),.int .i64 ((F.getD i (0,0,0)).1)]),(4,.int .i64 ((i:Nat):Int)),(12,.int .i64 ((i:Nat):Int)),(11,.int .i64 ((nf:Nat):Int)),(10,.slice pf nf cf),(3,.map (some b2)),(2,.map none)],[rowA 3 (rI .i64) pz1 cz1 lz1,mapA b2 (fun z:Int×Int=> .agg #[.int .i64 z.1,.int .i64 z.2]) (fun z:Option Addr×Nat×Nat=> .slice z.1 z.2.1 z.2.2) (fun z=>InK .i64 z.1∧InK .i64 z.2) raw1],[allA (mrest 3 (rI .i64) ((min ((F.getD i (0,0,0)).2.1) ((F.getD i (0,0,0)).2.2)),(max ((F.getD i (0,0,0)).2.1) ((F.getD i (0,0,0)).2.2))) raw1 Mq0),boxA b9 73 [.int .i64 ((F.getD i (0,0,0)).2.1),.int .i64 ((F.getD i (0,0,0)).2.2)],emA,boxA b8 73 [.int .i64 ((F.getD i (0,0,0)).1),.int .i64 ((F.getD i (0,0,0)).2.1)],boxA b7 44 [.int .i64 ((F.getD i (0,0,0)).1),.int .i64 ((F.getD i (0,0,0)).2.1),.int .i64 ((F.getD i (0,0,0)).2.2)],boxA b1 25 [.slice pv nv cv,.slice pf nf cf]],[slF (rI .i64) (some ⟨u8_1,0,none⟩) 1 ([((i:Nat):Int)]),slF (rI3 .i64) pv cv V,slF (rI3 .i64) pf cf F])) ?_ (fun hD3=> ?_)
   ·
    rintro ⟨⟩
    dsimp only
    refine zR 8 (by kernel_rfl) ?_
    ·
     refine zBb rfl rfl rfl rfl (zz (enc:=fun z:Int=>[.int .i64 z]) (ok:=InK .i64) (h1:=fun _=>rfl) (h2:=fun _=>rfl) (k:=1) Try.underlying50 inf3 rfl (by decide) (by decide) (by decide) (.c (x:=((i:Nat):Int)) rfl rfl (fun _ _=>by exact zm.2 (by omega)) .n)) (fun u8_1 _=> ?_)
     refine zMa 0 rfl .z ?_
     exact zv (hD2 u8_1) (by kernel_rfl) ((.of rfl):SubM _ _) .rfl .rfl ((.of [0,0,2,3] rfl):SelR _ _ _)
   refine zS (X:=Nat) (k':=4) (L':=(lb 11 415)) (fun u8_1=>([(30,.slice (some ⟨u8_1,0,none⟩) 1 1),(24,.agg #[.int .i64 (min ((F.getD i (0,0,0)).2.1) ((F.getD i (0,0,0)).2.2)),.int .i64 (max ((F.getD i (0,0,0)).2.1) ((F.getD i (0,0,0)).2.2))]),(29,.int .i64 ((i:Nat):Int)),(26,.agg #[.int .i64 ((F.getD i (0,0,0)).2.1),.int .i64 ((F.getD i (0,0,0)).2.2)]),(25,.map (some b2)),(23,.agg #[.int .i64 ((F.getD i (0,0,0)).2.1),.int .i64 ((F.getD i (0,0,0)).2.2)]),(22,.map (some b2)),(7,.pointer (some ⟨b9,0,none⟩)),(21,.agg #[.int .i64 ((F.getD i (0,0,0)).2.1),.int .i64 ((F.getD i (0,0,0)).2.2)]),(20,.bool true),(19,.int .i64 1),(32,.int .i64 1),(31,.slice u9_1 (lz0.length+1) u9_2),(28,.slice pz0 (lz0.length) cz0),(27,.agg #[.int .i64 qd1,.int .i64 qd2]),(18,.agg #[.int .i64 ((F.getD i (0,0,0)).1),.int .i64 ((F.getD i (0,0,0)).2.1),.int .i64 ((F.getD i (0,0,0)).2.1),.int .i64 ((F.getD i (0,0,0)).2.2),.int .i64 ((F.getD i (0,0,0)).2.2),.int .i64 ((F.getD i (0,0,0)).1)]),(4,.int .i64 ((i:Nat):Int)),(12,.int .i64 ((i:Nat):Int)),(11,.int .i64 ((nf:Nat):Int)),(10,.slice pf nf cf),(3,.map (some b2)),(2,.map none)],[rowA 3 (rI .i64) pz1 cz1 lz1,mapA b2 (fun z:Int×Int=> .agg #[.int .i64 z.1,.int .i64 z.2]) (fun z:Option Addr×Nat×Nat=> .slice z.1 z.2.1 z.2.2) (fun z=>InK .i64 z.1∧InK .i64 z.2) raw1],[emA,allA (mrest 3 (rI .i64) ((min ((F.getD i (0,0,0)).2.1) ((F.getD i (0,0,0)).2.2)),(max ((F.getD i (0,0,0)).2.1) ((F.getD i (0,0,0)).2.2))) raw1 Mq0),boxA b9 73 [.int .i64 ((F.getD i (0,0,0)).2.1),.int .i64 ((F.getD i (0,0,0)).2.2)],emA,boxA b8 73 [.int .i64 ((F.getD i (0,0,0)).1),.int .i64 ((F.getD i (0,0,0)).2.1)],boxA b7 44 [.int .i64 ((F.getD i (0,0,0)).1),.int .i64 ((F.getD i (0,0,0)).2.1),.int .i64 ((F.getD i (0,0,0)).2.2)],boxA b1 25 [.slice pv nv cv,.slice pf nf cf]],[slF (rI .i64) (some ⟨u8_1,0,none⟩) 1 ([((i:Nat):Int)]),slF (rI .i64) (some ⟨u8_1,0,none⟩) 1 ([((i:Nat):Int)]),slF (rI3 .i64) pv cv V,slF (rI3 .i64) pf cf F])) ?_ (fun hD4=> ?_)
   ·
    rintro u8_1
    dsimp only
    refine zR 5 (by kernel_rfl) ?_
    ·
     refine zDa rfl rfl rfl rfl (.c rfl .n) ce75 (zHa (ex:=((F.getD i (0,0,0)).2.1)) (ey:=((F.getD i (0,0,0)).2.2))) (.n)<|d_uw 6 rfl rfl (by kernel_rfl) (by kernel_rfl) (by kernel_rfl) rfl rfl (zza (z:=(none,0,0)) (a0:=((min ((F.getD i (0,0,0)).2.1) ((F.getD i (0,0,0)).2.2)),(max ((F.getD i (0,0,0)).2.1) ((F.getD i (0,0,0)).2.2)))) (v:= .slice pz1 (lz1.length) cz1) 1 rfl ky73 Try.underlying98 zr50 rfl rfl (⟨zm.2 (by omega),zm.2 (by omega)⟩) (by rw [hgt1])) ?_
     exact zv (hD2 u8_1) (by kernel_rfl) ((.of rfl):SubM _ _) .rfl .rfl ((.of [0,0,2,3] rfl):SelR _ _ _)
   refine zS (X:=Unit) (k':=5) (L':=(lb 11 159)) (fun _=>([(24,.agg #[.int .i64 (min ((F.getD i (0,0,0)).2.1) ((F.getD i (0,0,0)).2.2)),.int .i64 (max ((F.getD i (0,0,0)).2.1) ((F.getD i (0,0,0)).2.2))]),(29,.int .i64 ((i:Nat):Int)),(26,.agg #[.int .i64 ((F.getD i (0,0,0)).2.1),.int .i64 ((F.getD i (0,0,0)).2.2)]),(25,.map (some b2)),(23,.agg #[.int .i64 ((F.getD i (0,0,0)).2.1),.int .i64 ((F.getD i (0,0,0)).2.2)]),(22,.map (some b2)),(7,.pointer (some ⟨b9,0,none⟩)),(21,.agg #[.int .i64 ((F.getD i (0,0,0)).2.1),.int .i64 ((F.getD i (0,0,0)).2.2)]),(20,.bool true),(19,.int .i64 1),(32,.int .i64 1),(31,.slice u9_1 (lz0.length+1) u9_2),(30,.slice (some ⟨u8_1,0,none⟩) 1 1),(28,.slice pz0 (lz0.length) cz0),(27,.agg #[.int .i64 qd1,.int .i64 qd2]),(18,.agg #[.int .i64 ((F.getD i (0,0,0)).1),.int .i64 ((F.getD i (0,0,0)).2.1),.int .i64 ((F.getD i (0,0,0)).2.1),.int .i64 ((F.getD i (0,0,0)).2.2),.int .i64 ((F.getD i (0,0,0)).2.2),.int .i64 ((F.getD i (0,0,0)).1)]),(4,.int .i64 ((i:Nat):Int)),(12,.int .i64 ((i:Nat):Int)),(11,.int .i64 ((nf:Nat):Int)),(10,.slice pf nf cf),(3,.map (some b2)),(2,.map none)],[rowA 3 (rI .i64) pz1 cz1 lz1,mapA b2 (fun z:Int×Int=> .agg #[.int .i64 z.1,.int .i64 z.2]) (fun z:Option Addr×Nat×Nat=> .slice z.1 z.2.1 z.2.2) (fun z=>InK .i64 z.1∧InK .i64 z.2) raw1],[allA (mrest 3 (rI .i64) ((min ((F.getD i (0,0,0)).2.1) ((F.getD i (0,0,0)).2.2)),(max ((F.getD i (0,0,0)).2.1) ((F.getD i (0,0,0)).2.2))) raw1 Mq0),boxA b9 73 [.int .i64 ((F.getD i (0,0,0)).2.1),.int .i64 ((F.getD i (0,0,0)).2.2)],emA,boxA b8 73 [.int .i64 ((F.getD i (0,0,0)).1),.int .i64 ((F.getD i (0,0,0)).2.1)],boxA b7 44 [.int .i64 ((F.getD i (0,0,0)).1),.int .i64 ((F.getD i (0,0,0)).2.1),.int .i64 ((F.getD i (0,0,0)).2.2)],boxA b1 25 [.slice pv nv cv,.slice pf nf cf]],[slF (rI .i64) (some ⟨u8_1,0,none⟩) 1 ([((i:Nat):Int)]),slF (rI3 .i64) pv cv V,slF (rI3 .i64) pf cf F])) ?_ (fun hD5=> ?_)
   ·
    rintro ⟨⟩
    dsimp only
    refine zcb 5 8 (by kernel_rfl) ?_ ?_
    ·
     refine zDa rfl rfl rfl rfl (.c rfl .n) ce75 (zHa (ex:=((F.getD i (0,0,0)).2.1)) (ey:=((F.getD i (0,0,0)).2.2))) (.n)<|d_uw 6 rfl rfl (by kernel_rfl) (by kernel_rfl) (by kernel_rfl) rfl rfl (zza (z:=(none,0,0)) (a0:=((min ((F.getD i (0,0,0)).2.1) ((F.getD i (0,0,0)).2.2)),(max ((F.getD i (0,0,0)).2.1) ((F.getD i (0,0,0)).2.2)))) (v:= .slice pz1 (lz1.length) cz1) 1 rfl ky73 Try.underlying98 zr50 rfl rfl (⟨zm.2 (by omega),zm.2 (by omega)⟩) (by rw [hgt1])) ?_
     exact zv (hD3 ()) (by kernel_rfl) ((.of rfl):SubM _ _) .rfl .rfl ((.of [0,1,2] rfl):SelR _ _ _)
    ·
     refine zBb rfl rfl rfl rfl (zz (enc:=fun z:Int=>[.int .i64 z]) (ok:=InK .i64) (h1:=fun _=>rfl) (h2:=fun _=>rfl) (k:=1) Try.underlying50 inf3 rfl (by decide) (by decide) (by decide) (.c (x:=((i:Nat):Int)) rfl rfl (fun _ _=>by exact zm.2 (by omega)) .n)) (fun u8_1 _=> ?_)
     refine zMa 0 rfl .z ?_
     exact zv (hD4 u8_1) (by kernel_rfl) ((.of rfl):SubM _ _) .rfl .rfl ((.of [0,0,2,3] rfl):SelR _ _ _)
   refine zS (X:=Nat) (k':=5) (L':=(lb 11 411)) (fun u8_1=>([(30,.slice (some ⟨u8_1,0,none⟩) 1 1),(29,.int .i64 ((i:Nat):Int)),(26,.agg #[.int .i64 ((F.getD i (0,0,0)).2.1),.int .i64 ((F.getD i (0,0,0)).2.2)]),(25,.map (some b2)),(23,.agg #[.int .i64 ((F.getD i (0,0,0)).2.1),.int .i64 ((F.getD i (0,0,0)).2.2)]),(22,.map (some b2)),(7,.pointer (some ⟨b9,0,none⟩)),(21,.agg #[.int .i64 ((F.getD i (0,0,0)).2.1),.int .i64 ((F.getD i (0,0,0)).2.2)]),(20,.bool true),(19,.int .i64 1),(32,.int .i64 1),(31,.slice u9_1 (lz0.length+1) u9_2),(28,.slice pz0 (lz0.length) cz0),(27,.agg #[.int .i64 qd1,.int .i64 qd2]),(24,.agg #[.int .i64 qd1,.int .i64 qd2]),(18,.agg #[.int .i64 ((F.getD i (0,0,0)).1),.int .i64 ((F.getD i (0,0,0)).2.1),.int .i64 ((F.getD i (0,0,0)).2.1),.int .i64 ((F.getD i (0,0,0)).2.2),.int .i64 ((F.getD i (0,0,0)).2.2),.int .i64 ((F.getD i (0,0,0)).1)]),(4,.int .i64 ((i:Nat):Int)),(12,.int .i64 ((i:Nat):Int)),(11,.int .i64 ((nf:Nat):Int)),(10,.slice pf nf cf),(3,.map (some b2)),(2,.map none)],[rowA 3 (rI .i64) pz1 cz1 lz1,mapA b2 (fun z:Int×Int=> .agg #[.int .i64 z.1,.int .i64 z.2]) (fun z:Option Addr×Nat×Nat=> .slice z.1 z.2.1 z.2.2) (fun z=>InK .i64 z.1∧InK .i64 z.2) raw1],[emA,allA (mrest 3 (rI .i64) ((min ((F.getD i (0,0,0)).2.1) ((F.getD i (0,0,0)).2.2)),(max ((F.getD i (0,0,0)).2.1) ((F.getD i (0,0,0)).2.2))) raw1 Mq0),boxA b9 73 [.int .i64 ((F.getD i (0,0,0)).2.1),.int .i64 ((F.getD i (0,0,0)).2.2)],emA,boxA b8 73 [.int .i64 ((F.getD i (0,0,0)).1),.int .i64 ((F.getD i (0,0,0)).2.1)],boxA b7 44 [.int .i64 ((F.getD i (0,0,0)).1),.int .i64 ((F.getD i (0,0,0)).2.1),.int .i64 ((F.getD i (0,0,0)).2.2)],boxA b1 25 [.slice pv nv cv,.slice pf nf cf]],[slF (rI .i64) (some ⟨u8_1,0,none⟩) 1 ([((i:Nat):Int)]),slF (rI .i64) (some ⟨u8_1,0,none⟩) 1 ([((i:Nat):Int)]),slF (rI3 .i64) pv cv V,slF (rI3 .i64) pf cf F])) ?_ (fun hD6=> ?_)
   ·
    rintro u8_1
    dsimp only
    refine zR 2 (by kernel_rfl) ?_
    ·
     refine zDa rfl rfl rfl rfl (.c rfl .n) ce75 (zHa (ex:=((F.getD i (0,0,0)).2.1)) (ey:=((F.getD i (0,0,0)).2.2))) (.n) ?_
     exact zv (hD4 u8_1) (by kernel_rfl) ((.of rfl):SubM _ _) .rfl .rfl ((.of [0,0,2,3] rfl):SelR _ _ _)
   refine zcb 2 8 (by kernel_rfl) ?_ ?_
   ·
    refine zDa rfl rfl rfl rfl (.c rfl .n) ce75 (zHa (ex:=((F.getD i (0,0,0)).2.1)) (ey:=((F.getD i (0,0,0)).2.2))) (.n) ?_
    exact zv (hD5 ()) (by kernel_rfl) ((.of rfl):SubM _ _) .rfl .rfl ((.of [0,1,2] rfl):SelR _ _ _)
   ·
    refine zBb rfl rfl rfl rfl (zz (enc:=fun z:Int=>[.int .i64 z]) (ok:=InK .i64) (h1:=fun _=>rfl) (h2:=fun _=>rfl) (k:=1) Try.underlying50 inf3 rfl (by decide) (by decide) (by decide) (.c (x:=((i:Nat):Int)) rfl rfl (fun _ _=>by exact zm.2 (by omega)) .n)) (fun u8_1 _=> ?_)
    refine zMa 0 rfl .z ?_
    exact zv (hD6 u8_1) (by kernel_rfl) ((.of rfl):SubM _ _) .rfl .rfl ((.of [0,0,2,3] rfl):SelR _ _ _)
  refine zS (X:=Nat×Option Addr×Nat) (k':=1) (L':=(lb 11 1023)) (fun (u8_1,u9_1,u9_2)=>([(31,.slice u9_1 (lz0.length+1) u9_2),(30,.slice (some ⟨u8_1,0,none⟩) 1 1),(28,.slice pz0 (lz0.length) cz0),(27,.agg #[.int .i64 (min ((F.getD i (0,0,0)).1) ((F.getD i (0,0,0)).2.1)),.int .i64 (max ((F.getD i (0,0,0)).1) ((F.getD i (0,0,0)).2.1))]),(24,.agg #[.int .i64 (min ((F.getD i (0,0,0)).1) ((F.getD i (0,0,0)).2.1)),.int .i64 (max ((F.getD i (0,0,0)).1) ((F.getD i (0,0,0)).2.1))]),(29,.int .i64 ((i:Nat):Int)),(26,.agg #[.int .i64 ((F.getD i (0,0,0)).1),.int .i64 ((F.getD i (0,0,0)).2.1)]),(25,.map (some b2)),(23,.agg #[.int .i64 ((F.getD i (0,0,0)).1),.int .i64 ((F.getD i (0,0,0)).2.1)]),(22,.map (some b2)),(7,.pointer (some ⟨b8,0,none⟩)),(21,.agg #[.int .i64 ((F.getD i (0,0,0)).1),.int .i64 ((F.getD i (0,0,0)).2.1)]),(20,.bool true),(19,.int .i64 0),(18,.agg #[.int .i64 ((F.getD i (0,0,0)).1),.int .i64 ((F.getD i (0,0,0)).2.1),.int .i64 ((F.getD i (0,0,0)).2.1),.int .i64 ((F.getD i (0,0,0)).2.2),.int .i64 ((F.getD i (0,0,0)).2.2),.int .i64 ((F.getD i (0,0,0)).1)]),(4,.int .i64 ((i:Nat):Int)),(12,.int .i64 ((i:Nat):Int)),(11,.int .i64 ((nf:Nat):Int)),(10,.slice pf nf cf),(3,.map (some b2)),(2,.map none)],[rowA 3 (rI .i64) u9_1 u9_2 (lz0++([((i:Nat):Int)])),mapA b2 (fun z:Int×Int=> .agg #[.int .i64 z.1,.int .i64 z.2]) (fun z:Option Addr×Nat×Nat=> .slice z.1 z.2.1 z.2.2) (fun z=>InK .i64 z.1∧InK .i64 z.2) raw0],[emA,allA (mrest 3 (rI .i64) ((min ((F.getD i (0,0,0)).1) ((F.getD i (0,0,0)).2.1)),(max ((F.getD i (0,0,0)).1) ((F.getD i (0,0,0)).2.1))) raw0 (Ms.sides (F.take i))),boxA b8 73 [.int .i64 ((F.getD i (0,0,0)).1),.int .i64 ((F.getD i (0,0,0)).2.1)],boxA b7 44 [.int .i64 ((F.getD i (0,0,0)).1),.int .i64 ((F.getD i (0,0,0)).2.1),.int .i64 ((F.getD i (0,0,0)).2.2)],boxA b1 25 [.slice pv nv cv,.slice pf nf cf]],[slF (rI .i64) (some ⟨u8_1,0,none⟩) 1 ([((i:Nat):Int)]),slF (rI3 .i64) pv cv V,slF (rI3 .i64) pf cf F])) ?_ (fun hD1=> ?_)
  ·
   rintro ⟨u8_1,u9_1,u9_2⟩
   dsimp only
   refine zR 10 (by kernel_rfl) ?_
   ·
    refine zwb (zca (i:=1) rfl)<|zpb (A':=fun _=>mapA b2 (fun z:Int×Int=> .agg #[.int .i64 z.1,.int .i64 z.2]) (fun z:Option Addr×Nat×Nat=> .slice z.1 z.2.1 z.2.2) (fun z=>InK .i64 z.1∧InK .i64 z.2) (mput raw0 ((min ((F.getD i (0,0,0)).1) ((F.getD i (0,0,0)).2.1)),(max ((F.getD i (0,0,0)).1) ((F.getD i (0,0,0)).2.1))) (u9_1,lz0.length+1,u9_2))) (by kernel_rfl) rfl rfl rfl (zla (a0:=((min ((F.getD i (0,0,0)).1) ((F.getD i (0,0,0)).2.1)),(max ((F.getD i (0,0,0)).1) ((F.getD i (0,0,0)).2.1)))) (v:=(u9_1,lz0.length+1,u9_2)) ky73 Try.underlying98 rfl rfl rfl (⟨zm.2 (by omega),zm.2 (by omega)⟩)) (fun _ _=> ?_)
    exact zv (hD0 (u8_1,u9_1,u9_2)) (by kernel_rfl) ((.of rfl):SubM _ _) .rfl .rfl ((.of [0,1,2] rfl):SelR _ _ _)
  refine zS (X:=Nat) (k':=2) (L':=(lb 11 511)) (fun u8_1=>([(30,.slice (some ⟨u8_1,0,none⟩) 1 1),(28,.slice pz0 (lz0.length) cz0),(27,.agg #[.int .i64 (min ((F.getD i (0,0,0)).1) ((F.getD i (0,0,0)).2.1)),.int .i64 (max ((F.getD i (0,0,0)).1) ((F.getD i (0,0,0)).2.1))]),(24,.agg #[.int .i64 (min ((F.getD i (0,0,0)).1) ((F.getD i (0,0,0)).2.1)),.int .i64 (max ((F.getD i (0,0,0)).1) ((F.getD i (0,0,0)).2.1))]),(29,.int .i64 ((i:Nat):Int)),(26,.agg #[.int .i64 ((F.getD i (0,0,0)).1),.int .i64 ((F.getD i (0,0,0)).2.1)]),(25,.map (some b2)),(23,.agg #[.int .i64 ((F.getD i (0,0,0)).1),.int .i64 ((F.getD i (0,0,0)).2.1)]),(22,.map (some b2)),(7,.pointer (some ⟨b8,0,none⟩)),(21,.agg #[.int .i64 ((F.getD i (0,0,0)).1),.int .i64 ((F.getD i (0,0,0)).2.1)]),(20,.bool true),(19,.int .i64 0),(18,.agg #[.int .i64 ((F.getD i (0,0,0)).1),.int .i64 ((F.getD i (0,0,0)).2.1),.int .i64 ((F.getD i (0,0,0)).2.1),.int .i64 ((F.getD i (0,0,0)).2.2),.int .i64 ((F.getD i (0,0,0)).2.2),.int .i64 ((F.getD i (0,0,0)).1)]),(4,.int .i64 ((i:Nat):Int)),(12,.int .i64 ((i:Nat):Int)),(11,.int .i64 ((nf:Nat):Int)),(10,.slice pf nf cf),(3,.map (some b2)),(2,.map none)],[rowA 3 (rI .i64) pz0 cz0 lz0,mapA b2 (fun z:Int×Int=> .agg #[.int .i64 z.1,.int .i64 z.2]) (fun z:Option Addr×Nat×Nat=> .slice z.1 z.2.1 z.2.2) (fun z=>InK .i64 z.1∧InK .i64 z.2) raw0],[emA,allA (mrest 3 (rI .i64) ((min ((F.getD i (0,0,0)).1) ((F.getD i (0,0,0)).2.1)),(max ((F.getD i (0,0,0)).1) ((F.getD i (0,0,0)).2.1))) raw0 (Ms.sides (F.take i))),boxA b8 73 [.int .i64 ((F.getD i (0,0,0)).1),.int .i64 ((F.getD i (0,0,0)).2.1)],boxA b7 44 [.int .i64 ((F.getD i (0,0,0)).1),.int .i64 ((F.getD i (0,0,0)).2.1),.int .i64 ((F.getD i (0,0,0)).2.2)],boxA b1 25 [.slice pv nv cv,.slice pf nf cf]],[slF (rI .i64) (some ⟨u8_1,0,none⟩) 1 ([((i:Nat):Int)]),slF (rI3 .i64) pv cv V,slF (rI3 .i64) pf cf F])) ?_ (fun hD2=> ?_)
  ·
   rintro u8_1
   dsimp only
   refine zR 9 (by kernel_rfl) ?_
   ·
    refine zpb (A':=fun v:Option Addr×Nat=>rowA 3 (rI .i64) v.1 v.2 (lz0++([((i:Nat):Int)]))) (by kernel_rfl) rfl rfl rfl (zga 0 rfl Try.underlying50 inf3 (by decide) rfl rfl (by first|rfl|assumption|(simp;done)|omega) rfl (by first|rfl|assumption|(simp;done)|omega) (by omega) (by omega)) ?_
    rintro ⟨u9_1,u9_2⟩ -
    dsimp only [List.append_eq,List.nil_append,List.cons_append]
    exact zv (hD1 (u8_1,u9_1,u9_2)) (by kernel_rfl) ((.of rfl):SubM _ _) .rfl .rfl ((.of [0,1,2] rfl):SelR _ _ _)
  refine zS (X:=Unit) (k':=3) (L':=(lb 11 255)) (fun _=>([(28,.slice pz0 (lz0.length) cz0),(27,.agg #[.int .i64 (min ((F.getD i (0,0,0)).1) ((F.getD i (0,0,0)).2.1)),.int .i64 (max ((F.getD i (0,0,0)).1) ((F.getD i (0,0,0)).2.1))]),(24,.agg #[.int .i64 (min ((F.getD i (0,0,0)).1) ((F.getD i (0,0,0)).2.1)),.int .i64 (max ((F.getD i (0,0,0)).1) ((F.getD i (0,0,0)).2.1))]),(29,.int .i64 ((i:Nat):Int)),(26,.agg #[.int .i64 ((F.getD i (0,0,0)).1),.int .i64 ((F.getD i (0,0,0)).2.1)]),(25,.map (some b2)),(23,.agg #[.int .i64 ((F.getD i (0,0,0)).1),.int .i64 ((F.getD i (0,0,0)).2.1)]),(22,.map (some b2)),(7,.pointer (some ⟨b8,0,none⟩)),(21,.agg #[.int .i64 ((F.getD i (0,0,0)).1),.int .i64 ((F.getD i (0,0,0)).2.1)]),(20,.bool true),(19,.int .i64 0),(18,.agg #[.int .i64 ((F.getD i (0,0,0)).1),.int .i64 ((F.getD i (0,0,0)).2.1),.int .i64 ((F.getD i (0,0,0)).2.1),.int .i64 ((F.getD i (0,0,0)).2.2),.int .i64 ((F.getD i (0,0,0)).2.2),.int .i64 ((F.getD i (0,0,0)).1)]),(4,.int .i64 ((i:Nat):Int)),(12,.int .i64 ((i:Nat):Int)),(11,.int .i64 ((nf:Nat):Int)),(10,.slice pf nf cf),(3,.map (some b2)),(2,.map none)],[rowA 3 (rI .i64) pz0 cz0 lz0,mapA b2 (fun z:Int×Int=> .agg #[.int .i64 z.1,.int .i64 z.2]) (fun z:Option Addr×Nat×Nat=> .slice z.1 z.2.1 z.2.2) (fun z=>InK .i64 z.1∧InK .i64 z.2) raw0],[allA (mrest 3 (rI .i64) ((min ((F.getD i (0,0,0)).1) ((F.getD i (0,0,0)).2.1)),(max ((F.getD i (0,0,0)).1) ((F.getD i (0,0,0)).2.1))) raw0 (Ms.sides (F.take i))),boxA b8 73 [.int .i64 ((F.getD i (0,0,0)).1),.int .i64 ((F.getD i (0,0,0)).2.1)],boxA b7 44 [.int .i64 ((F.getD i (0,0,0)).1),.int .i64 ((F.getD i (0,0,0)).2.1),.int .i64 ((F.getD i (0,0,0)).2.2)],boxA b1 25 [.slice pv nv cv,.slice pf nf cf]],[slF (rI3 .i64) pv cv V,slF (rI3 .i64) pf cf F])) ?_ (fun hD3=> ?_)
  ·
   rintro ⟨⟩
   dsimp only
   refine zR 8 (by kernel_rfl) ?_
   ·
    refine zBb rfl rfl rfl rfl (zz (enc:=fun z:Int=>[.int .i64 z]) (ok:=InK .i64) (h1:=fun _=>rfl) (h2:=fun _=>rfl) (k:=1) Try.underlying50 inf3 rfl (by decide) (by decide) (by decide) (.c (x:=((i:Nat):Int)) rfl rfl (fun _ _=>by exact zm.2 (by omega)) .n)) (fun u8_1 _=> ?_)
    refine zMa 0 rfl .z ?_
    exact zv (hD2 u8_1) (by kernel_rfl) ((.of rfl):SubM _ _) .rfl .rfl ((.of [0,1,2] rfl):SelR _ _ _)
  refine zS (X:=Nat) (k':=4) (L':=(lb 11 415)) (fun u8_1=>([(30,.slice (some ⟨u8_1,0,none⟩) 1 1),(24,.agg #[.int .i64 (min ((F.getD i (0,0,0)).1) ((F.getD i (0,0,0)).2.1)),.int .i64 (max ((F.getD i (0,0,0)).1) ((F.getD i (0,0,0)).2.1))]),(29,.int .i64 ((i:Nat):Int)),(26,.agg #[.int .i64 ((F.getD i (0,0,0)).1),.int .i64 ((F.getD i (0,0,0)).2.1)]),(25,.map (some b2)),(23,.agg #[.int .i64 ((F.getD i (0,0,0)).1),.int .i64 ((F.getD i (0,0,0)).2.1)]),(22,.map (some b2)),(7,.pointer (some ⟨b8,0,none⟩)),(21,.agg #[.int .i64 ((F.getD i (0,0,0)).1),.int .i64 ((F.getD i (0,0,0)).2.1)]),(20,.bool true),(19,.int .i64 0),(18,.agg #[.int .i64 ((F.getD i (0,0,0)).1),.int .i64 ((F.getD i (0,0,0)).2.1),.int .i64 ((F.getD i (0,0,0)).2.1),.int .i64 ((F.getD i (0,0,0)).2.2),.int .i64 ((F.getD i (0,0,0)).2.2),.int .i64 ((F.getD i (0,0,0)).1)]),(4,.int .i64 ((i:Nat):Int)),(12,.int .i64 ((i:Nat):Int)),(11,.int .i64 ((nf:Nat):Int)),(10,.slice pf nf cf),(3,.map (some b2)),(2,.map none)],[rowA 3 (rI .i64) pz0 cz0 lz0,mapA b2 (fun z:Int×Int=> .agg #[.int .i64 z.1,.int .i64 z.2]) (fun z:Option Addr×Nat×Nat=> .slice z.1 z.2.1 z.2.2) (fun z=>InK .i64 z.1∧InK .i64 z.2) raw0],[emA,allA (mrest 3 (rI .i64) ((min ((F.getD i (0,0,0)).1) ((F.getD i (0,0,0)).2.1)),(max ((F.getD i (0,0,0)).1) ((F.getD i (0,0,0)).2.1))) raw0 (Ms.sides (F.take i))),boxA b8 73 [.int .i64 ((F.getD i (0,0,0)).1),.int .i64 ((F.getD i (0,0,0)).2.1)],boxA b7 44 [.int .i64 ((F.getD i (0,0,0)).1),.int .i64 ((F.getD i (0,0,0)).2.1),.int .i64 ((F.getD i (0,0,0)).2.2)],boxA b1 25 [.slice pv nv cv,.slice pf nf cf]],[slF (rI .i64) (some ⟨u8_1,0,none⟩) 1 ([((i:Nat):Int)]),slF (rI3 .i64) pv cv V,slF (rI3 .i64) pf cf F])) ?_ (fun hD4=> ?_)
  ·
   rintro u8_1
   dsimp only
   refine zR 5 (by kernel_rfl) ?_
   ·
    refine zDa rfl rfl rfl rfl (.c rfl .n) ce75 (zHa (ex:=((F.getD i (0,0,0)).1)) (ey:=((F.getD i (0,0,0)).2.1))) (.n)<|d_uw 6 rfl rfl (by kernel_rfl) (by kernel_rfl) (by kernel_rfl) rfl rfl (zza (z:=(none,0,0)) (a0:=((min ((F.getD i (0,0,0)).1) ((F.getD i (0,0,0)).2.1)),(max ((F.getD i (0,0,0)).1) ((F.getD i (0,0,0)).2.1)))) (v:= .slice pz0 (lz0.length) cz0) 1 rfl ky73 Try.underlying98 zr50 rfl rfl (⟨zm.2 (by omega),zm.2 (by omega)⟩) (by rw [hgt0])) ?_
    exact zv (hD2 u8_1) (by kernel_rfl) ((.of rfl):SubM _ _) .rfl .rfl ((.of [0,1,2] rfl):SelR _ _ _)
  refine zS (X:=Unit) (k':=5) (L':=(lb 11 159)) (fun _=>([(24,.agg #[.int .i64 (min ((F.getD i (0,0,0)).1) ((F.getD i (0,0,0)).2.1)),.int .i64 (max ((F.getD i (0,0,0)).1) ((F.getD i (0,0,0)).2.1))]),(29,.int .i64 ((i:Nat):Int)),(26,.agg #[.int .i64 ((F.getD i (0,0,0)).1),.int .i64 ((F.getD i (0,0,0)).2.1)]),(25,.map (some b2)),(23,.agg #[.int .i64 ((F.getD i (0,0,0)).1),.int .i64 ((F.getD i (0,0,0)).2.1)]),(22,.map (some b2)),(7,.pointer (some ⟨b8,0,none⟩)),(21,.agg #[.int .i64 ((F.getD i (0,0,0)).1),.int .i64 ((F.getD i (0,0,0)).2.1)]),(20,.bool true),(19,.int .i64 0),(18,.agg #[.int .i64 ((F.getD i (0,0,0)).1),.int .i64 ((F.getD i (0,0,0)).2.1),.int .i64 ((F.getD i (0,0,0)).2.1),.int .i64 ((F.getD i (0,0,0)).2.2),.int .i64 ((F.getD i (0,0,0)).2.2),.int .i64 ((F.getD i (0,0,0)).1)]),(4,.int .i64 ((i:Nat):Int)),(12,.int .i64 ((i:Nat):Int)),(11,.int .i64 ((nf:Nat):Int)),(10,.slice pf nf cf),(3,.map (some b2)),(2,.map none)],[rowA 3 (rI .i64) pz0 cz0 lz0,mapA b2 (fun z:Int×Int=> .agg #[.int .i64 z.1,.int .i64 z.2]) (fun z:Option Addr×Nat×Nat=> .slice z.1 z.2.1 z.2.2) (fun z=>InK .i64 z.1∧InK .i64 z.2) raw0],[allA (mrest 3 (rI .i64) ((min ((F.getD i (0,0,0)).1) ((F.getD i (0,0,0)).2.1)),(max ((F.getD i (0,0,0)).1) ((F.getD i (0,0,0)).2.1))) raw0 (Ms.sides (F.take i))),boxA b8 73 [.int .i64 ((F.getD i (0,0,0)).1),.int .i64 ((F.getD i (0,0,0)).2.1)],boxA b7 44 [.int .i64 ((F.getD i (0,0,0)).1),.int .i64 ((F.getD i (0,0,0)).2.1),.int .i64 ((F.getD i (0,0,0)).2.2)],boxA b1 25 [.slice pv nv cv,.slice pf nf cf]],[slF (rI3 .i64) pv cv V,slF (rI3 .i64) pf cf F])) ?_ (fun hD5=> ?_)
  ·
   rintro ⟨⟩
   dsimp only
   refine zcb 5 8 (by kernel_rfl) ?_ ?_
   ·
    refine zDa rfl rfl rfl rfl (.c rfl .n) ce75 (zHa (ex:=((F.getD i (0,0,0)).1)) (ey:=((F.getD i (0,0,0)).2.1))) (.n)<|d_uw 6 rfl rfl (by kernel_rfl) (by kernel_rfl) (by kernel_rfl) rfl rfl (zza (z:=(none,0,0)) (a0:=((min ((F.getD i (0,0,0)).1) ((F.getD i (0,0,0)).2.1)),(max ((F.getD i (0,0,0)).1) ((F.getD i (0,0,0)).2.1)))) (v:= .slice pz0 (lz0.length) cz0) 1 rfl ky73 Try.underlying98 zr50 rfl rfl (⟨zm.2 (by omega),zm.2 (by omega)⟩) (by rw [hgt0])) ?_
    exact zv (hD3 ()) (by kernel_rfl) ((.of rfl):SubM _ _) .rfl .rfl ((.of [0,1] rfl):SelR _ _ _)
   ·
    refine zBb rfl rfl rfl rfl (zz (enc:=fun z:Int=>[.int .i64 z]) (ok:=InK .i64) (h1:=fun _=>rfl) (h2:=fun _=>rfl) (k:=1) Try.underlying50 inf3 rfl (by decide) (by decide) (by decide) (.c (x:=((i:Nat):Int)) rfl rfl (fun _ _=>by exact zm.2 (by omega)) .n)) (fun u8_1 _=> ?_)
    refine zMa 0 rfl .z ?_
    exact zv (hD4 u8_1) (by kernel_rfl) ((.of rfl):SubM _ _) .rfl .rfl ((.of [0,1,2] rfl):SelR _ _ _)
  refine zS (X:=Nat) (k':=5) (L':=(lb 11 411)) (fun u8_1=>([(30,.slice (some ⟨u8_1,0,none⟩) 1 1),(29,.int .i64 ((i:Nat):Int)),(26,.agg #[.int .i64 ((F.getD i (0,0,0)).1),.int .i64 ((F.getD i (0,0,0)).2.1)]),(25,.map (some b2)),(23,.agg #[.int .i64 ((F.getD i (0,0,0)).1),.int .i64 ((F.getD i (0,0,0)).2.1)]),(22,.map (some b2)),(7,.pointer (some ⟨b8,0,none⟩)),(21,.agg #[.int .i64 ((F.getD i (0,0,0)).1),.int .i64 ((F.getD i (0,0,0)).2.1)]),(20,.bool true),(19,.int .i64 0),(18,.agg #[.int .i64 ((F.getD i (0,0,0)).1),.int .i64 ((F.getD i (0,0,0)).2.1),.int .i64 ((F.getD i (0,0,0)).2.1),.int .i64 ((F.getD i (0,0,0)).2.2),.int .i64 ((F.getD i (0,0,0)).2.2),.int .i64 ((F.getD i (0,0,0)).1)]),(4,.int .i64 ((i:Nat):Int)),(12,.int .i64 ((i:Nat):Int)),(11,.int .i64 ((nf:Nat):Int)),(10,.slice pf nf cf),(3,.map (some b2)),(2,.map none)],[rowA 3 (rI .i64) pz0 cz0 lz0,mapA b2 (fun z:Int×Int=> .agg #[.int .i64 z.1,.int .i64 z.2]) (fun z:Option Addr×Nat×Nat=> .slice z.1 z.2.1 z.2.2) (fun z=>InK .i64 z.1∧InK .i64 z.2) raw0],[emA,allA (mrest 3 (rI .i64) ((min ((F.getD i (0,0,0)).1) ((F.getD i (0,0,0)).2.1)),(max ((F.getD i (0,0,0)).1) ((F.getD i (0,0,0)).2.1))) raw0 (Ms.sides (F.take i))),boxA b8 73 [.int .i64 ((F.getD i (0,0,0)).1),.int .i64 ((F.getD i (0,0,0)).2.1)],boxA b7 44 [.int .i64 ((F.getD i (0,0,0)).1),.int .i64 ((F.getD i (0,0,0)).2.1),.int .i64 ((F.getD i (0,0,0)).2.2)],boxA b1 25 [.slice pv nv cv,.slice pf nf cf]],[slF (rI .i64) (some ⟨u8_1,0,none⟩) 1 ([((i:Nat):Int)]),slF (rI3 .i64) pv cv V,slF (rI3 .i64) pf cf F])) ?_ (fun hD6=> ?_)
  ·
   rintro u8_1
   dsimp only
   refine zR 2 (by kernel_rfl) ?_
   ·
    refine zDa rfl rfl rfl rfl (.c rfl .n) ce75 (zHa (ex:=((F.getD i (0,0,0)).1)) (ey:=((F.getD i (0,0,0)).2.1))) (.n) ?_
    exact zv (hD4 u8_1) (by kernel_rfl) ((.of rfl):SubM _ _) .rfl .rfl ((.of [0,1,2] rfl):SelR _ _ _)
  refine zcb 2 8 (by kernel_rfl) ?_ ?_
  ·
   refine zDa rfl rfl rfl rfl (.c rfl .n) ce75 (zHa (ex:=((F.getD i (0,0,0)).1)) (ey:=((F.getD i (0,0,0)).2.1))) (.n) ?_
   exact zv (hD5 ()) (by kernel_rfl) ((.of rfl):SubM _ _) .rfl .rfl ((.of [0,1] rfl):SelR _ _ _)
  ·
   refine zBb rfl rfl rfl rfl (zz (enc:=fun z:Int=>[.int .i64 z]) (ok:=InK .i64) (h1:=fun _=>rfl) (h2:=fun _=>rfl) (k:=1) Try.underlying50 inf3 rfl (by decide) (by decide) (by decide) (.c (x:=((i:Nat):Int)) rfl rfl (fun _ _=>by exact zm.2 (by omega)) .n)) (fun u8_1 _=> ?_)
   refine zMa 0 rfl .z ?_
   exact zv (hD6 u8_1) (by kernel_rfl) ((.of rfl):SubM _ _) .rfl .rfl ((.of [0,1,2] rfl):SelR _ _ _)
 ·
  refine zP<|zi<|zi<|zp<|zc<|ze ?_
  have e11:Ms.sides (F.take i)=Ms.sides F:=by rw [List.take_of_length_le (by omega)]
  rw [e11]
  refine zhd (fun w mm=>mm.mrFreeze 0 rfl) ?_
  rintro rawZ hrawZ
  dsimp only [List.set]
  refine za<|r_pv rfl rfl (zb rfl)<|r_pv rfl rfl (zd rfl)<|zg<|zc<|zJ ?_
  exact zB Try.results66 (b2,rawZ) hrawZ (zw rfl) rfl (ho:=((.c (i:=0) rfl .n):PickO _ _ _)) ((.c (j:=0) rfl .n):SelR _ _ _)
end Go.Proofs.Ytalfgjpbbongcaa.Sp
namespace Go.Proofs.Ytalfgjpbbongcaa.Sp
open Go
set_option linter.unusedVariables false
set_option maxRecDepth 100000
set_option maxHeartbeats 1000000
theorem zfe {pv:Option Addr} {nv:Nat} {cv:Nat} {V:List (Int×Int×Int)} {pf:Option Addr} {nf:Nat} {cf:Nat} {F:List (Int×Int×Int)} (hnv:V.length=nv) (hnf:F.length=nf):Con Try.prog 25 [.agg #[.slice pv nv cv,.slice pf nf cf]] [] [slF (rI3 .i64) pv cv V,slF (rI3 .i64) pf cf F] (Y:=Unit) (fun y=>True) (fun y=> .tuple #[.int .i64 (Ms.eulerR V F),.int .i64 (Ms.check V F)]) (fun y=>[]) (fun y=>[]):=by
 refine zx Try.func25 rfl rfl rfl (fun c=> ?_)
 show RunC _ _ _ _ _ [(0,.agg #[.slice pv nv cv,.slice pf nf cf])] [] [slF (rI3 .i64) pv cv V,slF (rI3 .i64) pf cf F]
 refine zba 0 rfl (fun hL0=> ?_)
 refine zba 1 rfl (fun hL1=> ?_)
 refine ze<|za<|zO rfl rfl (zfa rfl rfl) (fun b1=> ?_)
 refine r_pv rfl rfl (zd rfl)<|r_pv rfl rfl (zd rfl)<|zg<|zc<|ze<|ze<|za<|r_u rfl rfl (zh 0 ty25 rfl rfl (.take (.take .nil)))<|zW rfl rfl (.c rfl .n) ce14 (znb (pv:=pv) (nv:=nv) (cv:=cv) (V:=V) (pf:=pf) (nf:=nf) (cf:=cf) (F:=F) (hnv:=by assumption) (hnf:=by assumption)) (.c (j:=0) rfl (.c (j:=1) rfl .n))<|r_pv rfl rfl (zd rfl)<|zg<|zc<|ze<|za<|r_pv rfl rfl (zb rfl)<|r_pv rfl rfl (zPa rfl rfl)<|zg<|zc<|zC rfl (fun hcode=> ?_) (fun hcode=> ?_)
 ·
  refine ze<|za<|r_pv rfl rfl (zb rfl)<|r_pv rfl rfl (zd rfl)<|r_pv rfl rfl (zd rfl)<|zg<|zc<|zJ<|zj ?_
  have hz:Ms.eulerR V F=0:=by unfold Ms.eulerR;rw [if_neg hcode]
  exact zdb Try.results25 () trivial (zw rfl) (zw rfl) (by rw [hz]) (ho:=(.n:PickO _ _ _)) (.n:SelR _ _ _)
 ·
  have hc0:=Decidable.not_not.1 hcode
  have hf0:=Ms.check_form hc0
  have hg:=Ms.form_zero.1 hf0
  have hnv5:nv≤512:=by have:=hg.nv;omega
  have hnf5:nf≤1024:=by have:=hg.nf;omega
  refine zu<|zc<|ze<|za<|zFa rfl rfl (zNa (κ:=Int) (ν:=Bool) (fun z:Int=> .int .i64 z) (fun z:Bool=> .bool z) (InK .i64)) (fun b2 _=> ?_)
  refine r_pv rfl rfl (zd rfl)<|zg<|zc<|ze<|ze<|za<|r_pv rfl rfl (zn Try.underlying25 rfl sz23 rfl rfl)<|r_u rfl rfl (zf 1 ty23 rfl rfl rfl)<|r_pv rfl rfl (zL Try.underlying23 rfl)<|r_pv rfl rfl (zb rfl)<|zg<|zc<|zq<|zda (X:=Nat) (fun x:Nat=>x≤nf) (fun x=>[(19,.int .i64 ((x:Nat):Int)),(18,.int .i64 ((nf:Nat):Int)),(17,.slice pf nf cf),(5,.map (some b2)),(3,.int .i64 0),(2,.int .i64 0),(1,.pointer (some ⟨b1,0,none⟩))]) (fun x=>[mapA b2 (fun z:Int=> .int .i64 z) (fun z:Bool=> .bool z) (InK .i64) (Ms.usedM (F.take x)),boxA b1 25 [.slice pv nv cv,.slice pf nf cf]]) (fun x=>[slF (rI3 .i64) pv cv V,slF (rI3 .i64) pf cf F]) (fun x:Nat=>nf - x) 0 (show 0≤nf from by exact Nat.zero_le _) ((.e rfl (by first|rfl|(congr 1;omega)|simp_all) (.of rfl)):SubM _ _) (ho:=((.e (i:=0) rfl (by rfl) (.c (i:=0) rfl .n)):PickO _ _ _)) ((.of [0,1] rfl):SelR _ _ _) ?_
  rintro i hI
  replace hI:i≤nf:=hI
  try dsimp only
  refine ze<|za<|r_pv rfl rfl (zG rfl rfl)<|zg<|zc<|ze<|zC rfl (fun h3=> ?_) (fun h3=> ?_)
  ·
   have hat:=hg.at (show i<F.length by omega)
   refine zu<|zc<|ze<|zq<|ze<|za<|zN (x0:=(F.getD i (0,0,0))) 1 i rfl Try.underlying23 sz44 rfl rfl rfl (by first|rfl|assumption|(simp_all;done)|omega) rfl rfl (gD (d:=(0,0,0)) (by omega)) (fun b4 o5 hok6=> ?_)
   obtain ⟨hok6x,hok6y,hok6z⟩:=hok6
   replace hok6x:=zm.1 hok6x
   replace hok6y:=zm.1 hok6y
   replace hok6z:=zm.1 hok6z
   refine r_u rfl rfl (zE (j:=0) 0 ty44 rfl rfl rfl (.take (.take (.take .nil))))<|zO rfl rfl (zr zr44 rfl) (fun b7=> ?_)
   refine zt 0 rfl rfl rfl rfl rfl sz44 rfl (.take (.take (.take .nil))) .z<|zg<|zc<|ze<|za<|r_u rfl rfl (zh 0 ty44 rfl rfl (.take (.take (.take .nil))))<|r_pv rfl rfl (zb rfl)<|zg<|zc<|zq<|zbb<|zZ<|ze<|za<|r_pv rfl rfl (zG rfl rfl)<|zg<|zc<|ze<|zY rfl rfl<|zu<|zc<|ze<|zq<|ze<|za<|r_pv rfl rfl (zja (i:=0) Try.underlying44 ty3 rfl rfl (by decide) rfl)<|r_pv rfl rfl (zd rfl)<|zg<|zc<|za<|r_pv rfl rfl (zb rfl)<|r_pv rfl rfl (zb rfl)<|zCa 1 rfl rfl rfl (zla (a0:=(F.getD i (0,0,0)).1) (v:=true) ky3 Try.underlying94 rfl rfl rfl (zm.2 (by omega))) (fun _=>(.s .z)) (fun _ _=> ?_)
   refine zg<|zy<|zc<|za<|r_pv rfl rfl (zD (z:=1) rfl rfl (w64 (by decide)))<|r_pv rfl rfl (zb rfl)<|zg<|zoa<|zZ<|ze<|za<|r_pv rfl rfl (zG rfl rfl)<|zg<|zc<|ze<|zY rfl rfl<|zu<|zc<|ze<|zq<|ze<|za<|r_pv rfl rfl (zja (i:=1) Try.underlying44 ty3 rfl rfl (by decide) rfl)<|r_pv rfl rfl (zd rfl)<|zg<|zc<|za<|r_pv rfl rfl (zb rfl)<|r_pv rfl rfl (zb rfl)<|zCa 1 rfl rfl rfl (zla (a0:=(F.getD i (0,0,0)).2.1) (v:=true) ky3 Try.underlying94 rfl rfl rfl (zm.2 (by omega))) (fun _=>(.s .z)) (fun _ _=> ?_)
   refine zg<|zy<|zc<|za<|r_pv rfl rfl (zD (z:=2) rfl rfl (w64 (by decide)))<|r_pv rfl rfl (zb rfl)<|zg<|zoa<|zZ<|ze<|za<|r_pv rfl rfl (zG rfl rfl)<|zg<|zc<|ze<|zY rfl rfl<|zu<|zc<|ze<|zq<|ze<|za<|r_pv rfl rfl (zja (i:=2) Try.underlying44 ty3 rfl rfl (by decide) rfl)<|r_pv rfl rfl (zd rfl)<|zg<|zc<|za<|r_pv rfl rfl (zb rfl)<|r_pv rfl rfl (zb rfl)<|zCa 1 rfl rfl rfl (zla (a0:=(F.getD i (0,0,0)).2.2) (v:=true) ky3 Try.underlying94 rfl rfl rfl (zm.2 (by omega))) (fun _=>(.s .z)) (fun _ _=> ?_)
   refine zg<|zy<|zc<|za<|r_pv rfl rfl (zD (z:=3) rfl rfl (w64 (by decide)))<|r_pv rfl rfl (zb rfl)<|zg<|zoa<|zZ<|ze<|za<|r_pv rfl rfl (zG rfl rfl)<|zg<|zc<|ze<|zBa rfl rfl<|zP<|zi<|zi<|zp<|zy<|zc<|za<|r_pv rfl rfl (zD (z:=(((i+1):Nat):Int)) rfl rfl (w64 (by omega)))<|r_pv rfl rfl (zb rfl)<|zg<|zT (i+1) (show (i+1)≤nf from by exact (by omega:i+1≤nf)) (by show nf - (i+1)<nf - i;omega) ((.of rfl):SubM _ _) (ho:=((.e (i:=1) rfl (by rw [Ms.usedM_take (by omega)]) (.c (i:=1) rfl .n)):PickO _ _ _)) ((.of [1,2] rfl):SelR _ _ _)
  ·
   have hul:=Ms.usedM_len F
   have hsn:=Ms.sidesN_len F
   refine zP<|zi<|zi<|zp<|zc<|ze ?_
   have e8:Ms.usedM (F.take i)=Ms.usedM F:=by rw [List.take_of_length_le (by omega)]
   rw [e8]
   refine zya (OW:=[]) (O:=[mapA b2 (fun z:Int=> .int .i64 z) (fun z:Bool=> .bool z) (InK .i64) (Ms.usedM F),boxA b1 25 [.slice pv nv cv,.slice pf nf cf]]) 100000 mixed (.then .ret) (by kernel_rfl)<|d_pv 0 rfl rfl (by kernel_rfl) (by kernel_rfl) rfl rfl (zb rfl)<|d_u 1 rfl rfl (by kernel_rfl) (by kernel_rfl) rfl rfl (zCb (encK:=(fun z:Int=> .int .i64 z)) (encV:=(fun z:Bool=> .bool z)) (ok:=(InK .i64)) (m:=Ms.usedM F) 0 rfl Try.underlying94 rfl)<|d_u 2 rfl rfl (by kernel_rfl) (by kernel_rfl) rfl rfl (zh 1 ty25 rfl rfl (.take (.take .nil)))<|d_pv 6 rfl rfl (by kernel_rfl) (by kernel_rfl) rfl rfl (zn Try.underlying25 rfl sz23 rfl rfl)<|d_u 7 rfl rfl (by kernel_rfl) (by kernel_rfl) rfl rfl (zf 1 ty23 rfl rfl rfl)<|d_pv 8 rfl rfl (by kernel_rfl) (by kernel_rfl) rfl rfl (zL Try.underlying23 rfl)<|zR 3 (by kernel_rfl) (zM rfl rfl rfl rfl (.c rfl .n) ce66 (zLc (pv:=pv) (nv:=nv) (cv:=cv) (V:=V) (pf:=pf) (nf:=nf) (cf:=cf) (F:=F) (hnv:=by assumption) (hnf:=by assumption) (hg:=by first|rfl|assumption|omega|(simp;done)|(simp;omega)|(simp_all;done))) (.c (j:=0) rfl (.c (j:=1) rfl .n)) ?_)
   rintro ⟨bZ,rawZ⟩ hraw
   dsimp only [List.append_eq,List.nil_append,List.cons_append]
   replace hraw:Raw rawZ (Ms.sides F):=hraw
   refine d_u 4 rfl rfl (by kernel_rfl) (by kernel_rfl) rfl rfl (zCb (encK:=(fun z:Int×Int=> .agg #[.int .i64 z.1,.int .i64 z.2])) (encV:=(fun z:Option Addr×Nat×Nat=> .slice z.1 z.2.1 z.2.2)) (ok:=(fun z=>InK .i64 z.1∧InK .i64 z.2)) (m:=rawZ) 0 rfl Try.underlying98 rfl) ?_
   have hrl:=hraw.length
   refine d_pv 5 rfl rfl (by kernel_rfl) (by kernel_rfl) rfl rfl (zeb (z:=((((Ms.usedM F).length:Nat):Int) - (((rawZ).length:Nat):Int))) rfl rfl (w64 (by omega)))<|d_pv 9 rfl rfl (by kernel_rfl) (by kernel_rfl) rfl rfl (zD (z:=(((((Ms.usedM F).length:Nat):Int) - (((rawZ).length:Nat):Int))+((nf:Nat):Int))) rfl rfl (w64 (by omega)))<|d_pv 10 rfl rfl (by kernel_rfl) (by kernel_rfl) rfl rfl (zd rfl)<|d_pv 11 rfl rfl (by kernel_rfl) (by kernel_rfl) rfl rfl (zd rfl)<|zwa (by kernel_rfl)<|zc<|zJ ?_
   have hz:Ms.eulerR V F=Ms.eulerP F:=by unfold Ms.eulerR;rw [if_pos hc0]
   exact zdb Try.results25 () trivial (zw rfl) (zw rfl) (by rw [hz,hc0,Ms.eulerP,hnf,hraw.length]) (ho:=(.n:PickO _ _ _)) (.n:SelR _ _ _)
theorem zxb:Con Try.prog 44 [] [] [] (Y:=(Option Addr)×(Option Addr)) (fun y=>True) (fun y=> .agg #[.slice (y.1) 4 4,.slice (y.2) 4 4]) (fun y=>[]) (fun y=>[slF (rI3 .i64) (y.1) 4 (Ms.exV),slF (rI3 .i64) (y.2) 4 (Ms.exF)]):=by
 refine zx Try.func44 rfl rfl rfl (fun c=> ?_)
 show RunC _ _ _ _ _ [] [] []
 refine ze<|za<|zO rfl rfl (zr zr25 rfl) (fun b1=> ?_)
 refine zg<|zc<|ze<|za<|r_pv rfl rfl (zI zr42 rfl Try.underlying42 (.c sz3 (.c sz3 (.c sz3 .n))) .n .n)<|r_pv rfl rfl (zI zr42 rfl Try.underlying42 (.c sz3 (.c sz3 (.c sz3 .n))) (.c rfl .n) (.c rfl rfl rfl (.take .nil) .n))<|r_pv rfl rfl (zI zr42 rfl Try.underlying42 (.c sz3 (.c sz3 (.c sz3 .n))) (.c rfl .n) (.c rfl rfl rfl (.skip (.take .nil)) .n))<|r_pv rfl rfl (zI zr42 rfl Try.underlying42 (.c sz3 (.c sz3 (.c sz3 .n))) (.c rfl .n) (.c rfl rfl rfl (.skip (.skip (.take .nil))) .n))<|zFa rfl rfl (zz (enc:=fun z:Int×Int×Int=>[.int .i64 z.1,.int .i64 z.2.1,.int .i64 z.2.2]) (ok:=fun z=>InK .i64 z.1∧InK .i64 z.2.1∧InK .i64 z.2.2) (h1:=fun _=>rfl) (h2:=fun _=>rfl) (k:=4) Try.underlying22 inf42 rfl (by decide) (by decide) (by decide) (.c (x:=(0,0,0)) rfl rfl (fun _ _=>by exact ⟨zm.2 (by first|omega|decide|(dsimp only;omega)),zm.2 (by first|omega|decide|(dsimp only;omega)),zm.2 (by first|omega|decide|(dsimp only;omega))⟩) (.c (x:=(1,0,0)) rfl rfl (fun _ _=>by exact ⟨zm.2 (by first|omega|decide|(dsimp only;omega)),zm.2 (by first|omega|decide|(dsimp only;omega)),zm.2 (by first|omega|decide|(dsimp only;omega))⟩) (.c (x:=(0,1,0)) rfl rfl (fun _ _=>by exact ⟨zm.2 (by first|omega|decide|(dsimp only;omega)),zm.2 (by first|omega|decide|(dsimp only;omega)),zm.2 (by first|omega|decide|(dsimp only;omega))⟩) (.c (x:=(0,0,1)) rfl rfl (fun _ _=>by exact ⟨zm.2 (by first|omega|decide|(dsimp only;omega)),zm.2 (by first|omega|decide|(dsimp only;omega)),zm.2 (by first|omega|decide|(dsimp only;omega))⟩) .n))))) (fun b2 _=> ?_)
 refine r_pv rfl rfl (zQ zr44 rfl Try.underlying44 sz3 (.c rfl (.c rfl (.c rfl .n))) (.c rfl rfl rfl (.take .nil) (.c rfl rfl rfl (.skip (.take .nil)) (.c rfl rfl rfl (.skip (.skip (.take .nil))) .n))))<|r_pv rfl rfl (zQ zr44 rfl Try.underlying44 sz3 (.c rfl (.c rfl (.c rfl .n))) (.c rfl rfl rfl (.take .nil) (.c rfl rfl rfl (.skip (.take .nil)) (.c rfl rfl rfl (.skip (.skip (.take .nil))) .n))))<|r_pv rfl rfl (zQ zr44 rfl Try.underlying44 sz3 (.c rfl (.c rfl (.c rfl .n))) (.c rfl rfl rfl (.take .nil) (.c rfl rfl rfl (.skip (.take .nil)) (.c rfl rfl rfl (.skip (.skip (.take .nil))) .n))))<|r_pv rfl rfl (zQ zr44 rfl Try.underlying44 sz3 (.c rfl (.c rfl (.c rfl .n))) (.c rfl rfl rfl (.take .nil) (.c rfl rfl rfl (.skip (.take .nil)) (.c rfl rfl rfl (.skip (.skip (.take .nil))) .n))))<|zFa rfl rfl (zz (enc:=fun z:Int×Int×Int=>[.int .i64 z.1,.int .i64 z.2.1,.int .i64 z.2.2]) (ok:=fun z=>InK .i64 z.1∧InK .i64 z.2.1∧InK .i64 z.2.2) (h1:=fun _=>rfl) (h2:=fun _=>rfl) (k:=4) Try.underlying23 inf44 rfl (by decide) (by decide) (by decide) (.c (x:=(0,2,1)) rfl rfl (fun _ _=>by exact ⟨zm.2 (by first|omega|decide|(dsimp only;omega)),zm.2 (by first|omega|decide|(dsimp only;omega)),zm.2 (by first|omega|decide|(dsimp only;omega))⟩) (.c (x:=(0,1,3)) rfl rfl (fun _ _=>by exact ⟨zm.2 (by first|omega|decide|(dsimp only;omega)),zm.2 (by first|omega|decide|(dsimp only;omega)),zm.2 (by first|omega|decide|(dsimp only;omega))⟩) (.c (x:=(0,3,2)) rfl rfl (fun _ _=>by exact ⟨zm.2 (by first|omega|decide|(dsimp only;omega)),zm.2 (by first|omega|decide|(dsimp only;omega)),zm.2 (by first|omega|decide|(dsimp only;omega))⟩) (.c (x:=(1,2,3)) rfl rfl (fun _ _=>by exact ⟨zm.2 (by first|omega|decide|(dsimp only;omega)),zm.2 (by first|omega|decide|(dsimp only;omega)),zm.2 (by first|omega|decide|(dsimp only;omega))⟩) .n))))) (fun b3 _=> ?_)
 refine r_pv rfl rfl (zI zr25 rfl Try.underlying25 (.c sz22 (.c sz23 .n)) (.c rfl (.c rfl .n)) (.c rfl rfl rfl (.take .nil) (.c rfl rfl rfl (.skip (.take .nil)) .n)))<|zt 2 rfl rfl rfl rfl rfl sz25 rfl (.take (.take .nil)) (.s (.s .z))<|zg<|zc<|zJ<|zVa 0 rfl .z<|zVa 1 rfl (.s .z) ?_
 exact zB Try.results44 (some ⟨b2,0,none⟩,some ⟨b3,0,none⟩) trivial (zK 2 ty25 rfl rfl (.take (.take .nil))) rfl (ho:=(.n:PickO _ _ _)) ((.e (j:=0) rfl rfl (.e (j:=1) rfl rfl .n)):SelR _ _ _)
end Go.Proofs.Ytalfgjpbbongcaa.Sp
namespace Go.Proofs.Ytalfgjpbbongcaa.Sp
open Go
set_option linter.unusedVariables false
set_option maxRecDepth 100000
set_option maxHeartbeats 1000000
theorem zyd {pv:Option Addr} {nv:Nat} {cv:Nat} {V:List (Int×Int×Int)} {pf:Option Addr} {nf:Nat} {cf:Nat} {F:List (Int×Int×Int)} (hnv:V.length=nv) (hnf:F.length=nf):Con Try.prog 16 [.agg #[.slice pv nv cv,.slice pf nf cf]] [] [slF (rI3 .i64) pv cv V,slF (rI3 .i64) pf cf F] (Y:=Wd) (fun y=>True) (fun y=> .tuple #[.agg #[y.b,y.l],.int .i64 (Ms.volC V F)]) (fun y=>[]) (fun y=>[zF y (Ms.vol V F)]):=by
 refine zx Try.func16 rfl rfl rfl (fun c=> ?_)
 show RunC _ _ _ _ _ [(0,.agg #[.slice pv nv cv,.slice pf nf cf])] [] [slF (rI3 .i64) pv cv V,slF (rI3 .i64) pf cf F]
 refine zba 0 rfl (fun hL0=> ?_)
 refine zba 1 rfl (fun hL1=> ?_)
 refine ze<|za<|zO rfl rfl (zfa rfl rfl) (fun b1=> ?_)
 refine zO rfl rfl (zr zr34 rfl) (fun b2=> ?_)
 refine r_pv rfl rfl (zd rfl)<|zg<|zc<|ze<|ze<|za<|r_u rfl rfl (zh 1 ty25 rfl rfl (.take (.take .nil)))<|zW rfl rfl (.c rfl .n) ce14 (znb (pv:=pv) (nv:=nv) (cv:=cv) (V:=V) (pf:=pf) (nf:=nf) (cf:=cf) (F:=F) (hnv:=by assumption) (hnf:=by assumption)) (.c (j:=0) rfl (.c (j:=1) rfl .n))<|r_pv rfl rfl (zd rfl)<|zg<|zc<|ze<|za<|r_pv rfl rfl (zb rfl)<|r_pv rfl rfl (zPa rfl rfl)<|zg<|zc<|zC rfl (fun hcode=> ?_) (fun hcode=> ?_)
 ·
  refine ze<|za<|r_pv rfl rfl (zI zr34 rfl Try.underlying34 (.c sz4 (.c sz32 .n)) .n .n)<|r_pv rfl rfl (zb rfl)<|zt 0 rfl rfl rfl rfl rfl sz34 rfl (.take (.take .nil)) .z<|r_pv rfl rfl (zd rfl)<|zg<|zc<|zJ<|zj ?_
  obtain ⟨hz1,hz2⟩:=Ms.volC_bad hcode
  refine zBe (zF wz 0) (fun g _=>zF_zero g) ?_
  exact zdb Try.results16 wz trivial (zK 0 ty34 rfl rfl (.take (.take .nil))) (zw rfl) (by rw [hz1];rfl) (ho:=(.n:PickO _ _ _)) ((.e (j:=0) rfl (by rw [hz2]) .n):SelR _ _ _)
 ·
  have hc0:=Decidable.not_not.1 hcode
  have hf0:=Ms.check_form hc0
  have hg:=Ms.form_zero.1 hf0
  have hnv5:nv≤512:=by have:=hg.nv;omega
  have hnf5:nf≤1024:=by have:=hg.nf;omega
  refine zu<|zc<|ze<|ze<|za<|r_u rfl rfl (zh 1 ty25 rfl rfl (.take (.take .nil)))<|zea rfl rfl (.c rfl .n) ce56 (zpc (pv:=pv) (nv:=nv) (cv:=cv) (V:=V) (pf:=pf) (nf:=nf) (cf:=cf) (F:=F) (hnv:=by assumption) (hnf:=by assumption) (hg:=by first|rfl|assumption|omega)) (.c (j:=0) rfl (.c (j:=1) rfl .n)) ?_
  rintro ⟨b23,bm1⟩ hB
  dsimp only [List.append_eq,List.nil_append,List.cons_append]
  replace hB:Ms.BMap F bm1:=hB
  refine r_u rfl rfl (zCb (encK:=(fun z:Int=> .int .i64 z)) (encV:=(fun z:Int=> .int .i64 z)) (ok:=(InK .i64)) (m:=bm1) 0 rfl Try.underlying76 rfl)<|r_pv rfl rfl (zQa rfl rfl)<|zg<|zc<|zC rfl (fun hlen=> ?_) (fun hlen=> ?_)
  ·
   refine ze<|za<|r_pv rfl rfl (zI zr34 rfl Try.underlying34 (.c sz4 (.c sz32 .n)) .n .n)<|zt 1 rfl rfl rfl rfl rfl sz34 rfl (.take (.take .nil)) (.s .z)<|r_pv rfl rfl (zd rfl)<|zg<|zc<|zJ<|zj ?_
   obtain ⟨hz1,hz2⟩:=Ms.volC_open hc0 (hB.empty.1 (by omega))
   refine zBe (zF wz 0) (fun g _=>zF_zero g) ?_
   exact zdb Try.results16 wz trivial (zK 1 ty34 rfl rfl (.take (.take .nil))) (zw rfl) (by rw [hz1];rfl) (ho:=(.n:PickO _ _ _)) ((.e (j:=0) rfl (by rw [hz2]) .n):SelR _ _ _)
  ·
   refine zu<|zc<|ze<|za<|zea rfl rfl (.c rfl .n) ce57 (zec (z:=(0:Int)) (hz:=by first|rfl|assumption|omega)) (.n) ?_
   rintro w34 -
   dsimp only [List.append_eq,List.nil_append,List.cons_append]
   refine zO rfl rfl (zr zr34 rfl) (fun b5=> ?_)
   refine zt 0 rfl rfl rfl rfl rfl sz34 rfl (.take (.take .nil)) .z<|zg<|zc<|ze<|ze<|za<|r_pv rfl rfl (zn Try.underlying25 rfl sz23 rfl rfl)<|r_u rfl rfl (zf 3 ty23 rfl rfl rfl)<|r_pv rfl rfl (zL Try.underlying23 rfl)<|r_pv rfl rfl (zb rfl)<|zg<|zc<|zq<|zda (X:=Nat×Int×Wd) (fun x:Nat×Int×Wd=>x.1≤nf∧x.2.1=Ms.volS V (F.take x.1)∧Big.ln x.2.1≤4000+x.1) (fun x=>[(27,.int .i64 ((x.1:Nat):Int)),(26,.int .i64 ((nf:Nat):Int)),(25,.slice pf nf cf),(5,.pointer (some ⟨b5,0,none⟩)),(3,.int .i64 0),(2,.pointer (some ⟨b2,0,none⟩)),(1,.pointer (some ⟨b1,0,none⟩))]) (fun x=>[boxA b5 34 [x.2.2.b,x.2.2.l],mapA b23 (fun z:Int=> .int .i64 z) (fun z:Int=> .int .i64 z) (InK .i64) bm1,boxA b2 34 [.bool false,.slice none 0 0],boxA b1 25 [.slice pv nv cv,.slice pf nf cf]]) (fun x=>[zF x.2.2 (x.2.1),zF w34 (0:Int),slF (rI3 .i64) pv cv V,slF (rI3 .i64) pf cf F]) (fun x:Nat×Int×Wd=>nf - x.1) (0,(0:Int),w34) (show 0≤nf∧(0:Int)=Ms.volS V (F.take 0)∧Big.ln (0:Int)≤4000+0 from by exact ⟨Nat.zero_le _,rfl,by rw [Big.zPd];omega⟩) ((.e rfl (by first|rfl|(congr 1;omega)|simp_all) (.of rfl)):SubM _ _) (ho:=((.of [0,0,0,0] rfl):PickO _ _ _)) ((.of [0,0,1,2] rfl):SelR _ _ _) ?_
   rintro ⟨i,s,ws⟩ hI
   replace hI:i≤nf∧s=Ms.volS V (F.take i)∧Big.ln s≤4000+i:=hI
   try dsimp only
   obtain ⟨hi,hs,hln⟩:=hI
   refine ze<|za<|r_pv rfl rfl (zG rfl rfl)<|zg<|zc<|ze<|zC rfl (fun h6=> ?_) (fun h6=> ?_)
   ·
    have hat:=hg.at (show i<F.length by omega)
    have hv0:=hg.vat (i:=((F.getD i (0,0,0)).1).toNat) (by omega)
    have hv1:=hg.vat (i:=((F.getD i (0,0,0)).2.1).toNat) (by omega)
    have hv2:=hg.vat (i:=((F.getD i (0,0,0)).2.2).toNat) (by omega)
    refine zu<|zc<|ze<|zq<|ze<|za<|zN (x0:=(F.getD i (0,0,0))) 3 i rfl Try.underlying23 sz44 rfl rfl rfl (by first|rfl|assumption|(simp_all;done)|omega) rfl rfl (gD (d:=(0,0,0)) (by omega)) (fun b7 o8 hok9=> ?_)
    obtain ⟨hok9x,hok9y,hok9z⟩:=hok9
    replace hok9x:=zm.1 hok9x
    replace hok9y:=zm.1 hok9y
    replace hok9z:=zm.1 hok9z
    refine r_u rfl rfl (zE (j:=0) 0 ty44 rfl rfl rfl (.take (.take (.take .nil))))<|zO rfl rfl (zr zr44 rfl) (fun b10=> ?_)
    refine zt 0 rfl rfl rfl rfl rfl sz44 rfl (.take (.take (.take .nil))) .z<|zg<|zc<|ze<|za<|r_pv rfl rfl (zI zr42 rfl Try.underlying42 (.c sz3 (.c sz3 (.c sz3 .n))) .n .n)<|zO rfl rfl (zr zr42 rfl) (fun b11=> ?_)
    refine zt 0 rfl rfl rfl rfl rfl sz42 rfl (.take (.take (.take .nil))) .z<|zg<|zc<|ze<|zya (OW:=[]) (O:=[boxA b11 42 [.int .i64 0,.int .i64 0,.int .i64 0],boxA b10 44 [.int .i64 ((F.getD i (0,0,0)).1),.int .i64 ((F.getD i (0,0,0)).2.1),.int .i64 ((F.getD i (0,0,0)).2.2)],boxA b5 34 [ws.b,ws.l],mapA b23 (fun z:Int=> .int .i64 z) (fun z:Int=> .int .i64 z) (InK .i64) bm1,boxA b2 34 [.bool false,.slice none 0 0],boxA b1 25 [.slice pv nv cv,.slice pf nf cf]]) 27 mixed (.then (.block (.then (.then (.block (.then .ret)))))) (by kernel_rfl)<|d_u 0 rfl rfl (by kernel_rfl) (by kernel_rfl) rfl rfl (zh 0 ty42 rfl rfl (.take (.take (.take .nil))))<|d_pv 1 rfl rfl (by kernel_rfl) (by kernel_rfl) rfl rfl (zn Try.underlying25 rfl sz22 rfl rfl)<|d_u 2 rfl rfl (by kernel_rfl) (by kernel_rfl) rfl rfl (zf 5 ty22 rfl rfl rfl)<|d_pv 3 rfl rfl (by kernel_rfl) (by kernel_rfl) rfl rfl (zk (i:=0) Try.underlying44 sz3 rfl rfl (by decide) rfl)<|d_u 4 rfl rfl (by kernel_rfl) (by kernel_rfl) rfl rfl (zf 1 ty3 rfl rfl rfl)<|zpa (x0:=(V.getD (((F.getD i (0,0,0)).1).toNat) (0,0,0))) 5 rfl rfl (by kernel_rfl) (by kernel_rfl) 3 (((F.getD i (0,0,0)).1).toNat) rfl Try.underlying22 sz42 rfl rfl rfl (by first|rfl|assumption|(simp_all;done)|omega) rfl (by omega) (gD (d:=(0,0,0)) (by omega)) (fun b12 o13 hok14=> ?_)
    obtain ⟨hok14x,hok14y,hok14z⟩:=hok14
    replace hok14x:=zm.1 hok14x
    replace hok14y:=zm.1 hok14y
    replace hok14z:=zm.1 hok14z
    refine d_u 6 rfl rfl (by kernel_rfl) (by kernel_rfl) rfl rfl (zE (j:=0) 0 ty42 rfl rfl rfl (.take (.take (.take .nil))))<|d_u 8 rfl rfl (by kernel_rfl) (by kernel_rfl) rfl rfl (zh 0 ty42 rfl rfl (.take (.take (.take .nil))))<|d_pv 9 rfl rfl (by kernel_rfl) (by kernel_rfl) rfl rfl (zn Try.underlying25 rfl sz22 rfl rfl)<|d_u 10 rfl rfl (by kernel_rfl) (by kernel_rfl) rfl rfl (zf 5 ty22 rfl rfl rfl)<|d_pv 11 rfl rfl (by kernel_rfl) (by kernel_rfl) rfl rfl (zk (i:=1) Try.underlying44 sz3 rfl rfl (by decide) rfl)<|d_u 12 rfl rfl (by kernel_rfl) (by kernel_rfl) rfl rfl (zf 1 ty3 rfl rfl rfl)<|zpa (x0:=(V.getD (((F.getD i (0,0,0)).2.1).toNat) (0,0,0))) 13 rfl rfl (by kernel_rfl) (by kernel_rfl) 4 (((F.getD i (0,0,0)).2.1).toNat) rfl Try.underlying22 sz42 rfl rfl rfl (by first|rfl|assumption|(simp_all;done)|omega) rfl (by omega) (gD (d:=(0,0,0)) (by omega)) (fun b15 o16 hok17=> ?_)
    obtain ⟨hok17x,hok17y,hok17z⟩:=hok17
    replace hok17x:=zm.1 hok17x
    replace hok17y:=zm.1 hok17y
    replace hok17z:=zm.1 hok17z
    refine d_u 14 rfl rfl (by kernel_rfl) (by kernel_rfl) rfl rfl (zE (j:=0) 0 ty42 rfl rfl rfl (.take (.take (.take .nil))))<|d_u 16 rfl rfl (by kernel_rfl) (by kernel_rfl) rfl rfl (zh 0 ty42 rfl rfl (.take (.take (.take .nil))))<|d_pv 17 rfl rfl (by kernel_rfl) (by kernel_rfl) rfl rfl (zn Try.underlying25 rfl sz22 rfl rfl)<|d_u 18 rfl rfl (by kernel_rfl) (by kernel_rfl) rfl rfl (zf 5 ty22 rfl rfl rfl)<|d_pv 19 rfl rfl (by kernel_rfl) (by kernel_rfl) rfl rfl (zk (i:=2) Try.underlying44 sz3 rfl rfl (by decide) rfl)<|d_u 20 rfl rfl (by kernel_rfl) (by kernel_rfl) rfl rfl (zf 1 ty3 rfl rfl rfl)<|zpa (x0:=(V.getD (((F.getD i (0,0,0)).2.2).toNat) (0,0,0))) 21 rfl rfl (by kernel_rfl) (by kernel_rfl) 5 (((F.getD i (0,0,0)).2.2).toNat) rfl Try.underlying22 sz42 rfl rfl rfl (by first|rfl|assumption|(simp_all;done)|omega) rfl (by omega) (gD (d:=(0,0,0)) (by omega)) (fun b18 o19 hok20=> ?_)
    obtain ⟨hok20x,hok20y,hok20z⟩:=hok20
    replace hok20x:=zm.1 hok20x
    replace hok20y:=zm.1 hok20y
    replace hok20z:=zm.1 hok20z
    refine d_u 22 rfl rfl (by kernel_rfl) (by kernel_rfl) rfl rfl (zE (j:=0) 0 ty42 rfl rfl rfl (.take (.take (.take .nil))))<|zbc (m':=[(54,.agg #[.int .i64 ((V.getD (((F.getD i (0,0,0)).2.2).toNat) (0,0,0)).1),.int .i64 ((V.getD (((F.getD i (0,0,0)).2.2).toNat) (0,0,0)).2.1),.int .i64 ((V.getD (((F.getD i (0,0,0)).2.2).toNat) (0,0,0)).2.2)]),(48,.agg #[.int .i64 0,.int .i64 0,.int .i64 0]),(46,.agg #[.int .i64 ((V.getD (((F.getD i (0,0,0)).2.1).toNat) (0,0,0)).1),.int .i64 ((V.getD (((F.getD i (0,0,0)).2.1).toNat) (0,0,0)).2.1),.int .i64 ((V.getD (((F.getD i (0,0,0)).2.1).toNat) (0,0,0)).2.2)]),(40,.agg #[.int .i64 0,.int .i64 0,.int .i64 0]),(38,.agg #[.int .i64 ((V.getD (((F.getD i (0,0,0)).1).toNat) (0,0,0)).1),.int .i64 ((V.getD (((F.getD i (0,0,0)).1).toNat) (0,0,0)).2.1),.int .i64 ((V.getD (((F.getD i (0,0,0)).1).toNat) (0,0,0)).2.2)]),(32,.agg #[.int .i64 0,.int .i64 0,.int .i64 0]),(27,.int .i64 ((i:Nat):Int)),(26,.int .i64 ((nf:Nat):Int)),(25,.slice pf nf cf),(5,.pointer (some ⟨b5,0,none⟩)),(3,.int .i64 0),(2,.pointer (some ⟨b2,0,none⟩)),(1,.pointer (some ⟨b1,0,none⟩))]) (R':=[zF ws s,zF w34 (0:Int),slF (rI3 .i64) pv cv V,slF (rI3 .i64) pf cf F]) ((.of rfl):SubM _ _) (List.Perm.refl _) (List.Perm.refl _) ((.of [4,5,6,7] rfl):SelR _ _ _) ?_
    obtain ⟨qd1,hqd1⟩:∃z,z=(V.getD (((F.getD i (0,0,0)).2.2).toNat) (0,0,0)).1:=⟨_,rfl⟩
    rw [← hqd1]
    obtain ⟨qd2,hqd2⟩:∃z,z=(V.getD (((F.getD i (0,0,0)).2.2).toNat) (0,0,0)).2.1:=⟨_,rfl⟩
    rw [← hqd2]
    obtain ⟨qd3,hqd3⟩:∃z,z=(V.getD (((F.getD i (0,0,0)).2.2).toNat) (0,0,0)).2.2:=⟨_,rfl⟩
    rw [← hqd3]
    obtain ⟨qd4,hqd4⟩:∃z,z=(V.getD (((F.getD i (0,0,0)).2.1).toNat) (0,0,0)).1:=⟨_,rfl⟩
    rw [← hqd4]
    obtain ⟨qd5,hqd5⟩:∃z,z=(V.getD (((F.getD i (0,0,0)).2.1).toNat) (0,0,0)).2.1:=⟨_,rfl⟩
    rw [← hqd5]
    obtain ⟨qd6,hqd6⟩:∃z,z=(V.getD (((F.getD i (0,0,0)).2.1).toNat) (0,0,0)).2.2:=⟨_,rfl⟩
    rw [← hqd6]
    obtain ⟨qd7,hqd7⟩:∃z,z=(V.getD (((F.getD i (0,0,0)).1).toNat) (0,0,0)).1:=⟨_,rfl⟩
    rw [← hqd7]
    obtain ⟨qd8,hqd8⟩:∃z,z=(V.getD (((F.getD i (0,0,0)).1).toNat) (0,0,0)).2.1:=⟨_,rfl⟩
    rw [← hqd8]
    obtain ⟨qd9,hqd9⟩:∃z,z=(V.getD (((F.getD i (0,0,0)).1).toNat) (0,0,0)).2.2:=⟨_,rfl⟩
    rw [← hqd9]
    refine zS (X:=Wd×Wd×Wd×Wd×Wd×Wd×Wd×Wd×Wd×Nat×Nat×Nat) (k':=0) (L':=(lb 30 1073741823)) (fun (u7_1,u7_2,u7_3,u15_1,u15_2,u15_3,u23_1,u23_2,u23_3,u24_1,u25_1,u26_1)=>([(11,.pointer (some ⟨u26_1,0,none⟩)),(10,.pointer (some ⟨u25_1,0,none⟩)),(9,.pointer (some ⟨u24_1,0,none⟩)),(27,.int .i64 ((i:Nat):Int)),(26,.int .i64 ((nf:Nat):Int)),(25,.slice pf nf cf),(5,.pointer (some ⟨b5,0,none⟩)),(3,.int .i64 0),(2,.pointer (some ⟨b2,0,none⟩)),(1,.pointer (some ⟨b1,0,none⟩))],[boxA u26_1 89 (cw [u23_1,u23_2,u23_3]),boxA u25_1 89 (cw [u15_1,u15_2,u15_3]),boxA u24_1 89 (cw [u7_1,u7_2,u7_3])],[boxA b11 42 [.int .i64 0,.int .i64 0,.int .i64 0],boxA b10 44 [.int .i64 ((F.getD i (0,0,0)).1),.int .i64 ((F.getD i (0,0,0)).2.1),.int .i64 ((F.getD i (0,0,0)).2.2)],boxA b5 34 [ws.b,ws.l],mapA b23 (fun z:Int=> .int .i64 z) (fun z:Int=> .int .i64 z) (InK .i64) bm1,boxA b2 34 [.bool false,.slice none 0 0],boxA b1 25 [.slice pv nv cv,.slice pf nf cf]],[zF u23_1 (qd1 - 0),zF u23_2 (qd2 - 0),zF u23_3 (qd3 - 0),zF u15_1 (qd4 - 0),zF u15_2 (qd5 - 0),zF u15_3 (qd6 - 0),zF u7_1 (qd7 - 0),zF u7_2 (qd8 - 0),zF u7_3 (qd9 - 0),zF ws s,zF w34 (0:Int),slF (rI3 .i64) pv cv V,slF (rI3 .i64) pf cf F])) ?_ (fun hD0=> ?_)
    ·
     rintro ⟨u7_1,u7_2,u7_3,u15_1,u15_2,u15_3,u23_1,u23_2,u23_3,u24_1,u25_1,u26_1⟩
     dsimp only [cw]
     refine zwa (by kernel_rfl) ?_
     subst hqd1 hqd2 hqd3 hqd4 hqd5 hqd6 hqd7 hqd8 hqd9
     refine zc<|zib (.c (i:=5) rfl (.c (i:=0) rfl (.c (i:=0) rfl (.c (i:=0) rfl (.c (i:=0) rfl (.c (i:=0) rfl (.c (i:=0) rfl (.c (i:=0) rfl (.c (i:=0) rfl .n)))))))))<|zya (OW:=[boxA b5 34 [ws.b,ws.l]]) (O:=[boxA u26_1 89 [u23_1.b,u23_1.l,u23_2.b,u23_2.l,u23_3.b,u23_3.l],boxA u25_1 89 [u15_1.b,u15_1.l,u15_2.b,u15_2.l,u15_3.b,u15_3.l],boxA u24_1 89 [u7_1.b,u7_1.l,u7_2.b,u7_2.l,u7_3.b,u7_3.l],boxA b11 42 [.int .i64 0,.int .i64 0,.int .i64 0],boxA b10 44 [.int .i64 ((F.getD i (0,0,0)).1),.int .i64 ((F.getD i (0,0,0)).2.1),.int .i64 ((F.getD i (0,0,0)).2.2)],mapA b23 (fun z:Int=> .int .i64 z) (fun z:Int=> .int .i64 z) (InK .i64) bm1,boxA b2 34 [.bool false,.slice none 0 0],boxA b1 25 [.slice pv nv cv,.slice pf nf cf]]) 7 mixed (.block (.then (.then (.block (.then .ret))))) (by kernel_rfl)<|d_uw 0 rfl rfl (by kernel_rfl) (by kernel_rfl) (by kernel_rfl) rfl rfl (zh 0 ty34 rfl rfl (.take (.take .nil)))<|d_uw 1 rfl rfl (by kernel_rfl) (by kernel_rfl) (by kernel_rfl) rfl rfl (zh 3 ty89 rfl rfl (.take (.take (.take (.take (.take (.take .nil)))))))<|d_uw 2 rfl rfl (by kernel_rfl) (by kernel_rfl) (by kernel_rfl) rfl rfl (zh 2 ty89 rfl rfl (.take (.take (.take (.take (.take (.take .nil)))))))<|d_uw 3 rfl rfl (by kernel_rfl) (by kernel_rfl) (by kernel_rfl) rfl rfl (zh 1 ty89 rfl rfl (.take (.take (.take (.take (.take (.take .nil)))))))<|zR 4 (by kernel_rfl) (zM rfl rfl rfl rfl (.c rfl (.c rfl .n)) ce61 (zce (ex:=(((V.getD (((F.getD i (0,0,0)).2.1).toNat) (0,0,0)).1) - 0)) (ey:=(((V.getD (((F.getD i (0,0,0)).2.1).toNat) (0,0,0)).2.1) - 0)) (ez:=(((V.getD (((F.getD i (0,0,0)).2.1).toNat) (0,0,0)).2.2) - 0)) (wa0:=u15_1) (wa1:=u15_2) (wa2:=u15_3) (fx:=(((V.getD (((F.getD i (0,0,0)).2.2).toNat) (0,0,0)).1) - 0)) (fy:=(((V.getD (((F.getD i (0,0,0)).2.2).toNat) (0,0,0)).2.1) - 0)) (fz:=(((V.getD (((F.getD i (0,0,0)).2.2).toNat) (0,0,0)).2.2) - 0)) (wb0:=u23_1) (wb1:=u23_2) (wb2:=u23_3) (hlex:=by exact Nat.le_trans (Big.zra (by omega)) (by decide)) (hley:=by exact Nat.le_trans (Big.zra (by omega)) (by decide)) (hlez:=by exact Nat.le_trans (Big.zra (by omega)) (by decide)) (hlfx:=by exact Nat.le_trans (Big.zra (by omega)) (by decide)) (hlfy:=by exact Nat.le_trans (Big.zra (by omega)) (by decide)) (hlfz:=by exact Nat.le_trans (Big.zra (by omega)) (by decide))) (.c (j:=3) rfl (.c (j:=4) rfl (.c (j:=5) rfl (.c (j:=0) rfl (.c (j:=1) rfl (.c (j:=2) rfl .n)))))) ?_)
     rintro ⟨wr021,wr122,wr223⟩ -
     dsimp only [List.append_eq,List.nil_append,List.cons_append]
     refine zR 5 (by kernel_rfl) (zM rfl rfl rfl rfl (.c rfl (.c rfl .n)) ce60 (zSe (ex:=(((V.getD (((F.getD i (0,0,0)).1).toNat) (0,0,0)).1) - 0)) (ey:=(((V.getD (((F.getD i (0,0,0)).1).toNat) (0,0,0)).2.1) - 0)) (ez:=(((V.getD (((F.getD i (0,0,0)).1).toNat) (0,0,0)).2.2) - 0)) (wa0:=u7_1) (wa1:=u7_2) (wa2:=u7_3) (fx:=((((V.getD (((F.getD i (0,0,0)).2.1).toNat) (0,0,0)).2.1) - 0)*(((V.getD (((F.getD i (0,0,0)).2.2).toNat) (0,0,0)).2.2) - 0) - (((V.getD (((F.getD i (0,0,0)).2.1).toNat) (0,0,0)).2.2) - 0)*(((V.getD (((F.getD i (0,0,0)).2.2).toNat) (0,0,0)).2.1) - 0))) (fy:=((((V.getD (((F.getD i (0,0,0)).2.1).toNat) (0,0,0)).2.2) - 0)*(((V.getD (((F.getD i (0,0,0)).2.2).toNat) (0,0,0)).1) - 0) - (((V.getD (((F.getD i (0,0,0)).2.1).toNat) (0,0,0)).1) - 0)*(((V.getD (((F.getD i (0,0,0)).2.2).toNat) (0,0,0)).2.2) - 0))) (fz:=((((V.getD (((F.getD i (0,0,0)).2.1).toNat) (0,0,0)).1) - 0)*(((V.getD (((F.getD i (0,0,0)).2.2).toNat) (0,0,0)).2.1) - 0) - (((V.getD (((F.getD i (0,0,0)).2.1).toNat) (0,0,0)).2.1) - 0)*(((V.getD (((F.getD i (0,0,0)).2.2).toNat) (0,0,0)).1) - 0))) (wb0:=wr021) (wb1:=wr122) (wb2:=wr223) (hlex:=by first|(exact Nat.le_trans (Big.zra (by omega)) (by decide))|(refine Nat.le_trans (Big.zWa ?_ ?_ ?_ ?_) (by decide) <;> exact Nat.le_trans (Big.zra (by omega)) (by decide))) (hley:=by first|(exact Nat.le_trans (Big.zra (by omega)) (by decide))|(refine Nat.le_trans (Big.zWa ?_ ?_ ?_ ?_) (by decide) <;> exact Nat.le_trans (Big.zra (by omega)) (by decide))) (hlez:=by first|(exact Nat.le_trans (Big.zra (by omega)) (by decide))|(refine Nat.le_trans (Big.zWa ?_ ?_ ?_ ?_) (by decide) <;> exact Nat.le_trans (Big.zra (by omega)) (by decide))) (hlfx:=by first|(exact Nat.le_trans (Big.zra (by omega)) (by decide))|(refine Nat.le_trans (Big.zWa ?_ ?_ ?_ ?_) (by decide) <;> exact Nat.le_trans (Big.zra (by omega)) (by decide))) (hlfy:=by first|(exact Nat.le_trans (Big.zra (by omega)) (by decide))|(refine Nat.le_trans (Big.zWa ?_ ?_ ?_ ?_) (by decide) <;> exact Nat.le_trans (Big.zra (by omega)) (by decide))) (hlfz:=by first|(exact Nat.le_trans (Big.zra (by omega)) (by decide))|(refine Nat.le_trans (Big.zWa ?_ ?_ ?_ ?_) (by decide) <;> exact Nat.le_trans (Big.zra (by omega)) (by decide)))) (.c (j:=9) rfl (.c (j:=10) rfl (.c (j:=11) rfl (.c (j:=0) rfl (.c (j:=1) rfl (.c (j:=2) rfl .n)))))) ?_)
     rintro w324 -
     dsimp only [List.append_eq,List.nil_append,List.cons_append]
     refine zR 6 (by kernel_rfl) (zM rfl rfl rfl rfl (.c rfl (.c rfl .n)) ce59 (zSb (w1:=ws) (w2:=w324) (x1:=s) (x2:=Ms.dot ((((V.getD (((F.getD i (0,0,0)).1).toNat) (0,0,0)).1) - 0),(((V.getD (((F.getD i (0,0,0)).1).toNat) (0,0,0)).2.1) - 0),(((V.getD (((F.getD i (0,0,0)).1).toNat) (0,0,0)).2.2) - 0)) (((((V.getD (((F.getD i (0,0,0)).2.1).toNat) (0,0,0)).2.1) - 0)*(((V.getD (((F.getD i (0,0,0)).2.2).toNat) (0,0,0)).2.2) - 0) - (((V.getD (((F.getD i (0,0,0)).2.1).toNat) (0,0,0)).2.2) - 0)*(((V.getD (((F.getD i (0,0,0)).2.2).toNat) (0,0,0)).2.1) - 0)),((((V.getD (((F.getD i (0,0,0)).2.1).toNat) (0,0,0)).2.2) - 0)*(((V.getD (((F.getD i (0,0,0)).2.2).toNat) (0,0,0)).1) - 0) - (((V.getD (((F.getD i (0,0,0)).2.1).toNat) (0,0,0)).1) - 0)*(((V.getD (((F.getD i (0,0,0)).2.2).toNat) (0,0,0)).2.2) - 0)),((((V.getD (((F.getD i (0,0,0)).2.1).toNat) (0,0,0)).1) - 0)*(((V.getD (((F.getD i (0,0,0)).2.2).toNat) (0,0,0)).2.1) - 0) - (((V.getD (((F.getD i (0,0,0)).2.1).toNat) (0,0,0)).2.1) - 0)*(((V.getD (((F.getD i (0,0,0)).2.2).toNat) (0,0,0)).1) - 0)))) (hb1:=by first|omega|(refine Nat.le_trans (Big.zRd _ _ ?_ ?_ ?_ ?_ ?_ ?_) (by decide) <;> (try dsimp only) <;> first|(exact Nat.le_trans (Big.zra (by omega)) (by decide))|(refine Nat.le_trans (Big.zWa ?_ ?_ ?_ ?_) (by decide) <;> exact Nat.le_trans (Big.zra (by omega)) (by decide)))) (hb2:=by first|omega|(refine Nat.le_trans (Big.zRd _ _ ?_ ?_ ?_ ?_ ?_ ?_) (by decide) <;> (try dsimp only) <;> first|(exact Nat.le_trans (Big.zra (by omega)) (by decide))|(refine Nat.le_trans (Big.zWa ?_ ?_ ?_ ?_) (by decide) <;> exact Nat.le_trans (Big.zra (by omega)) (by decide))))) (.c (j:=13) rfl (.c (j:=0) rfl .n)) ?_)
     rintro w325 -
     dsimp only [List.append_eq,List.nil_append,List.cons_append]
     refine zR 7 (by kernel_rfl) (zna (by kernel_rfl) rfl rfl rfl rfl rfl sz34 rfl (.take (.take .nil)) ?_)
     refine zwa (by kernel_rfl)<|zy<|zc<|za<|r_pv rfl rfl (zD (z:=(((i+1):Nat):Int)) rfl rfl (w64 (by omega)))<|r_pv rfl rfl (zb rfl)<|zg<|zT ((i+1),(s+(Ms.dot ((((V.getD (((F.getD i (0,0,0)).1).toNat) (0,0,0)).1) - 0),(((V.getD (((F.getD i (0,0,0)).1).toNat) (0,0,0)).2.1) - 0),(((V.getD (((F.getD i (0,0,0)).1).toNat) (0,0,0)).2.2) - 0)) (((((V.getD (((F.getD i (0,0,0)).2.1).toNat) (0,0,0)).2.1) - 0)*(((V.getD (((F.getD i (0,0,0)).2.2).toNat) (0,0,0)).2.2) - 0) - (((V.getD (((F.getD i (0,0,0)).2.1).toNat) (0,0,0)).2.2) - 0)*(((V.getD (((F.getD i (0,0,0)).2.2).toNat) (0,0,0)).2.1) - 0)),((((V.getD (((F.getD i (0,0,0)).2.1).toNat) (0,0,0)).2.2) - 0)*(((V.getD (((F.getD i (0,0,0)).2.2).toNat) (0,0,0)).1) - 0) - (((V.getD (((F.getD i (0,0,0)).2.1).toNat) (0,0,0)).1) - 0)*(((V.getD (((F.getD i (0,0,0)).2.2).toNat) (0,0,0)).2.2) - 0)),((((V.getD (((F.getD i (0,0,0)).2.1).toNat) (0,0,0)).1) - 0)*(((V.getD (((F.getD i (0,0,0)).2.2).toNat) (0,0,0)).2.1) - 0) - (((V.getD (((F.getD i (0,0,0)).2.1).toNat) (0,0,0)).2.1) - 0)*(((V.getD (((F.getD i (0,0,0)).2.2).toNat) (0,0,0)).1) - 0))))),w325) (show (i+1)≤nf∧(s+(Ms.dot ((((V.getD (((F.getD i (0,0,0)).1).toNat) (0,0,0)).1) - 0),(((V.getD (((F.getD i (0,0,0)).1).toNat) (0,0,0)).2.1) - 0),(((V.getD (((F.getD i (0,0,0)).1).toNat) (0,0,0)).2.2) - 0)) (((((V.getD (((F.getD i (0,0,0)).2.1).toNat) (0,0,0)).2.1) - 0)*(((V.getD (((F.getD i (0,0,0)).2.2).toNat) (0,0,0)).2.2) - 0) - (((V.getD (((F.getD i (0,0,0)).2.1).toNat) (0,0,0)).2.2) - 0)*(((V.getD (((F.getD i (0,0,0)).2.2).toNat) (0,0,0)).2.1) - 0)),((((V.getD (((F.getD i (0,0,0)).2.1).toNat) (0,0,0)).2.2) - 0)*(((V.getD (((F.getD i (0,0,0)).2.2).toNat) (0,0,0)).1) - 0) - (((V.getD (((F.getD i (0,0,0)).2.1).toNat) (0,0,0)).1) - 0)*(((V.getD (((F.getD i (0,0,0)).2.2).toNat) (0,0,0)).2.2) - 0)),((((V.getD (((F.getD i (0,0,0)).2.1).toNat) (0,0,0)).1) - 0)*(((V.getD (((F.getD i (0,0,0)).2.2).toNat) (0,0,0)).2.1) - 0) - (((V.getD (((F.getD i (0,0,0)).2.1).toNat) (0,0,0)).2.1) - 0)*(((V.getD (((F.getD i (0,0,0)).2.2).toNat) (0,0,0)).1) - 0)))))=Ms.volS V (F.take (i+1))∧Big.ln (s+(Ms.dot ((((V.getD (((F.getD i (0,0,0)).1).toNat) (0,0,0)).1) - 0),(((V.getD (((F.getD i (0,0,0)).1).toNat) (0,0,0)).2.1) - 0),(((V.getD (((F.getD i (0,0,0)).1).toNat) (0,0,0)).2.2) - 0)) (((((V.getD (((F.getD i (0,0,0)).2.1).toNat) (0,0,0)).2.1) - 0)*(((V.getD (((F.getD i (0,0,0)).2.2).toNat) (0,0,0)).2.2) - 0) - (((V.getD (((F.getD i (0,0,0)).2.1).toNat) (0,0,0)).2.2) - 0)*(((V.getD (((F.getD i (0,0,0)).2.2).toNat) (0,0,0)).2.1) - 0)),((((V.getD (((F.getD i (0,0,0)).2.1).toNat) (0,0,0)).2.2) - 0)*(((V.getD (((F.getD i (0,0,0)).2.2).toNat) (0,0,0)).1) - 0) - (((V.getD (((F.getD i (0,0,0)).2.1).toNat) (0,0,0)).1) - 0)*(((V.getD (((F.getD i (0,0,0)).2.2).toNat) (0,0,0)).2.2) - 0)),((((V.getD (((F.getD i (0,0,0)).2.1).toNat) (0,0,0)).1) - 0)*(((V.getD (((F.getD i (0,0,0)).2.2).toNat) (0,0,0)).2.1) - 0) - (((V.getD (((F.getD i (0,0,0)).2.1).toNat) (0,0,0)).2.1) - 0)*(((V.getD (((F.getD i (0,0,0)).2.2).toNat) (0,0,0)).1) - 0)))))≤4000+(i+1) from by refine ⟨by omega,by rw [Ms.volS_take (by omega),hs];simp [Ms.tet,Ms.det,Ms.pt,Ms.cross],?_⟩;refine Nat.le_trans (Big.zdc _ _) ?_;have h9:∀z:Int,Big.ln z≤3000→max (Big.ln s) (Big.ln z)+1≤4000+(i+1):=fun z hz=>(by omega);refine h9 _ ?_;refine Big.zRd _ _ ?_ ?_ ?_ ?_ ?_ ?_ <;> (try dsimp only) <;> first|(exact Nat.le_trans (Big.zra (by omega)) (by decide))|(refine Nat.le_trans (Big.zWa ?_ ?_ ?_ ?_) (by decide) <;> exact Nat.le_trans (Big.zra (by omega)) (by decide))) (by show nf - (i+1)<nf - i;omega) ((.of rfl):SubM _ _) (ho:=((.of [0,5,5,5] rfl):PickO _ _ _)) ((.e (j:=0) rfl (by first|rfl|simp_all) (.of [15,16,17] rfl)):SelR _ _ _)
    refine zS (X:=Wd×Wd×Wd×Wd×Wd×Wd×Wd×Wd×Wd×Nat×Nat×Nat) (k':=1) (L':=(lb 30 536870911)) (fun (u7_1,u7_2,u7_3,u15_1,u15_2,u15_3,u23_1,u23_2,u23_3,u24_1,u25_1,u26_1)=>([(11,.pointer (some ⟨u26_1,0,none⟩)),(10,.pointer (some ⟨u25_1,0,none⟩)),(9,.pointer (some ⟨u24_1,0,none⟩)),(55,.agg (cw [u23_1,u23_2,u23_3]).toArray),(27,.int .i64 ((i:Nat):Int)),(26,.int .i64 ((nf:Nat):Int)),(25,.slice pf nf cf),(5,.pointer (some ⟨b5,0,none⟩)),(3,.int .i64 0),(2,.pointer (some ⟨b2,0,none⟩)),(1,.pointer (some ⟨b1,0,none⟩))],[boxA u25_1 89 (cw [u15_1,u15_2,u15_3]),boxA u24_1 89 (cw [u7_1,u7_2,u7_3]),boxA u26_1 89 [.bool false,.slice none 0 0,.bool false,.slice none 0 0,.bool false,.slice none 0 0]],[boxA b11 42 [.int .i64 0,.int .i64 0,.int .i64 0],boxA b10 44 [.int .i64 ((F.getD i (0,0,0)).1),.int .i64 ((F.getD i (0,0,0)).2.1),.int .i64 ((F.getD i (0,0,0)).2.2)],boxA b5 34 [ws.b,ws.l],mapA b23 (fun z:Int=> .int .i64 z) (fun z:Int=> .int .i64 z) (InK .i64) bm1,boxA b2 34 [.bool false,.slice none 0 0],boxA b1 25 [.slice pv nv cv,.slice pf nf cf]],[zF u23_1 (qd1 - 0),zF u23_2 (qd2 - 0),zF u23_3 (qd3 - 0),zF u15_1 (qd4 - 0),zF u15_2 (qd5 - 0),zF u15_3 (qd6 - 0),zF u7_1 (qd7 - 0),zF u7_2 (qd8 - 0),zF u7_3 (qd9 - 0),zF ws s,zF w34 (0:Int),slF (rI3 .i64) pv cv V,slF (rI3 .i64) pf cf F])) ?_ (fun hD1=> ?_)
    ·
     rintro ⟨u7_1,u7_2,u7_3,u15_1,u15_2,u15_3,u23_1,u23_2,u23_3,u24_1,u25_1,u26_1⟩
     dsimp only [cw]
     refine zR 29 (by kernel_rfl) ?_
     ·
      refine zwb (zca (i:=2) rfl)<|zna (by kernel_rfl) rfl rfl rfl rfl rfl sz89 rfl (.take (.take (.take (.take (.take (.take .nil)))))) ?_
      exact zv (hD0 (u7_1,u7_2,u7_3,u15_1,u15_2,u15_3,u23_1,u23_2,u23_3,u24_1,u25_1,u26_1)) (by kernel_rfl) ((.of rfl):SubM _ _) .rfl .rfl ((.of [0,1,2,3,4,5,6,7,8,9,10,11,12] rfl):SelR _ _ _)
    refine zS (X:=Wd×Wd×Wd×Wd×Wd×Wd×Wd×Wd×Wd×Nat×Nat×Nat) (k':=2) (L':=(lb 30 268435455)) (fun (u7_1,u7_2,u7_3,u15_1,u15_2,u15_3,u23_1,u23_2,u23_3,u24_1,u25_1,u26_1)=>([(11,.pointer (some ⟨u26_1,0,none⟩)),(10,.pointer (some ⟨u25_1,0,none⟩)),(9,.pointer (some ⟨u24_1,0,none⟩)),(55,.agg (cw [u23_1,u23_2,u23_3]).toArray),(47,.agg (cw [u15_1,u15_2,u15_3]).toArray),(27,.int .i64 ((i:Nat):Int)),(26,.int .i64 ((nf:Nat):Int)),(25,.slice pf nf cf),(5,.pointer (some ⟨b5,0,none⟩)),(3,.int .i64 0),(2,.pointer (some ⟨b2,0,none⟩)),(1,.pointer (some ⟨b1,0,none⟩))],[boxA u24_1 89 (cw [u7_1,u7_2,u7_3]),boxA u26_1 89 [.bool false,.slice none 0 0,.bool false,.slice none 0 0,.bool false,.slice none 0 0],boxA u25_1 89 [.bool false,.slice none 0 0,.bool false,.slice none 0 0,.bool false,.slice none 0 0]],[boxA b11 42 [.int .i64 0,.int .i64 0,.int .i64 0],boxA b10 44 [.int .i64 ((F.getD i (0,0,0)).1),.int .i64 ((F.getD i (0,0,0)).2.1),.int .i64 ((F.getD i (0,0,0)).2.2)],boxA b5 34 [ws.b,ws.l],mapA b23 (fun z:Int=> .int .i64 z) (fun z:Int=> .int .i64 z) (InK .i64) bm1,boxA b2 34 [.bool false,.slice none 0 0],boxA b1 25 [.slice pv nv cv,.slice pf nf cf]],[zF u23_1 (qd1 - 0),zF u23_2 (qd2 - 0),zF u23_3 (qd3 - 0),zF u15_1 (qd4 - 0),zF u15_2 (qd5 - 0),zF u15_3 (qd6 - 0),zF u7_1 (qd7 - 0),zF u7_2 (qd8 - 0),zF u7_3 (qd9 - 0),zF ws s,zF w34 (0:Int),slF (rI3 .i64) pv cv V,slF (rI3 .i64) pf cf F])) ?_ (fun hD2=> ?_)
    ·
     rintro ⟨u7_1,u7_2,u7_3,u15_1,u15_2,u15_3,u23_1,u23_2,u23_3,u24_1,u25_1,u26_1⟩
     dsimp only [cw]
     refine zR 28 (by kernel_rfl) ?_
     ·
      refine zwb (zca (i:=2) rfl)<|zna (by kernel_rfl) rfl rfl rfl rfl rfl sz89 rfl (.take (.take (.take (.take (.take (.take .nil)))))) ?_
      exact zv (hD1 (u7_1,u7_2,u7_3,u15_1,u15_2,u15_3,u23_1,u23_2,u23_3,u24_1,u25_1,u26_1)) (by kernel_rfl) ((.of rfl):SubM _ _) .rfl .rfl ((.of [0,1,2,3,4,5,6,7,8,9,10,11,12] rfl):SelR _ _ _)
    refine zS (X:=Wd×Wd×Wd×Wd×Wd×Wd×Wd×Wd×Wd×Nat×Nat×Nat) (k':=3) (L':=(lb 30 134217727)) (fun (u7_1,u7_2,u7_3,u15_1,u15_2,u15_3,u23_1,u23_2,u23_3,u24_1,u25_1,u26_1)=>([(11,.pointer (some ⟨u26_1,0,none⟩)),(10,.pointer (some ⟨u25_1,0,none⟩)),(9,.pointer (some ⟨u24_1,0,none⟩)),(55,.agg (cw [u23_1,u23_2,u23_3]).toArray),(47,.agg (cw [u15_1,u15_2,u15_3]).toArray),(39,.agg (cw [u7_1,u7_2,u7_3]).toArray),(27,.int .i64 ((i:Nat):Int)),(26,.int .i64 ((nf:Nat):Int)),(25,.slice pf nf cf),(5,.pointer (some ⟨b5,0,none⟩)),(3,.int .i64 0),(2,.pointer (some ⟨b2,0,none⟩)),(1,.pointer (some ⟨b1,0,none⟩))],[boxA u26_1 89 [.bool false,.slice none 0 0,.bool false,.slice none 0 0,.bool false,.slice none 0 0],boxA u25_1 89 [.bool false,.slice none 0 0,.bool false,.slice none 0 0,.bool false,.slice none 0 0],boxA u24_1 89 [.bool false,.slice none 0 0,.bool false,.slice none 0 0,.bool false,.slice none 0 0]],[boxA b11 42 [.int .i64 0,.int .i64 0,.int .i64 0],boxA b10 44 [.int .i64 ((F.getD i (0,0,0)).1),.int .i64 ((F.getD i (0,0,0)).2.1),.int .i64 ((F.getD i (0,0,0)).2.2)],boxA b5 34 [ws.b,ws.l],mapA b23 (fun z:Int=> .int .i64 z) (fun z:Int=> .int .i64 z) (InK .i64) bm1,boxA b2 34 [.bool false,.slice none 0 0],boxA b1 25 [.slice pv nv cv,.slice pf nf cf]],[zF u23_1 (qd1 - 0),zF u23_2 (qd2 - 0),zF u23_3 (qd3 - 0),zF u15_1 (qd4 - 0),zF u15_2 (qd5 - 0),zF u15_3 (qd6 - 0),zF u7_1 (qd7 - 0),zF u7_2 (qd8 - 0),zF u7_3 (qd9 - 0),zF ws s,zF w34 (0:Int),slF (rI3 .i64) pv cv V,slF (rI3 .i64) pf cf F])) ?_ (fun hD3=> ?_)
    ·
     rintro ⟨u7_1,u7_2,u7_3,u15_1,u15_2,u15_3,u23_1,u23_2,u23_3,u24_1,u25_1,u26_1⟩
     dsimp only [cw]
     refine zR 27 (by kernel_rfl) ?_
     ·
      refine zwb (zca (i:=2) rfl)<|zna (by kernel_rfl) rfl rfl rfl rfl rfl sz89 rfl (.take (.take (.take (.take (.take (.take .nil)))))) ?_
      exact zv (hD2 (u7_1,u7_2,u7_3,u15_1,u15_2,u15_3,u23_1,u23_2,u23_3,u24_1,u25_1,u26_1)) (by kernel_rfl) ((.of rfl):SubM _ _) .rfl .rfl ((.of [0,1,2,3,4,5,6,7,8,9,10,11,12] rfl):SelR _ _ _)
    refine zS (X:=Wd×Wd×Wd×Wd×Wd×Wd×Wd×Wd×Wd×Nat×Nat) (k':=4) (L':=(lb 30 67108863)) (fun (u7_1,u7_2,u7_3,u15_1,u15_2,u15_3,u23_1,u23_2,u23_3,u24_1,u25_1)=>([(10,.pointer (some ⟨u25_1,0,none⟩)),(9,.pointer (some ⟨u24_1,0,none⟩)),(55,.agg (cw [u23_1,u23_2,u23_3]).toArray),(47,.agg (cw [u15_1,u15_2,u15_3]).toArray),(39,.agg (cw [u7_1,u7_2,u7_3]).toArray),(27,.int .i64 ((i:Nat):Int)),(26,.int .i64 ((nf:Nat):Int)),(25,.slice pf nf cf),(5,.pointer (some ⟨b5,0,none⟩)),(3,.int .i64 0),(2,.pointer (some ⟨b2,0,none⟩)),(1,.pointer (some ⟨b1,0,none⟩))],[boxA u25_1 89 [.bool false,.slice none 0 0,.bool false,.slice none 0 0,.bool false,.slice none 0 0],boxA u24_1 89 [.bool false,.slice none 0 0,.bool false,.slice none 0 0,.bool false,.slice none 0 0]],[boxA b11 42 [.int .i64 0,.int .i64 0,.int .i64 0],boxA b10 44 [.int .i64 ((F.getD i (0,0,0)).1),.int .i64 ((F.getD i (0,0,0)).2.1),.int .i64 ((F.getD i (0,0,0)).2.2)],boxA b5 34 [ws.b,ws.l],mapA b23 (fun z:Int=> .int .i64 z) (fun z:Int=> .int .i64 z) (InK .i64) bm1,boxA b2 34 [.bool false,.slice none 0 0],boxA b1 25 [.slice pv nv cv,.slice pf nf cf]],[zF u23_1 (qd1 - 0),zF u23_2 (qd2 - 0),zF u23_3 (qd3 - 0),zF u15_1 (qd4 - 0),zF u15_2 (qd5 - 0),zF u15_3 (qd6 - 0),zF u7_1 (qd7 - 0),zF u7_2 (qd8 - 0),zF u7_3 (qd9 - 0),zF ws s,zF w34 (0:Int),slF (rI3 .i64) pv cv V,slF (rI3 .i64) pf cf F])) ?_ (fun hD4=> ?_)
    ·
     rintro ⟨u7_1,u7_2,u7_3,u15_1,u15_2,u15_3,u23_1,u23_2,u23_3,u24_1,u25_1⟩
     dsimp only [cw]
     refine zR 26 (by kernel_rfl) ?_
     ·
      refine zaa rfl rfl rfl rfl (zr zr89 rfl) (fun u26_1 _=> ?_)
      exact zv (hD3 (u7_1,u7_2,u7_3,u15_1,u15_2,u15_3,u23_1,u23_2,u23_3,u24_1,u25_1,u26_1)) (by kernel_rfl) ((.of rfl):SubM _ _) .rfl .rfl ((.of [0,1,2,3,4,5,6,7,8,9,10,11,12] rfl):SelR _ _ _)
    refine zS (X:=Wd×Wd×Wd×Wd×Wd×Wd×Wd×Wd×Wd×Nat×Nat) (k':=4) (L':=(lb 30 100663295)) (fun (u7_1,u7_2,u7_3,u15_1,u15_2,u15_3,u23_1,u23_2,u23_3,u24_1,u26_1)=>([(11,.pointer (some ⟨u26_1,0,none⟩)),(9,.pointer (some ⟨u24_1,0,none⟩)),(55,.agg (cw [u23_1,u23_2,u23_3]).toArray),(47,.agg (cw [u15_1,u15_2,u15_3]).toArray),(39,.agg (cw [u7_1,u7_2,u7_3]).toArray),(27,.int .i64 ((i:Nat):Int)),(26,.int .i64 ((nf:Nat):Int)),(25,.slice pf nf cf),(5,.pointer (some ⟨b5,0,none⟩)),(3,.int .i64 0),(2,.pointer (some ⟨b2,0,none⟩)),(1,.pointer (some ⟨b1,0,none⟩))],[boxA u26_1 89 [.bool false,.slice none 0 0,.bool false,.slice none 0 0,.bool false,.slice none 0 0],boxA u24_1 89 [.bool false,.slice none 0 0,.bool false,.slice none 0 0,.bool false,.slice none 0 0]],[boxA b11 42 [.int .i64 0,.int .i64 0,.int .i64 0],boxA b10 44 [.int .i64 ((F.getD i (0,0,0)).1),.int .i64 ((F.getD i (0,0,0)).2.1),.int .i64 ((F.getD i (0,0,0)).2.2)],boxA b5 34 [ws.b,ws.l],mapA b23 (fun z:Int=> .int .i64 z) (fun z:Int=> .int .i64 z) (InK .i64) bm1,boxA b2 34 [.bool false,.slice none 0 0],boxA b1 25 [.slice pv nv cv,.slice pf nf cf]],[zF u23_1 (qd1 - 0),zF u23_2 (qd2 - 0),zF u23_3 (qd3 - 0),zF u15_1 (qd4 - 0),zF u15_2 (qd5 - 0),zF u15_3 (qd6 - 0),zF u7_1 (qd7 - 0),zF u7_2 (qd8 - 0),zF u7_3 (qd9 - 0),zF ws s,zF w34 (0:Int),slF (rI3 .i64) pv cv V,slF (rI3 .i64) pf cf F])) ?_ (fun hD5=> ?_)
    ·
     rintro ⟨u7_1,u7_2,u7_3,u15_1,u15_2,u15_3,u23_1,u23_2,u23_3,u24_1,u26_1⟩
     dsimp only [cw]
     refine zR 25 (by kernel_rfl) ?_
     ·
      refine zaa rfl rfl rfl rfl (zr zr89 rfl) (fun u25_1 _=> ?_)
      exact zv (hD3 (u7_1,u7_2,u7_3,u15_1,u15_2,u15_3,u23_1,u23_2,u23_3,u24_1,u25_1,u26_1)) (by kernel_rfl) ((.of rfl):SubM _ _) (zX 1 rfl (zX 0 rfl (zX 0 rfl .nil))) .rfl ((.of [0,1,2,3,4,5,6,7,8,9,10,11,12] rfl):SelR _ _ _)
    refine zS (X:=Wd×Wd×Wd×Wd×Wd×Wd×Wd×Wd×Wd×Nat×Nat) (k':=4) (L':=(lb 30 117440511)) (fun (u7_1,u7_2,u7_3,u15_1,u15_2,u15_3,u23_1,u23_2,u23_3,u25_1,u26_1)=>([(11,.pointer (some ⟨u26_1,0,none⟩)),(10,.pointer (some ⟨u25_1,0,none⟩)),(55,.agg (cw [u23_1,u23_2,u23_3]).toArray),(47,.agg (cw [u15_1,u15_2,u15_3]).toArray),(39,.agg (cw [u7_1,u7_2,u7_3]).toArray),(27,.int .i64 ((i:Nat):Int)),(26,.int .i64 ((nf:Nat):Int)),(25,.slice pf nf cf),(5,.pointer (some ⟨b5,0,none⟩)),(3,.int .i64 0),(2,.pointer (some ⟨b2,0,none⟩)),(1,.pointer (some ⟨b1,0,none⟩))],[boxA u26_1 89 [.bool false,.slice none 0 0,.bool false,.slice none 0 0,.bool false,.slice none 0 0],boxA u25_1 89 [.bool false,.slice none 0 0,.bool false,.slice none 0 0,.bool false,.slice none 0 0]],[boxA b11 42 [.int .i64 0,.int .i64 0,.int .i64 0],boxA b10 44 [.int .i64 ((F.getD i (0,0,0)).1),.int .i64 ((F.getD i (0,0,0)).2.1),.int .i64 ((F.getD i (0,0,0)).2.2)],boxA b5 34 [ws.b,ws.l],mapA b23 (fun z:Int=> .int .i64 z) (fun z:Int=> .int .i64 z) (InK .i64) bm1,boxA b2 34 [.bool false,.slice none 0 0],boxA b1 25 [.slice pv nv cv,.slice pf nf cf]],[zF u23_1 (qd1 - 0),zF u23_2 (qd2 - 0),zF u23_3 (qd3 - 0),zF u15_1 (qd4 - 0),zF u15_2 (qd5 - 0),zF u15_3 (qd6 - 0),zF u7_1 (qd7 - 0),zF u7_2 (qd8 - 0),zF u7_3 (qd9 - 0),zF ws s,zF w34 (0:Int),slF (rI3 .i64) pv cv V,slF (rI3 .i64) pf cf F])) ?_ (fun hD6=> ?_)
    ·
     rintro ⟨u7_1,u7_2,u7_3,u15_1,u15_2,u15_3,u23_1,u23_2,u23_3,u25_1,u26_1⟩
     dsimp only [cw]
     refine zR 24 (by kernel_rfl) ?_
     ·
      refine zaa rfl rfl rfl rfl (zr zr89 rfl) (fun u24_1 _=> ?_)
      exact zv (hD3 (u7_1,u7_2,u7_3,u15_1,u15_2,u15_3,u23_1,u23_2,u23_3,u24_1,u25_1,u26_1)) (by kernel_rfl) ((.of rfl):SubM _ _) (zX 1 rfl (zX 1 rfl (zX 0 rfl .nil))) .rfl ((.of [0,1,2,3,4,5,6,7,8,9,10,11,12] rfl):SelR _ _ _)
    refine zS (X:=Wd×Wd×Wd×Wd×Wd×Wd×Nat×Nat×Nat) (k':=4) (L':=(lb 30 125829119)) (fun (u7_1,u7_2,u7_3,u15_1,u15_2,u15_3,u24_1,u25_1,u26_1)=>([(11,.pointer (some ⟨u26_1,0,none⟩)),(10,.pointer (some ⟨u25_1,0,none⟩)),(9,.pointer (some ⟨u24_1,0,none⟩)),(47,.agg (cw [u15_1,u15_2,u15_3]).toArray),(39,.agg (cw [u7_1,u7_2,u7_3]).toArray),(54,.agg #[.int .i64 qd1,.int .i64 qd2,.int .i64 qd3]),(48,.agg #[.int .i64 0,.int .i64 0,.int .i64 0]),(27,.int .i64 ((i:Nat):Int)),(26,.int .i64 ((nf:Nat):Int)),(25,.slice pf nf cf),(5,.pointer (some ⟨b5,0,none⟩)),(3,.int .i64 0),(2,.pointer (some ⟨b2,0,none⟩)),(1,.pointer (some ⟨b1,0,none⟩))],[boxA u26_1 89 [.bool false,.slice none 0 0,.bool false,.slice none 0 0,.bool false,.slice none 0 0],boxA u25_1 89 [.bool false,.slice none 0 0,.bool false,.slice none 0 0,.bool false,.slice none 0 0],boxA u24_1 89 [.bool false,.slice none 0 0,.bool false,.slice none 0 0,.bool false,.slice none 0 0]],[boxA b11 42 [.int .i64 0,.int .i64 0,.int .i64 0],boxA b10 44 [.int .i64 ((F.getD i (0,0,0)).1),.int .i64 ((F.getD i (0,0,0)).2.1),.int .i64 ((F.getD i (0,0,0)).2.2)],boxA b5 34 [ws.b,ws.l],mapA b23 (fun z:Int=> .int .i64 z) (fun z:Int=> .int .i64 z) (InK .i64) bm1,boxA b2 34 [.bool false,.slice none 0 0],boxA b1 25 [.slice pv nv cv,.slice pf nf cf]],[zF u15_1 (qd4 - 0),zF u15_2 (qd5 - 0),zF u15_3 (qd6 - 0),zF u7_1 (qd7 - 0),zF u7_2 (qd8 - 0),zF u7_3 (qd9 - 0),zF ws s,zF w34 (0:Int),slF (rI3 .i64) pv cv V,slF (rI3 .i64) pf cf F])) ?_ (fun hD7=> ?_)
    ·
     rintro ⟨u7_1,u7_2,u7_3,u15_1,u15_2,u15_3,u24_1,u25_1,u26_1⟩
     dsimp only [cw]
     refine zR 23 (by kernel_rfl) ?_
     ·
      refine zM rfl rfl rfl rfl (.c rfl (.c rfl .n)) ce58 (zsa (ex:=0) (ey:=0) (ez:=0) (fx:=qd1) (fy:=qd2) (fz:=qd3) (hbex:=by omega) (hbey:=by omega) (hbez:=by omega) (hbfx:=by omega) (hbfy:=by omega) (hbfz:=by omega)) (.n) ?_
      rintro ⟨u23_1,u23_2,u23_3⟩ -
      dsimp only [List.append_eq,List.nil_append,List.cons_append]
      exact zv (hD3 (u7_1,u7_2,u7_3,u15_1,u15_2,u15_3,u23_1,u23_2,u23_3,u24_1,u25_1,u26_1)) (by kernel_rfl) ((.of rfl):SubM _ _) .rfl .rfl ((.of [0,1,2,3,4,5,6,7,8,9,10,11,12] rfl):SelR _ _ _)
    refine zS (X:=Wd×Wd×Wd×Wd×Wd×Wd×Wd×Wd×Wd×Nat) (k':=5) (L':=(lb 30 33554431)) (fun (u7_1,u7_2,u7_3,u15_1,u15_2,u15_3,u23_1,u23_2,u23_3,u24_1)=>([(9,.pointer (some ⟨u24_1,0,none⟩)),(55,.agg (cw [u23_1,u23_2,u23_3]).toArray),(47,.agg (cw [u15_1,u15_2,u15_3]).toArray),(39,.agg (cw [u7_1,u7_2,u7_3]).toArray),(27,.int .i64 ((i:Nat):Int)),(26,.int .i64 ((nf:Nat):Int)),(25,.slice pf nf cf),(5,.pointer (some ⟨b5,0,none⟩)),(3,.int .i64 0),(2,.pointer (some ⟨b2,0,none⟩)),(1,.pointer (some ⟨b1,0,none⟩))],[boxA u24_1 89 [.bool false,.slice none 0 0,.bool false,.slice none 0 0,.bool false,.slice none 0 0]],[boxA b11 42 [.int .i64 0,.int .i64 0,.int .i64 0],boxA b10 44 [.int .i64 ((F.getD i (0,0,0)).1),.int .i64 ((F.getD i (0,0,0)).2.1),.int .i64 ((F.getD i (0,0,0)).2.2)],boxA b5 34 [ws.b,ws.l],mapA b23 (fun z:Int=> .int .i64 z) (fun z:Int=> .int .i64 z) (InK .i64) bm1,boxA b2 34 [.bool false,.slice none 0 0],boxA b1 25 [.slice pv nv cv,.slice pf nf cf]],[zF u23_1 (qd1 - 0),zF u23_2 (qd2 - 0),zF u23_3 (qd3 - 0),zF u15_1 (qd4 - 0),zF u15_2 (qd5 - 0),zF u15_3 (qd6 - 0),zF u7_1 (qd7 - 0),zF u7_2 (qd8 - 0),zF u7_3 (qd9 - 0),zF ws s,zF w34 (0:Int),slF (rI3 .i64) pv cv V,slF (rI3 .i64) pf cf F])) ?_ (fun hD8=> ?_)
    ·
     rintro ⟨u7_1,u7_2,u7_3,u15_1,u15_2,u15_3,u23_1,u23_2,u23_3,u24_1⟩
     dsimp only [cw]
     refine zcb 25 26 (by kernel_rfl) ?_ ?_
     ·
      refine zaa rfl rfl rfl rfl (zr zr89 rfl) (fun u25_1 _=> ?_)
      exact zv (hD4 (u7_1,u7_2,u7_3,u15_1,u15_2,u15_3,u23_1,u23_2,u23_3,u24_1,u25_1)) (by kernel_rfl) ((.of rfl):SubM _ _) .rfl .rfl ((.of [0,1,2,3,4,5,6,7,8,9,10,11,12] rfl):SelR _ _ _)
     ·
      refine zaa rfl rfl rfl rfl (zr zr89 rfl) (fun u26_1 _=> ?_)
      exact zv (hD5 (u7_1,u7_2,u7_3,u15_1,u15_2,u15_3,u23_1,u23_2,u23_3,u24_1,u26_1)) (by kernel_rfl) ((.of rfl):SubM _ _) .rfl .rfl ((.of [0,1,2,3,4,5,6,7,8,9,10,11,12] rfl):SelR _ _ _)
    refine zS (X:=Wd×Wd×Wd×Wd×Wd×Wd×Wd×Wd×Wd×Nat) (k':=5) (L':=(lb 30 50331647)) (fun (u7_1,u7_2,u7_3,u15_1,u15_2,u15_3,u23_1,u23_2,u23_3,u25_1)=>([(10,.pointer (some ⟨u25_1,0,none⟩)),(55,.agg (cw [u23_1,u23_2,u23_3]).toArray),(47,.agg (cw [u15_1,u15_2,u15_3]).toArray),(39,.agg (cw [u7_1,u7_2,u7_3]).toArray),(27,.int .i64 ((i:Nat):Int)),(26,.int .i64 ((nf:Nat):Int)),(25,.slice pf nf cf),(5,.pointer (some ⟨b5,0,none⟩)),(3,.int .i64 0),(2,.pointer (some ⟨b2,0,none⟩)),(1,.pointer (some ⟨b1,0,none⟩))],[boxA u25_1 89 [.bool false,.slice none 0 0,.bool false,.slice none 0 0,.bool false,.slice none 0 0]],[boxA b11 42 [.int .i64 0,.int .i64 0,.int .i64 0],boxA b10 44 [.int .i64 ((F.getD i (0,0,0)).1),.int .i64 ((F.getD i (0,0,0)).2.1),.int .i64 ((F.getD i (0,0,0)).2.2)],boxA b5 34 [ws.b,ws.l],mapA b23 (fun z:Int=> .int .i64 z) (fun z:Int=> .int .i64 z) (InK .i64) bm1,boxA b2 34 [.bool false,.slice none 0 0],boxA b1 25 [.slice pv nv cv,.slice pf nf cf]],[zF u23_1 (qd1 - 0),zF u23_2 (qd2 - 0),zF u23_3 (qd3 - 0),zF u15_1 (qd4 - 0),zF u15_2 (qd5 - 0),zF u15_3 (qd6 - 0),zF u7_1 (qd7 - 0),zF u7_2 (qd8 - 0),zF u7_3 (qd9 - 0),zF ws s,zF w34 (0:Int),slF (rI3 .i64) pv cv V,slF (rI3 .i64) pf cf F])) ?_ (fun hD9=> ?_)
    ·
     rintro ⟨u7_1,u7_2,u7_3,u15_1,u15_2,u15_3,u23_1,u23_2,u23_3,u25_1⟩
     dsimp only [cw]
     refine zcb 24 26 (by kernel_rfl) ?_ ?_
     ·
      refine zaa rfl rfl rfl rfl (zr zr89 rfl) (fun u24_1 _=> ?_)
      exact zv (hD4 (u7_1,u7_2,u7_3,u15_1,u15_2,u15_3,u23_1,u23_2,u23_3,u24_1,u25_1)) (by kernel_rfl) ((.of rfl):SubM _ _) (zX 1 rfl (zX 0 rfl .nil)) .rfl ((.of [0,1,2,3,4,5,6,7,8,9,10,11,12] rfl):SelR _ _ _)
     ·
      refine zaa rfl rfl rfl rfl (zr zr89 rfl) (fun u26_1 _=> ?_)
      exact zv (hD6 (u7_1,u7_2,u7_3,u15_1,u15_2,u15_3,u23_1,u23_2,u23_3,u25_1,u26_1)) (by kernel_rfl) ((.of rfl):SubM _ _) .rfl .rfl ((.of [0,1,2,3,4,5,6,7,8,9,10,11,12] rfl):SelR _ _ _)
    refine zS (X:=Wd×Wd×Wd×Wd×Wd×Wd×Wd×Wd×Wd×Nat) (k':=5) (L':=(lb 30 83886079)) (fun (u7_1,u7_2,u7_3,u15_1,u15_2,u15_3,u23_1,u23_2,u23_3,u26_1)=>([(11,.pointer (some ⟨u26_1,0,none⟩)),(55,.agg (cw [u23_1,u23_2,u23_3]).toArray),(47,.agg (cw [u15_1,u15_2,u15_3]).toArray),(39,.agg (cw [u7_1,u7_2,u7_3]).toArray),(27,.int .i64 ((i:Nat):Int)),(26,.int .i64 ((nf:Nat):Int)),(25,.slice pf nf cf),(5,.pointer (some ⟨b5,0,none⟩)),(3,.int .i64 0),(2,.pointer (some ⟨b2,0,none⟩)),(1,.pointer (some ⟨b1,0,none⟩))],[boxA u26_1 89 [.bool false,.slice none 0 0,.bool false,.slice none 0 0,.bool false,.slice none 0 0]],[boxA b11 42 [.int .i64 0,.int .i64 0,.int .i64 0],boxA b10 44 [.int .i64 ((F.getD i (0,0,0)).1),.int .i64 ((F.getD i (0,0,0)).2.1),.int .i64 ((F.getD i (0,0,0)).2.2)],boxA b5 34 [ws.b,ws.l],mapA b23 (fun z:Int=> .int .i64 z) (fun z:Int=> .int .i64 z) (InK .i64) bm1,boxA b2 34 [.bool false,.slice none 0 0],boxA b1 25 [.slice pv nv cv,.slice pf nf cf]],[zF u23_1 (qd1 - 0),zF u23_2 (qd2 - 0),zF u23_3 (qd3 - 0),zF u15_1 (qd4 - 0),zF u15_2 (qd5 - 0),zF u15_3 (qd6 - 0),zF u7_1 (qd7 - 0),zF u7_2 (qd8 - 0),zF u7_3 (qd9 - 0),zF ws s,zF w34 (0:Int),slF (rI3 .i64) pv cv V,slF (rI3 .i64) pf cf F])) ?_ (fun hD10=> ?_)
    ·
     rintro ⟨u7_1,u7_2,u7_3,u15_1,u15_2,u15_3,u23_1,u23_2,u23_3,u26_1⟩
     dsimp only [cw]
     refine zcb 24 25 (by kernel_rfl) ?_ ?_
     ·
      refine zaa rfl rfl rfl rfl (zr zr89 rfl) (fun u24_1 _=> ?_)
      exact zv (hD5 (u7_1,u7_2,u7_3,u15_1,u15_2,u15_3,u23_1,u23_2,u23_3,u24_1,u26_1)) (by kernel_rfl) ((.of rfl):SubM _ _) (zX 1 rfl (zX 0 rfl .nil)) .rfl ((.of [0,1,2,3,4,5,6,7,8,9,10,11,12] rfl):SelR _ _ _)
     ·
      refine zaa rfl rfl rfl rfl (zr zr89 rfl) (fun u25_1 _=> ?_)
      exact zv (hD6 (u7_1,u7_2,u7_3,u15_1,u15_2,u15_3,u23_1,u23_2,u23_3,u25_1,u26_1)) (by kernel_rfl) ((.of rfl):SubM _ _) (zX 1 rfl (zX 0 rfl .nil)) .rfl ((.of [0,1,2,3,4,5,6,7,8,9,10,11,12] rfl):SelR _ _ _)
    refine zS (X:=Wd×Wd×Wd×Wd×Wd×Wd×Nat×Nat) (k':=5) (L':=(lb 30 58720255)) (fun (u7_1,u7_2,u7_3,u15_1,u15_2,u15_3,u24_1,u25_1)=>([(10,.pointer (some ⟨u25_1,0,none⟩)),(9,.pointer (some ⟨u24_1,0,none⟩)),(47,.agg (cw [u15_1,u15_2,u15_3]).toArray),(39,.agg (cw [u7_1,u7_2,u7_3]).toArray),(54,.agg #[.int .i64 qd1,.int .i64 qd2,.int .i64 qd3]),(48,.agg #[.int .i64 0,.int .i64 0,.int .i64 0]),(27,.int .i64 ((i:Nat):Int)),(26,.int .i64 ((nf:Nat):Int)),(25,.slice pf nf cf),(5,.pointer (some ⟨b5,0,none⟩)),(3,.int .i64 0),(2,.pointer (some ⟨b2,0,none⟩)),(1,.pointer (some ⟨b1,0,none⟩))],[boxA u25_1 89 [.bool false,.slice none 0 0,.bool false,.slice none 0 0,.bool false,.slice none 0 0],boxA u24_1 89 [.bool false,.slice none 0 0,.bool false,.slice none 0 0,.bool false,.slice none 0 0]],[boxA b11 42 [.int .i64 0,.int .i64 0,.int .i64 0],boxA b10 44 [.int .i64 ((F.getD i (0,0,0)).1),.int .i64 ((F.getD i (0,0,0)).2.1),.int .i64 ((F.getD i (0,0,0)).2.2)],boxA b5 34 [ws.b,ws.l],mapA b23 (fun z:Int=> .int .i64 z) (fun z:Int=> .int .i64 z) (InK .i64) bm1,boxA b2 34 [.bool false,.slice none 0 0],boxA b1 25 [.slice pv nv cv,.slice pf nf cf]],[zF u15_1 (qd4 - 0),zF u15_2 (qd5 - 0),zF u15_3 (qd6 - 0),zF u7_1 (qd7 - 0),zF u7_2 (qd8 - 0),zF u7_3 (qd9 - 0),zF ws s,zF w34 (0:Int),slF (rI3 .i64) pv cv V,slF (rI3 .i64) pf cf F])) ?_ (fun hD11=> ?_)
    ·
     rintro ⟨u7_1,u7_2,u7_3,u15_1,u15_2,u15_3,u24_1,u25_1⟩
     dsimp only [cw]
     refine zcb 23 26 (by kernel_rfl) ?_ ?_
     ·
      refine zM rfl rfl rfl rfl (.c rfl (.c rfl .n)) ce58 (zsa (ex:=0) (ey:=0) (ez:=0) (fx:=qd1) (fy:=qd2) (fz:=qd3) (hbex:=by omega) (hbey:=by omega) (hbez:=by omega) (hbfx:=by omega) (hbfy:=by omega) (hbfz:=by omega)) (.n) ?_
      rintro ⟨u23_1,u23_2,u23_3⟩ -
      dsimp only [List.append_eq,List.nil_append,List.cons_append]
      exact zv (hD4 (u7_1,u7_2,u7_3,u15_1,u15_2,u15_3,u23_1,u23_2,u23_3,u24_1,u25_1)) (by kernel_rfl) ((.of rfl):SubM _ _) .rfl .rfl ((.of [0,1,2,3,4,5,6,7,8,9,10,11,12] rfl):SelR _ _ _)
     ·
      refine zaa rfl rfl rfl rfl (zr zr89 rfl) (fun u26_1 _=> ?_)
      exact zv (hD7 (u7_1,u7_2,u7_3,u15_1,u15_2,u15_3,u24_1,u25_1,u26_1)) (by kernel_rfl) ((.of rfl):SubM _ _) .rfl .rfl ((.of [0,1,2,3,4,5,6,7,8,9] rfl):SelR _ _ _)
    refine zS (X:=Wd×Wd×Wd×Wd×Wd×Wd×Nat×Nat) (k':=5) (L':=(lb 30 92274687)) (fun (u7_1,u7_2,u7_3,u15_1,u15_2,u15_3,u24_1,u26_1)=>([(11,.pointer (some ⟨u26_1,0,none⟩)),(9,.pointer (some ⟨u24_1,0,none⟩)),(47,.agg (cw [u15_1,u15_2,u15_3]).toArray),(39,.agg (cw [u7_1,u7_2,u7_3]).toArray),(54,.agg #[.int .i64 qd1,.int .i64 qd2,.int .i64 qd3]),(48,.agg #[.int .i64 0,.int .i64 0,.int .i64 0]),(27,.int .i64 ((i:Nat):Int)),(26,.int .i64 ((nf:Nat):Int)),(25,.slice pf nf cf),(5,.pointer (some ⟨b5,0,none⟩)),(3,.int .i64 0),(2,.pointer (some ⟨b2,0,none⟩)),(1,.pointer (some ⟨b1,0,none⟩))],[boxA u26_1 89 [.bool false,.slice none 0 0,.bool false,.slice none 0 0,.bool false,.slice none 0 0],boxA u24_1 89 [.bool false,.slice none 0 0,.bool false,.slice none 0 0,.bool false,.slice none 0 0]],[boxA b11 42 [.int .i64 0,.int .i64 0,.int .i64 0],boxA b10 44 [.int .i64 ((F.getD i (0,0,0)).1),.int .i64 ((F.getD i (0,0,0)).2.1),.int .i64 ((F.getD i (0,0,0)).2.2)],boxA b5 34 [ws.b,ws.l],mapA b23 (fun z:Int=> .int .i64 z) (fun z:Int=> .int .i64 z) (InK .i64) bm1,boxA b2 34 [.bool false,.slice none 0 0],boxA b1 25 [.slice pv nv cv,.slice pf nf cf]],[zF u15_1 (qd4 - 0),zF u15_2 (qd5 - 0),zF u15_3 (qd6 - 0),zF u7_1 (qd7 - 0),zF u7_2 (qd8 - 0),zF u7_3 (qd9 - 0),zF ws s,zF w34 (0:Int),slF (rI3 .i64) pv cv V,slF (rI3 .i64) pf cf F])) ?_ (fun hD12=> ?_)
    ·
     rintro ⟨u7_1,u7_2,u7_3,u15_1,u15_2,u15_3,u24_1,u26_1⟩
     dsimp only [cw]
     refine zcb 23 25 (by kernel_rfl) ?_ ?_
     ·
      refine zM rfl rfl rfl rfl (.c rfl (.c rfl .n)) ce58 (zsa (ex:=0) (ey:=0) (ez:=0) (fx:=qd1) (fy:=qd2) (fz:=qd3) (hbex:=by omega) (hbey:=by omega) (hbez:=by omega) (hbfx:=by omega) (hbfy:=by omega) (hbfz:=by omega)) (.n) ?_
      rintro ⟨u23_1,u23_2,u23_3⟩ -
      dsimp only [List.append_eq,List.nil_append,List.cons_append]
      exact zv (hD5 (u7_1,u7_2,u7_3,u15_1,u15_2,u15_3,u23_1,u23_2,u23_3,u24_1,u26_1)) (by kernel_rfl) ((.of rfl):SubM _ _) .rfl .rfl ((.of [0,1,2,3,4,5,6,7,8,9,10,11,12] rfl):SelR _ _ _)
     ·
      refine zaa rfl rfl rfl rfl (zr zr89 rfl) (fun u25_1 _=> ?_)
      exact zv (hD7 (u7_1,u7_2,u7_3,u15_1,u15_2,u15_3,u24_1,u25_1,u26_1)) (by kernel_rfl) ((.of rfl):SubM _ _) (zX 1 rfl (zX 0 rfl (zX 0 rfl .nil))) .rfl ((.of [0,1,2,3,4,5,6,7,8,9] rfl):SelR _ _ _)
    refine zS (X:=Wd×Wd×Wd×Wd×Wd×Wd×Nat×Nat) (k':=5) (L':=(lb 30 109051903)) (fun (u7_1,u7_2,u7_3,u15_1,u15_2,u15_3,u25_1,u26_1)=>([(11,.pointer (some ⟨u26_1,0,none⟩)),(10,.pointer (some ⟨u25_1,0,none⟩)),(47,.agg (cw [u15_1,u15_2,u15_3]).toArray),(39,.agg (cw [u7_1,u7_2,u7_3]).toArray),(54,.agg #[.int .i64 qd1,.int .i64 qd2,.int .i64 qd3]),(48,.agg #[.int .i64 0,.int .i64 0,.int .i64 0]),(27,.int .i64 ((i:Nat):Int)),(26,.int .i64 ((nf:Nat):Int)),(25,.slice pf nf cf),(5,.pointer (some ⟨b5,0,none⟩)),(3,.int .i64 0),(2,.pointer (some ⟨b2,0,none⟩)),(1,.pointer (some ⟨b1,0,none⟩))],[boxA u26_1 89 [.bool false,.slice none 0 0,.bool false,.slice none 0 0,.bool false,.slice none 0 0],boxA u25_1 89 [.bool false,.slice none 0 0,.bool false,.slice none 0 0,.bool false,.slice none 0 0]],[boxA b11 42 [.int .i64 0,.int .i64 0,.int .i64 0],boxA b10 44 [.int .i64 ((F.getD i (0,0,0)).1),.int .i64 ((F.getD i (0,0,0)).2.1),.int .i64 ((F.getD i (0,0,0)).2.2)],boxA b5 34 [ws.b,ws.l],mapA b23 (fun z:Int=> .int .i64 z) (fun z:Int=> .int .i64 z) (InK .i64) bm1,boxA b2 34 [.bool false,.slice none 0 0],boxA b1 25 [.slice pv nv cv,.slice pf nf cf]],[zF u15_1 (qd4 - 0),zF u15_2 (qd5 - 0),zF u15_3 (qd6 - 0),zF u7_1 (qd7 - 0),zF u7_2 (qd8 - 0),zF u7_3 (qd9 - 0),zF ws s,zF w34 (0:Int),slF (rI3 .i64) pv cv V,slF (rI3 .i64) pf cf F])) ?_ (fun hD13=> ?_)
    ·
     rintro ⟨u7_1,u7_2,u7_3,u15_1,u15_2,u15_3,u25_1,u26_1⟩
     dsimp only [cw]
     refine zcb 23 24 (by kernel_rfl) ?_ ?_
     ·
      refine zM rfl rfl rfl rfl (.c rfl (.c rfl .n)) ce58 (zsa (ex:=0) (ey:=0) (ez:=0) (fx:=qd1) (fy:=qd2) (fz:=qd3) (hbex:=by omega) (hbey:=by omega) (hbez:=by omega) (hbfx:=by omega) (hbfy:=by omega) (hbfz:=by omega)) (.n) ?_
      rintro ⟨u23_1,u23_2,u23_3⟩ -
      dsimp only [List.append_eq,List.nil_append,List.cons_append]
      exact zv (hD6 (u7_1,u7_2,u7_3,u15_1,u15_2,u15_3,u23_1,u23_2,u23_3,u25_1,u26_1)) (by kernel_rfl) ((.of rfl):SubM _ _) .rfl .rfl ((.of [0,1,2,3,4,5,6,7,8,9,10,11,12] rfl):SelR _ _ _)
     ·
      refine zaa rfl rfl rfl rfl (zr zr89 rfl) (fun u24_1 _=> ?_)
      exact zv (hD7 (u7_1,u7_2,u7_3,u15_1,u15_2,u15_3,u24_1,u25_1,u26_1)) (by kernel_rfl) ((.of rfl):SubM _ _) (zX 1 rfl (zX 1 rfl (zX 0 rfl .nil))) .rfl ((.of [0,1,2,3,4,5,6,7,8,9] rfl):SelR _ _ _)
    refine zS (X:=Wd×Wd×Wd×Nat×Nat×Nat) (k':=5) (L':=(lb 30 125796351)) (fun (u7_1,u7_2,u7_3,u24_1,u25_1,u26_1)=>([(11,.pointer (some ⟨u26_1,0,none⟩)),(10,.pointer (some ⟨u25_1,0,none⟩)),(9,.pointer (some ⟨u24_1,0,none⟩)),(39,.agg (cw [u7_1,u7_2,u7_3]).toArray),(54,.agg #[.int .i64 qd1,.int .i64 qd2,.int .i64 qd3]),(48,.agg #[.int .i64 0,.int .i64 0,.int .i64 0]),(46,.agg #[.int .i64 qd4,.int .i64 qd5,.int .i64 qd6]),(40,.agg #[.int .i64 0,.int .i64 0,.int .i64 0]),(27,.int .i64 ((i:Nat):Int)),(26,.int .i64 ((nf:Nat):Int)),(25,.slice pf nf cf),(5,.pointer (some ⟨b5,0,none⟩)),(3,.int .i64 0),(2,.pointer (some ⟨b2,0,none⟩)),(1,.pointer (some ⟨b1,0,none⟩))],[boxA u26_1 89 [.bool false,.slice none 0 0,.bool false,.slice none 0 0,.bool false,.slice none 0 0],boxA u25_1 89 [.bool false,.slice none 0 0,.bool false,.slice none 0 0,.bool false,.slice none 0 0],boxA u24_1 89 [.bool false,.slice none 0 0,.bool false,.slice none 0 0,.bool false,.slice none 0 0]],[boxA b11 42 [.int .i64 0,.int .i64 0,.int .i64 0],boxA b10 44 [.int .i64 ((F.getD i (0,0,0)).1),.int .i64 ((F.getD i (0,0,0)).2.1),.int .i64 ((F.getD i (0,0,0)).2.2)],boxA b5 34 [ws.b,ws.l],mapA b23 (fun z:Int=> .int .i64 z) (fun z:Int=> .int .i64 z) (InK .i64) bm1,boxA b2 34 [.bool false,.slice none 0 0],boxA b1 25 [.slice pv nv cv,.slice pf nf cf]],[zF u7_1 (qd7 - 0),zF u7_2 (qd8 - 0),zF u7_3 (qd9 - 0),zF ws s,zF w34 (0:Int),slF (rI3 .i64) pv cv V,slF (rI3 .i64) pf cf F])) ?_ (fun hD14=> ?_)
    ·
     rintro ⟨u7_1,u7_2,u7_3,u24_1,u25_1,u26_1⟩
     dsimp only [cw]
     refine zR 15 (by kernel_rfl) ?_
     ·
      refine zM rfl rfl rfl rfl (.c rfl (.c rfl .n)) ce58 (zsa (ex:=0) (ey:=0) (ez:=0) (fx:=qd4) (fy:=qd5) (fz:=qd6) (hbex:=by omega) (hbey:=by omega) (hbez:=by omega) (hbfx:=by omega) (hbfy:=by omega) (hbfz:=by omega)) (.n) ?_
      rintro ⟨u15_1,u15_2,u15_3⟩ -
      dsimp only [List.append_eq,List.nil_append,List.cons_append]
      exact zv (hD7 (u7_1,u7_2,u7_3,u15_1,u15_2,u15_3,u24_1,u25_1,u26_1)) (by kernel_rfl) ((.of rfl):SubM _ _) .rfl .rfl ((.of [0,1,2,3,4,5,6,7,8,9] rfl):SelR _ _ _)
    refine zS (X:=Wd×Wd×Wd×Wd×Wd×Wd×Wd×Wd×Wd) (k':=6) (L':=(lb 30 16777215)) (fun (u7_1,u7_2,u7_3,u15_1,u15_2,u15_3,u23_1,u23_2,u23_3)=>([(55,.agg (cw [u23_1,u23_2,u23_3]).toArray),(47,.agg (cw [u15_1,u15_2,u15_3]).toArray),(39,.agg (cw [u7_1,u7_2,u7_3]).toArray),(27,.int .i64 ((i:Nat):Int)),(26,.int .i64 ((nf:Nat):Int)),(25,.slice pf nf cf),(5,.pointer (some ⟨b5,0,none⟩)),(3,.int .i64 0),(2,.pointer (some ⟨b2,0,none⟩)),(1,.pointer (some ⟨b1,0,none⟩))],[],[boxA b11 42 [.int .i64 0,.int .i64 0,.int .i64 0],boxA b10 44 [.int .i64 ((F.getD i (0,0,0)).1),.int .i64 ((F.getD i (0,0,0)).2.1),.int .i64 ((F.getD i (0,0,0)).2.2)],boxA b5 34 [ws.b,ws.l],mapA b23 (fun z:Int=> .int .i64 z) (fun z:Int=> .int .i64 z) (InK .i64) bm1,boxA b2 34 [.bool false,.slice none 0 0],boxA b1 25 [.slice pv nv cv,.slice pf nf cf]],[zF u23_1 (qd1 - 0),zF u23_2 (qd2 - 0),zF u23_3 (qd3 - 0),zF u15_1 (qd4 - 0),zF u15_2 (qd5 - 0),zF u15_3 (qd6 - 0),zF u7_1 (qd7 - 0),zF u7_2 (qd8 - 0),zF u7_3 (qd9 - 0),zF ws s,zF w34 (0:Int),slF (rI3 .i64) pv cv V,slF (rI3 .i64) pf cf F])) ?_ (fun hD15=> ?_)
    ·
     rintro ⟨u7_1,u7_2,u7_3,u15_1,u15_2,u15_3,u23_1,u23_2,u23_3⟩
     dsimp only [cw]
     refine zhb 24 25 26 (by kernel_rfl) ?_ ?_ ?_
     ·
      refine zaa rfl rfl rfl rfl (zr zr89 rfl) (fun u24_1 _=> ?_)
      exact zv (hD8 (u7_1,u7_2,u7_3,u15_1,u15_2,u15_3,u23_1,u23_2,u23_3,u24_1)) (by kernel_rfl) ((.of rfl):SubM _ _) .rfl .rfl ((.of [0,1,2,3,4,5,6,7,8,9,10,11,12] rfl):SelR _ _ _)
     ·
      refine zaa rfl rfl rfl rfl (zr zr89 rfl) (fun u25_1 _=> ?_)
      exact zv (hD9 (u7_1,u7_2,u7_3,u15_1,u15_2,u15_3,u23_1,u23_2,u23_3,u25_1)) (by kernel_rfl) ((.of rfl):SubM _ _) .rfl .rfl ((.of [0,1,2,3,4,5,6,7,8,9,10,11,12] rfl):SelR _ _ _)
     ·
      refine zaa rfl rfl rfl rfl (zr zr89 rfl) (fun u26_1 _=> ?_)
      exact zv (hD10 (u7_1,u7_2,u7_3,u15_1,u15_2,u15_3,u23_1,u23_2,u23_3,u26_1)) (by kernel_rfl) ((.of rfl):SubM _ _) .rfl .rfl ((.of [0,1,2,3,4,5,6,7,8,9,10,11,12] rfl):SelR _ _ _)
    refine zS (X:=Wd×Wd×Wd×Wd×Wd×Wd×Nat) (k':=6) (L':=(lb 30 25165823)) (fun (u7_1,u7_2,u7_3,u15_1,u15_2,u15_3,u24_1)=>([(9,.pointer (some ⟨u24_1,0,none⟩)),(47,.agg (cw [u15_1,u15_2,u15_3]).toArray),(39,.agg (cw [u7_1,u7_2,u7_3]).toArray),(54,.agg #[.int .i64 qd1,.int .i64 qd2,.int .i64 qd3]),(48,.agg #[.int .i64 0,.int .i64 0,.int .i64 0]),(27,.int .i64 ((i:Nat):Int)),(26,.int .i64 ((nf:Nat):Int)),(25,.slice pf nf cf),(5,.pointer (some ⟨b5,0,none⟩)),(3,.int .i64 0),(2,.pointer (some ⟨b2,0,none⟩)),(1,.pointer (some ⟨b1,0,none⟩))],[boxA u24_1 89 [.bool false,.slice none 0 0,.bool false,.slice none 0 0,.bool false,.slice none 0 0]],[boxA b11 42 [.int .i64 0,.int .i64 0,.int .i64 0],boxA b10 44 [.int .i64 ((F.getD i (0,0,0)).1),.int .i64 ((F.getD i (0,0,0)).2.1),.int .i64 ((F.getD i (0,0,0)).2.2)],boxA b5 34 [ws.b,ws.l],mapA b23 (fun z:Int=> .int .i64 z) (fun z:Int=> .int .i64 z) (InK .i64) bm1,boxA b2 34 [.bool false,.slice none 0 0],boxA b1 25 [.slice pv nv cv,.slice pf nf cf]],[zF u15_1 (qd4 - 0),zF u15_2 (qd5 - 0),zF u15_3 (qd6 - 0),zF u7_1 (qd7 - 0),zF u7_2 (qd8 - 0),zF u7_3 (qd9 - 0),zF ws s,zF w34 (0:Int),slF (rI3 .i64) pv cv V,slF (rI3 .i64) pf cf F])) ?_ (fun hD16=> ?_)
    ·
     rintro ⟨u7_1,u7_2,u7_3,u15_1,u15_2,u15_3,u24_1⟩
     dsimp only [cw]
     refine zhb 23 25 26 (by kernel_rfl) ?_ ?_ ?_
     ·
      refine zM rfl rfl rfl rfl (.c rfl (.c rfl .n)) ce58 (zsa (ex:=0) (ey:=0) (ez:=0) (fx:=qd1) (fy:=qd2) (fz:=qd3) (hbex:=by omega) (hbey:=by omega) (hbez:=by omega) (hbfx:=by omega) (hbfy:=by omega) (hbfz:=by omega)) (.n) ?_
      rintro ⟨u23_1,u23_2,u23_3⟩ -
      dsimp only [List.append_eq,List.nil_append,List.cons_append]
      exact zv (hD8 (u7_1,u7_2,u7_3,u15_1,u15_2,u15_3,u23_1,u23_2,u23_3,u24_1)) (by kernel_rfl) ((.of rfl):SubM _ _) .rfl .rfl ((.of [0,1,2,3,4,5,6,7,8,9,10,11,12] rfl):SelR _ _ _)
     ·
      refine zaa rfl rfl rfl rfl (zr zr89 rfl) (fun u25_1 _=> ?_)
      exact zv (hD11 (u7_1,u7_2,u7_3,u15_1,u15_2,u15_3,u24_1,u25_1)) (by kernel_rfl) ((.of rfl):SubM _ _) .rfl .rfl ((.of [0,1,2,3,4,5,6,7,8,9] rfl):SelR _ _ _)
     ·
      refine zaa rfl rfl rfl rfl (zr zr89 rfl) (fun u26_1 _=> ?_)
      exact zv (hD12 (u7_1,u7_2,u7_3,u15_1,u15_2,u15_3,u24_1,u26_1)) (by kernel_rfl) ((.of rfl):SubM _ _) .rfl .rfl ((.of [0,1,2,3,4,5,6,7,8,9] rfl):SelR _ _ _)
    refine zS (X:=Wd×Wd×Wd×Wd×Wd×Wd×Nat) (k':=6) (L':=(lb 30 41943039)) (fun (u7_1,u7_2,u7_3,u15_1,u15_2,u15_3,u25_1)=>([(10,.pointer (some ⟨u25_1,0,none⟩)),(47,.agg (cw [u15_1,u15_2,u15_3]).toArray),(39,.agg (cw [u7_1,u7_2,u7_3]).toArray),(54,.agg #[.int .i64 qd1,.int .i64 qd2,.int .i64 qd3]),(48,.agg #[.int .i64 0,.int .i64 0,.int .i64 0]),(27,.int .i64 ((i:Nat):Int)),(26,.int .i64 ((nf:Nat):Int)),(25,.slice pf nf cf),(5,.pointer (some ⟨b5,0,none⟩)),(3,.int .i64 0),(2,.pointer (some ⟨b2,0,none⟩)),(1,.pointer (some ⟨b1,0,none⟩))],[boxA u25_1 89 [.bool false,.slice none 0 0,.bool false,.slice none 0 0,.bool false,.slice none 0 0]],[boxA b11 42 [.int .i64 0,.int .i64 0,.int .i64 0],boxA b10 44 [.int .i64 ((F.getD i (0,0,0)).1),.int .i64 ((F.getD i (0,0,0)).2.1),.int .i64 ((F.getD i (0,0,0)).2.2)],boxA b5 34 [ws.b,ws.l],mapA b23 (fun z:Int=> .int .i64 z) (fun z:Int=> .int .i64 z) (InK .i64) bm1,boxA b2 34 [.bool false,.slice none 0 0],boxA b1 25 [.slice pv nv cv,.slice pf nf cf]],[zF u15_1 (qd4 - 0),zF u15_2 (qd5 - 0),zF u15_3 (qd6 - 0),zF u7_1 (qd7 - 0),zF u7_2 (qd8 - 0),zF u7_3 (qd9 - 0),zF ws s,zF w34 (0:Int),slF (rI3 .i64) pv cv V,slF (rI3 .i64) pf cf F])) ?_ (fun hD17=> ?_)
    ·
     rintro ⟨u7_1,u7_2,u7_3,u15_1,u15_2,u15_3,u25_1⟩
     dsimp only [cw]
     refine zhb 23 24 26 (by kernel_rfl) ?_ ?_ ?_
     ·
      refine zM rfl rfl rfl rfl (.c rfl (.c rfl .n)) ce58 (zsa (ex:=0) (ey:=0) (ez:=0) (fx:=qd1) (fy:=qd2) (fz:=qd3) (hbex:=by omega) (hbey:=by omega) (hbez:=by omega) (hbfx:=by omega) (hbfy:=by omega) (hbfz:=by omega)) (.n) ?_
      rintro ⟨u23_1,u23_2,u23_3⟩ -
      dsimp only [List.append_eq,List.nil_append,List.cons_append]
      exact zv (hD9 (u7_1,u7_2,u7_3,u15_1,u15_2,u15_3,u23_1,u23_2,u23_3,u25_1)) (by kernel_rfl) ((.of rfl):SubM _ _) .rfl .rfl ((.of [0,1,2,3,4,5,6,7,8,9,10,11,12] rfl):SelR _ _ _)
     ·
      refine zaa rfl rfl rfl rfl (zr zr89 rfl) (fun u24_1 _=> ?_)
      exact zv (hD11 (u7_1,u7_2,u7_3,u15_1,u15_2,u15_3,u24_1,u25_1)) (by kernel_rfl) ((.of rfl):SubM _ _) (zX 1 rfl (zX 0 rfl .nil)) .rfl ((.of [0,1,2,3,4,5,6,7,8,9] rfl):SelR _ _ _)
     ·
      refine zaa rfl rfl rfl rfl (zr zr89 rfl) (fun u26_1 _=> ?_)
      exact zv (hD13 (u7_1,u7_2,u7_3,u15_1,u15_2,u15_3,u25_1,u26_1)) (by kernel_rfl) ((.of rfl):SubM _ _) .rfl .rfl ((.of [0,1,2,3,4,5,6,7,8,9] rfl):SelR _ _ _)
    refine zS (X:=Wd×Wd×Wd×Wd×Wd×Wd×Nat) (k':=6) (L':=(lb 30 75497471)) (fun (u7_1,u7_2,u7_3,u15_1,u15_2,u15_3,u26_1)=>([(11,.pointer (some ⟨u26_1,0,none⟩)),(47,.agg (cw [u15_1,u15_2,u15_3]).toArray),(39,.agg (cw [u7_1,u7_2,u7_3]).toArray),(54,.agg #[.int .i64 qd1,.int .i64 qd2,.int .i64 qd3]),(48,.agg #[.int .i64 0,.int .i64 0,.int .i64 0]),(27,.int .i64 ((i:Nat):Int)),(26,.int .i64 ((nf:Nat):Int)),(25,.slice pf nf cf),(5,.pointer (some ⟨b5,0,none⟩)),(3,.int .i64 0),(2,.pointer (some ⟨b2,0,none⟩)),(1,.pointer (some ⟨b1,0,none⟩))],[boxA u26_1 89 [.bool false,.slice none 0 0,.bool false,.slice none 0 0,.bool false,.slice none 0 0]],[boxA b11 42 [.int .i64 0,.int .i64 0,.int .i64 0],boxA b10 44 [.int .i64 ((F.getD i (0,0,0)).1),.int .i64 ((F.getD i (0,0,0)).2.1),.int .i64 ((F.getD i (0,0,0)).2.2)],boxA b5 34 [ws.b,ws.l],mapA b23 (fun z:Int=> .int .i64 z) (fun z:Int=> .int .i64 z) (InK .i64) bm1,boxA b2 34 [.bool false,.slice none 0 0],boxA b1 25 [.slice pv nv cv,.slice pf nf cf]],[zF u15_1 (qd4 - 0),zF u15_2 (qd5 - 0),zF u15_3 (qd6 - 0),zF u7_1 (qd7 - 0),zF u7_2 (qd8 - 0),zF u7_3 (qd9 - 0),zF ws s,zF w34 (0:Int),slF (rI3 .i64) pv cv V,slF (rI3 .i64) pf cf F])) ?_ (fun hD18=> ?_)
    ·
     rintro ⟨u7_1,u7_2,u7_3,u15_1,u15_2,u15_3,u26_1⟩
     dsimp only [cw]
     refine zhb 23 24 25 (by kernel_rfl) ?_ ?_ ?_
     ·
      refine zM rfl rfl rfl rfl (.c rfl (.c rfl .n)) ce58 (zsa (ex:=0) (ey:=0) (ez:=0) (fx:=qd1) (fy:=qd2) (fz:=qd3) (hbex:=by omega) (hbey:=by omega) (hbez:=by omega) (hbfx:=by omega) (hbfy:=by omega) (hbfz:=by omega)) (.n) ?_
      rintro ⟨u23_1,u23_2,u23_3⟩ -
      dsimp only [List.append_eq,List.nil_append,List.cons_append]
      exact zv (hD10 (u7_1,u7_2,u7_3,u15_1,u15_2,u15_3,u23_1,u23_2,u23_3,u26_1)) (by kernel_rfl) ((.of rfl):SubM _ _) .rfl .rfl ((.of [0,1,2,3,4,5,6,7,8,9,10,11,12] rfl):SelR _ _ _)
     ·
      refine zaa rfl rfl rfl rfl (zr zr89 rfl) (fun u24_1 _=> ?_)
      exact zv (hD12 (u7_1,u7_2,u7_3,u15_1,u15_2,u15_3,u24_1,u26_1)) (by kernel_rfl) ((.of rfl):SubM _ _) (zX 1 rfl (zX 0 rfl .nil)) .rfl ((.of [0,1,2,3,4,5,6,7,8,9] rfl):SelR _ _ _)
     ·
      refine zaa rfl rfl rfl rfl (zr zr89 rfl) (fun u25_1 _=> ?_)
      exact zv (hD13 (u7_1,u7_2,u7_3,u15_1,u15_2,u15_3,u25_1,u26_1)) (by kernel_rfl) ((.of rfl):SubM _ _) (zX 1 rfl (zX 0 rfl .nil)) .rfl ((.of [0,1,2,3,4,5,6,7,8,9] rfl):SelR _ _ _)
    refine zS (X:=Wd×Wd×Wd×Nat×Nat) (k':=6) (L':=(lb 30 58687487)) (fun (u7_1,u7_2,u7_3,u24_1,u25_1)=>([(10,.pointer (some ⟨u25_1,0,none⟩)),(9,.pointer (some ⟨u24_1,0,none⟩)),(39,.agg (cw [u7_1,u7_2,u7_3]).toArray),(54,.agg #[.int .i64 qd1,.int .i64 qd2,.int .i64 qd3]),(48,.agg #[.int .i64 0,.int .i64 0,.int .i64 0]),(46,.agg #[.int .i64 qd4,.int .i64 qd5,.int .i64 qd6]),(40,.agg #[.int .i64 0,.int .i64 0,.int .i64 0]),(27,.int .i64 ((i:Nat):Int)),(26,.int .i64 ((nf:Nat):Int)),(25,.slice pf nf cf),(5,.pointer (some ⟨b5,0,none⟩)),(3,.int .i64 0),(2,.pointer (some ⟨b2,0,none⟩)),(1,.pointer (some ⟨b1,0,none⟩))],[boxA u25_1 89 [.bool false,.slice none 0 0,.bool false,.slice none 0 0,.bool false,.slice none 0 0],boxA u24_1 89 [.bool false,.slice none 0 0,.bool false,.slice none 0 0,.bool false,.slice none 0 0]],[boxA b11 42 [.int .i64 0,.int .i64 0,.int .i64 0],boxA b10 44 [.int .i64 ((F.getD i (0,0,0)).1),.int .i64 ((F.getD i (0,0,0)).2.1),.int .i64 ((F.getD i (0,0,0)).2.2)],boxA b5 34 [ws.b,ws.l],mapA b23 (fun z:Int=> .int .i64 z) (fun z:Int=> .int .i64 z) (InK .i64) bm1,boxA b2 34 [.bool false,.slice none 0 0],boxA b1 25 [.slice pv nv cv,.slice pf nf cf]],[zF u7_1 (qd7 - 0),zF u7_2 (qd8 - 0),zF u7_3 (qd9 - 0),zF ws s,zF w34 (0:Int),slF (rI3 .i64) pv cv V,slF (rI3 .i64) pf cf F])) ?_ (fun hD19=> ?_)
    ·
     rintro ⟨u7_1,u7_2,u7_3,u24_1,u25_1⟩
     dsimp only [cw]
     refine zcb 15 26 (by kernel_rfl) ?_ ?_
     ·
      refine zM rfl rfl rfl rfl (.c rfl (.c rfl .n)) ce58 (zsa (ex:=0) (ey:=0) (ez:=0) (fx:=qd4) (fy:=qd5) (fz:=qd6) (hbex:=by omega) (hbey:=by omega) (hbez:=by omega) (hbfx:=by omega) (hbfy:=by omega) (hbfz:=by omega)) (.n) ?_
      rintro ⟨u15_1,u15_2,u15_3⟩ -
      dsimp only [List.append_eq,List.nil_append,List.cons_append]
      exact zv (hD11 (u7_1,u7_2,u7_3,u15_1,u15_2,u15_3,u24_1,u25_1)) (by kernel_rfl) ((.of rfl):SubM _ _) .rfl .rfl ((.of [0,1,2,3,4,5,6,7,8,9] rfl):SelR _ _ _)
     ·
      refine zaa rfl rfl rfl rfl (zr zr89 rfl) (fun u26_1 _=> ?_)
      exact zv (hD14 (u7_1,u7_2,u7_3,u24_1,u25_1,u26_1)) (by kernel_rfl) ((.of rfl):SubM _ _) .rfl .rfl ((.of [0,1,2,3,4,5,6] rfl):SelR _ _ _)
    refine zS (X:=Wd×Wd×Wd×Nat×Nat) (k':=6) (L':=(lb 30 92241919)) (fun (u7_1,u7_2,u7_3,u24_1,u26_1)=>([(11,.pointer (some ⟨u26_1,0,none⟩)),(9,.pointer (some ⟨u24_1,0,none⟩)),(39,.agg (cw [u7_1,u7_2,u7_3]).toArray),(54,.agg #[.int .i64 qd1,.int .i64 qd2,.int .i64 qd3]),(48,.agg #[.int .i64 0,.int .i64 0,.int .i64 0]),(46,.agg #[.int .i64 qd4,.int .i64 qd5,.int .i64 qd6]),(40,.agg #[.int .i64 0,.int .i64 0,.int .i64 0]),(27,.int .i64 ((i:Nat):Int)),(26,.int .i64 ((nf:Nat):Int)),(25,.slice pf nf cf),(5,.pointer (some ⟨b5,0,none⟩)),(3,.int .i64 0),(2,.pointer (some ⟨b2,0,none⟩)),(1,.pointer (some ⟨b1,0,none⟩))],[boxA u26_1 89 [.bool false,.slice none 0 0,.bool false,.slice none 0 0,.bool false,.slice none 0 0],boxA u24_1 89 [.bool false,.slice none 0 0,.bool false,.slice none 0 0,.bool false,.slice none 0 0]],[boxA b11 42 [.int .i64 0,.int .i64 0,.int .i64 0],boxA b10 44 [.int .i64 ((F.getD i (0,0,0)).1),.int .i64 ((F.getD i (0,0,0)).2.1),.int .i64 ((F.getD i (0,0,0)).2.2)],boxA b5 34 [ws.b,ws.l],mapA b23 (fun z:Int=> .int .i64 z) (fun z:Int=> .int .i64 z) (InK .i64) bm1,boxA b2 34 [.bool false,.slice none 0 0],boxA b1 25 [.slice pv nv cv,.slice pf nf cf]],[zF u7_1 (qd7 - 0),zF u7_2 (qd8 - 0),zF u7_3 (qd9 - 0),zF ws s,zF w34 (0:Int),slF (rI3 .i64) pv cv V,slF (rI3 .i64) pf cf F])) ?_ (fun hD20=> ?_)
    ·
     rintro ⟨u7_1,u7_2,u7_3,u24_1,u26_1⟩
     dsimp only [cw]
     refine zcb 15 25 (by kernel_rfl) ?_ ?_
     ·
      refine zM rfl rfl rfl rfl (.c rfl (.c rfl .n)) ce58 (zsa (ex:=0) (ey:=0) (ez:=0) (fx:=qd4) (fy:=qd5) (fz:=qd6) (hbex:=by omega) (hbey:=by omega) (hbez:=by omega) (hbfx:=by omega) (hbfy:=by omega) (hbfz:=by omega)) (.n) ?_
      rintro ⟨u15_1,u15_2,u15_3⟩ -
      dsimp only [List.append_eq,List.nil_append,List.cons_append]
      exact zv (hD12 (u7_1,u7_2,u7_3,u15_1,u15_2,u15_3,u24_1,u26_1)) (by kernel_rfl) ((.of rfl):SubM _ _) .rfl .rfl ((.of [0,1,2,3,4,5,6,7,8,9] rfl):SelR _ _ _)
     ·
      refine zaa rfl rfl rfl rfl (zr zr89 rfl) (fun u25_1 _=> ?_)
      exact zv (hD14 (u7_1,u7_2,u7_3,u24_1,u25_1,u26_1)) (by kernel_rfl) ((.of rfl):SubM _ _) (zX 1 rfl (zX 0 rfl (zX 0 rfl .nil))) .rfl ((.of [0,1,2,3,4,5,6] rfl):SelR _ _ _)
    refine zS (X:=Wd×Wd×Wd×Nat×Nat) (k':=6) (L':=(lb 30 109019135)) (fun (u7_1,u7_2,u7_3,u25_1,u26_1)=>([(11,.pointer (some ⟨u26_1,0,none⟩)),(10,.pointer (some ⟨u25_1,0,none⟩)),(39,.agg (cw [u7_1,u7_2,u7_3]).toArray),(54,.agg #[.int .i64 qd1,.int .i64 qd2,.int .i64 qd3]),(48,.agg #[.int .i64 0,.int .i64 0,.int .i64 0]),(46,.agg #[.int .i64 qd4,.int .i64 qd5,.int .i64 qd6]),(40,.agg #[.int .i64 0,.int .i64 0,.int .i64 0]),(27,.int .i64 ((i:Nat):Int)),(26,.int .i64 ((nf:Nat):Int)),(25,.slice pf nf cf),(5,.pointer (some ⟨b5,0,none⟩)),(3,.int .i64 0),(2,.pointer (some ⟨b2,0,none⟩)),(1,.pointer (some ⟨b1,0,none⟩))],[boxA u26_1 89 [.bool false,.slice none 0 0,.bool false,.slice none 0 0,.bool false,.slice none 0 0],boxA u25_1 89 [.bool false,.slice none 0 0,.bool false,.slice none 0 0,.bool false,.slice none 0 0]],[boxA b11 42 [.int .i64 0,.int .i64 0,.int .i64 0],boxA b10 44 [.int .i64 ((F.getD i (0,0,0)).1),.int .i64 ((F.getD i (0,0,0)).2.1),.int .i64 ((F.getD i (0,0,0)).2.2)],boxA b5 34 [ws.b,ws.l],mapA b23 (fun z:Int=> .int .i64 z) (fun z:Int=> .int .i64 z) (InK .i64) bm1,boxA b2 34 [.bool false,.slice none 0 0],boxA b1 25 [.slice pv nv cv,.slice pf nf cf]],[zF u7_1 (qd7 - 0),zF u7_2 (qd8 - 0),zF u7_3 (qd9 - 0),zF ws s,zF w34 (0:Int),slF (rI3 .i64) pv cv V,slF (rI3 .i64) pf cf F])) ?_ (fun hD21=> ?_)
    ·
     rintro ⟨u7_1,u7_2,u7_3,u25_1,u26_1⟩
     dsimp only [cw]
     refine zcb 15 24 (by kernel_rfl) ?_ ?_
     ·
      refine zM rfl rfl rfl rfl (.c rfl (.c rfl .n)) ce58 (zsa (ex:=0) (ey:=0) (ez:=0) (fx:=qd4) (fy:=qd5) (fz:=qd6) (hbex:=by omega) (hbey:=by omega) (hbez:=by omega) (hbfx:=by omega) (hbfy:=by omega) (hbfz:=by omega)) (.n) ?_
      rintro ⟨u15_1,u15_2,u15_3⟩ -
      dsimp only [List.append_eq,List.nil_append,List.cons_append]
      exact zv (hD13 (u7_1,u7_2,u7_3,u15_1,u15_2,u15_3,u25_1,u26_1)) (by kernel_rfl) ((.of rfl):SubM _ _) .rfl .rfl ((.of [0,1,2,3,4,5,6,7,8,9] rfl):SelR _ _ _)
     ·
      refine zaa rfl rfl rfl rfl (zr zr89 rfl) (fun u24_1 _=> ?_)
      exact zv (hD14 (u7_1,u7_2,u7_3,u24_1,u25_1,u26_1)) (by kernel_rfl) ((.of rfl):SubM _ _) (zX 1 rfl (zX 1 rfl (zX 0 rfl .nil))) .rfl ((.of [0,1,2,3,4,5,6] rfl):SelR _ _ _)
    refine zS (X:=Nat×Nat×Nat) (k':=6) (L':=(lb 30 125796223)) (fun (u24_1,u25_1,u26_1)=>([(11,.pointer (some ⟨u26_1,0,none⟩)),(10,.pointer (some ⟨u25_1,0,none⟩)),(9,.pointer (some ⟨u24_1,0,none⟩)),(54,.agg #[.int .i64 qd1,.int .i64 qd2,.int .i64 qd3]),(48,.agg #[.int .i64 0,.int .i64 0,.int .i64 0]),(46,.agg #[.int .i64 qd4,.int .i64 qd5,.int .i64 qd6]),(40,.agg #[.int .i64 0,.int .i64 0,.int .i64 0]),(38,.agg #[.int .i64 qd7,.int .i64 qd8,.int .i64 qd9]),(32,.agg #[.int .i64 0,.int .i64 0,.int .i64 0]),(27,.int .i64 ((i:Nat):Int)),(26,.int .i64 ((nf:Nat):Int)),(25,.slice pf nf cf),(5,.pointer (some ⟨b5,0,none⟩)),(3,.int .i64 0),(2,.pointer (some ⟨b2,0,none⟩)),(1,.pointer (some ⟨b1,0,none⟩))],[boxA u26_1 89 [.bool false,.slice none 0 0,.bool false,.slice none 0 0,.bool false,.slice none 0 0],boxA u25_1 89 [.bool false,.slice none 0 0,.bool false,.slice none 0 0,.bool false,.slice none 0 0],boxA u24_1 89 [.bool false,.slice none 0 0,.bool false,.slice none 0 0,.bool false,.slice none 0 0]],[boxA b11 42 [.int .i64 0,.int .i64 0,.int .i64 0],boxA b10 44 [.int .i64 ((F.getD i (0,0,0)).1),.int .i64 ((F.getD i (0,0,0)).2.1),.int .i64 ((F.getD i (0,0,0)).2.2)],boxA b5 34 [ws.b,ws.l],mapA b23 (fun z:Int=> .int .i64 z) (fun z:Int=> .int .i64 z) (InK .i64) bm1,boxA b2 34 [.bool false,.slice none 0 0],boxA b1 25 [.slice pv nv cv,.slice pf nf cf]],[zF ws s,zF w34 (0:Int),slF (rI3 .i64) pv cv V,slF (rI3 .i64) pf cf F])) ?_ (fun hD22=> ?_)
    ·
     rintro ⟨u24_1,u25_1,u26_1⟩
     dsimp only
     refine zR 7 (by kernel_rfl) ?_
     ·
      refine zM rfl rfl rfl rfl (.c rfl (.c rfl .n)) ce58 (zsa (ex:=0) (ey:=0) (ez:=0) (fx:=qd7) (fy:=qd8) (fz:=qd9) (hbex:=by omega) (hbey:=by omega) (hbez:=by omega) (hbfx:=by omega) (hbfy:=by omega) (hbfz:=by omega)) (.n) ?_
      rintro ⟨u7_1,u7_2,u7_3⟩ -
      dsimp only [List.append_eq,List.nil_append,List.cons_append]
      exact zv (hD14 (u7_1,u7_2,u7_3,u24_1,u25_1,u26_1)) (by kernel_rfl) ((.of rfl):SubM _ _) .rfl .rfl ((.of [0,1,2,3,4,5,6] rfl):SelR _ _ _)
    refine zS (X:=Wd×Wd×Wd×Wd×Wd×Wd) (k':=7) (L':=(lb 30 8388607)) (fun (u7_1,u7_2,u7_3,u15_1,u15_2,u15_3)=>([(47,.agg (cw [u15_1,u15_2,u15_3]).toArray),(39,.agg (cw [u7_1,u7_2,u7_3]).toArray),(54,.agg #[.int .i64 qd1,.int .i64 qd2,.int .i64 qd3]),(48,.agg #[.int .i64 0,.int .i64 0,.int .i64 0]),(27,.int .i64 ((i:Nat):Int)),(26,.int .i64 ((nf:Nat):Int)),(25,.slice pf nf cf),(5,.pointer (some ⟨b5,0,none⟩)),(3,.int .i64 0),(2,.pointer (some ⟨b2,0,none⟩)),(1,.pointer (some ⟨b1,0,none⟩))],[],[boxA b11 42 [.int .i64 0,.int .i64 0,.int .i64 0],boxA b10 44 [.int .i64 ((F.getD i (0,0,0)).1),.int .i64 ((F.getD i (0,0,0)).2.1),.int .i64 ((F.getD i (0,0,0)).2.2)],boxA b5 34 [ws.b,ws.l],mapA b23 (fun z:Int=> .int .i64 z) (fun z:Int=> .int .i64 z) (InK .i64) bm1,boxA b2 34 [.bool false,.slice none 0 0],boxA b1 25 [.slice pv nv cv,.slice pf nf cf]],[zF u15_1 (qd4 - 0),zF u15_2 (qd5 - 0),zF u15_3 (qd6 - 0),zF u7_1 (qd7 - 0),zF u7_2 (qd8 - 0),zF u7_3 (qd9 - 0),zF ws s,zF w34 (0:Int),slF (rI3 .i64) pv cv V,slF (rI3 .i64) pf cf F])) ?_ (fun hD23=> ?_)
    ·
     rintro ⟨u7_1,u7_2,u7_3,u15_1,u15_2,u15_3⟩
     dsimp only [cw]
     refine zKd 23 24 25 26 (by kernel_rfl) ?_ ?_ ?_ ?_
     ·
      refine zM rfl rfl rfl rfl (.c rfl (.c rfl .n)) ce58 (zsa (ex:=0) (ey:=0) (ez:=0) (fx:=qd1) (fy:=qd2) (fz:=qd3) (hbex:=by omega) (hbey:=by omega) (hbez:=by omega) (hbfx:=by omega) (hbfy:=by omega) (hbfz:=by omega)) (.n) ?_
      rintro ⟨u23_1,u23_2,u23_3⟩ -
      dsimp only [List.append_eq,List.nil_append,List.cons_append]
      exact zv (hD15 (u7_1,u7_2,u7_3,u15_1,u15_2,u15_3,u23_1,u23_2,u23_3)) (by kernel_rfl) ((.of rfl):SubM _ _) .rfl .rfl ((.of [0,1,2,3,4,5,6,7,8,9,10,11,12] rfl):SelR _ _ _)
     ·
      refine zaa rfl rfl rfl rfl (zr zr89 rfl) (fun u24_1 _=> ?_)
      exact zv (hD16 (u7_1,u7_2,u7_3,u15_1,u15_2,u15_3,u24_1)) (by kernel_rfl) ((.of rfl):SubM _ _) .rfl .rfl ((.of [0,1,2,3,4,5,6,7,8,9] rfl):SelR _ _ _)
     ·
      refine zaa rfl rfl rfl rfl (zr zr89 rfl) (fun u25_1 _=> ?_)
      exact zv (hD17 (u7_1,u7_2,u7_3,u15_1,u15_2,u15_3,u25_1)) (by kernel_rfl) ((.of rfl):SubM _ _) .rfl .rfl ((.of [0,1,2,3,4,5,6,7,8,9] rfl):SelR _ _ _)
     ·
      refine zaa rfl rfl rfl rfl (zr zr89 rfl) (fun u26_1 _=> ?_)
      exact zv (hD18 (u7_1,u7_2,u7_3,u15_1,u15_2,u15_3,u26_1)) (by kernel_rfl) ((.of rfl):SubM _ _) .rfl .rfl ((.of [0,1,2,3,4,5,6,7,8,9] rfl):SelR _ _ _)
    refine zS (X:=Wd×Wd×Wd×Nat) (k':=7) (L':=(lb 30 25133055)) (fun (u7_1,u7_2,u7_3,u24_1)=>([(9,.pointer (some ⟨u24_1,0,none⟩)),(39,.agg (cw [u7_1,u7_2,u7_3]).toArray),(54,.agg #[.int .i64 qd1,.int .i64 qd2,.int .i64 qd3]),(48,.agg #[.int .i64 0,.int .i64 0,.int .i64 0]),(46,.agg #[.int .i64 qd4,.int .i64 qd5,.int .i64 qd6]),(40,.agg #[.int .i64 0,.int .i64 0,.int .i64 0]),(27,.int .i64 ((i:Nat):Int)),(26,.int .i64 ((nf:Nat):Int)),(25,.slice pf nf cf),(5,.pointer (some ⟨b5,0,none⟩)),(3,.int .i64 0),(2,.pointer (some ⟨b2,0,none⟩)),(1,.pointer (some ⟨b1,0,none⟩))],[boxA u24_1 89 [.bool false,.slice none 0 0,.bool false,.slice none 0 0,.bool false,.slice none 0 0]],[boxA b11 42 [.int .i64 0,.int .i64 0,.int .i64 0],boxA b10 44 [.int .i64 ((F.getD i (0,0,0)).1),.int .i64 ((F.getD i (0,0,0)).2.1),.int .i64 ((F.getD i (0,0,0)).2.2)],boxA b5 34 [ws.b,ws.l],mapA b23 (fun z:Int=> .int .i64 z) (fun z:Int=> .int .i64 z) (InK .i64) bm1,boxA b2 34 [.bool false,.slice none 0 0],boxA b1 25 [.slice pv nv cv,.slice pf nf cf]],[zF u7_1 (qd7 - 0),zF u7_2 (qd8 - 0),zF u7_3 (qd9 - 0),zF ws s,zF w34 (0:Int),slF (rI3 .i64) pv cv V,slF (rI3 .i64) pf cf F])) ?_ (fun hD24=> ?_)
    ·
     rintro ⟨u7_1,u7_2,u7_3,u24_1⟩
     dsimp only [cw]
     refine zhb 15 25 26 (by kernel_rfl) ?_ ?_ ?_
     ·
      refine zM rfl rfl rfl rfl (.c rfl (.c rfl .n)) ce58 (zsa (ex:=0) (ey:=0) (ez:=0) (fx:=qd4) (fy:=qd5) (fz:=qd6) (hbex:=by omega) (hbey:=by omega) (hbez:=by omega) (hbfx:=by omega) (hbfy:=by omega) (hbfz:=by omega)) (.n) ?_
      rintro ⟨u15_1,u15_2,u15_3⟩ -
      dsimp only [List.append_eq,List.nil_append,List.cons_append]
      exact zv (hD16 (u7_1,u7_2,u7_3,u15_1,u15_2,u15_3,u24_1)) (by kernel_rfl) ((.of rfl):SubM _ _) .rfl .rfl ((.of [0,1,2,3,4,5,6,7,8,9] rfl):SelR _ _ _)
     ·
      refine zaa rfl rfl rfl rfl (zr zr89 rfl) (fun u25_1 _=> ?_)
      exact zv (hD19 (u7_1,u7_2,u7_3,u24_1,u25_1)) (by kernel_rfl) ((.of rfl):SubM _ _) .rfl .rfl ((.of [0,1,2,3,4,5,6] rfl):SelR _ _ _)
     ·
      refine zaa rfl rfl rfl rfl (zr zr89 rfl) (fun u26_1 _=> ?_)
      exact zv (hD20 (u7_1,u7_2,u7_3,u24_1,u26_1)) (by kernel_rfl) ((.of rfl):SubM _ _) .rfl .rfl ((.of [0,1,2,3,4,5,6] rfl):SelR _ _ _)
    refine zS (X:=Wd×Wd×Wd×Nat) (k':=7) (L':=(lb 30 41910271)) (fun (u7_1,u7_2,u7_3,u25_1)=>([(10,.pointer (some ⟨u25_1,0,none⟩)),(39,.agg (cw [u7_1,u7_2,u7_3]).toArray),(54,.agg #[.int .i64 qd1,.int .i64 qd2,.int .i64 qd3]),(48,.agg #[.int .i64 0,.int .i64 0,.int .i64 0]),(46,.agg #[.int .i64 qd4,.int .i64 qd5,.int .i64 qd6]),(40,.agg #[.int .i64 0,.int .i64 0,.int .i64 0]),(27,.int .i64 ((i:Nat):Int)),(26,.int .i64 ((nf:Nat):Int)),(25,.slice pf nf cf),(5,.pointer (some ⟨b5,0,none⟩)),(3,.int .i64 0),(2,.pointer (some ⟨b2,0,none⟩)),(1,.pointer (some ⟨b1,0,none⟩))],[boxA u25_1 89 [.bool false,.slice none 0 0,.bool false,.slice none 0 0,.bool false,.slice none 0 0]],[boxA b11 42 [.int .i64 0,.int .i64 0,.int .i64 0],boxA b10 44 [.int .i64 ((F.getD i (0,0,0)).1),.int .i64 ((F.getD i (0,0,0)).2.1),.int .i64 ((F.getD i (0,0,0)).2.2)],boxA b5 34 [ws.b,ws.l],mapA b23 (fun z:Int=> .int .i64 z) (fun z:Int=> .int .i64 z) (InK .i64) bm1,boxA b2 34 [.bool false,.slice none 0 0],boxA b1 25 [.slice pv nv cv,.slice pf nf cf]],[zF u7_1 (qd7 - 0),zF u7_2 (qd8 - 0),zF u7_3 (qd9 - 0),zF ws s,zF w34 (0:Int),slF (rI3 .i64) pv cv V,slF (rI3 .i64) pf cf F])) ?_ (fun hD25=> ?_)
    ·
     rintro ⟨u7_1,u7_2,u7_3,u25_1⟩
     dsimp only [cw]
     refine zhb 15 24 26 (by kernel_rfl) ?_ ?_ ?_
     ·
      refine zM rfl rfl rfl rfl (.c rfl (.c rfl .n)) ce58 (zsa (ex:=0) (ey:=0) (ez:=0) (fx:=qd4) (fy:=qd5) (fz:=qd6) (hbex:=by omega) (hbey:=by omega) (hbez:=by omega) (hbfx:=by omega) (hbfy:=by omega) (hbfz:=by omega)) (.n) ?_
      rintro ⟨u15_1,u15_2,u15_3⟩ -
      dsimp only [List.append_eq,List.nil_append,List.cons_append]
      exact zv (hD17 (u7_1,u7_2,u7_3,u15_1,u15_2,u15_3,u25_1)) (by kernel_rfl) ((.of rfl):SubM _ _) .rfl .rfl ((.of [0,1,2,3,4,5,6,7,8,9] rfl):SelR _ _ _)
     ·
      refine zaa rfl rfl rfl rfl (zr zr89 rfl) (fun u24_1 _=> ?_)
      exact zv (hD19 (u7_1,u7_2,u7_3,u24_1,u25_1)) (by kernel_rfl) ((.of rfl):SubM _ _) (zX 1 rfl (zX 0 rfl .nil)) .rfl ((.of [0,1,2,3,4,5,6] rfl):SelR _ _ _)
     ·
      refine zaa rfl rfl rfl rfl (zr zr89 rfl) (fun u26_1 _=> ?_)
      exact zv (hD21 (u7_1,u7_2,u7_3,u25_1,u26_1)) (by kernel_rfl) ((.of rfl):SubM _ _) .rfl .rfl ((.of [0,1,2,3,4,5,6] rfl):SelR _ _ _)
    refine zS (X:=Wd×Wd×Wd×Nat) (k':=7) (L':=(lb 30 75464703)) (fun (u7_1,u7_2,u7_3,u26_1)=>([(11,.pointer (some ⟨u26_1,0,none⟩)),(39,.agg (cw [u7_1,u7_2,u7_3]).toArray),(54,.agg #[.int .i64 qd1,.int .i64 qd2,.int .i64 qd3]),(48,.agg #[.int .i64 0,.int .i64 0,.int .i64 0]),(46,.agg #[.int .i64 qd4,.int .i64 qd5,.int .i64 qd6]),(40,.agg #[.int .i64 0,.int .i64 0,.int .i64 0]),(27,.int .i64 ((i:Nat):Int)),(26,.int .i64 ((nf:Nat):Int)),(25,.slice pf nf cf),(5,.pointer (some ⟨b5,0,none⟩)),(3,.int .i64 0),(2,.pointer (some ⟨b2,0,none⟩)),(1,.pointer (some ⟨b1,0,none⟩))],[boxA u26_1 89 [.bool false,.slice none 0 0,.bool false,.slice none 0 0,.bool false,.slice none 0 0]],[boxA b11 42 [.int .i64 0,.int .i64 0,.int .i64 0],boxA b10 44 [.int .i64 ((F.getD i (0,0,0)).1),.int .i64 ((F.getD i (0,0,0)).2.1),.int .i64 ((F.getD i (0,0,0)).2.2)],boxA b5 34 [ws.b,ws.l],mapA b23 (fun z:Int=> .int .i64 z) (fun z:Int=> .int .i64 z) (InK .i64) bm1,boxA b2 34 [.bool false,.slice none 0 0],boxA b1 25 [.slice pv nv cv,.slice pf nf cf]],[zF u7_1 (qd7 - 0),zF u7_2 (qd8 - 0),zF u7_3 (qd9 - 0),zF ws s,zF w34 (0:Int),slF (rI3 .i64) pv cv V,slF (rI3 .i64) pf cf F])) ?_ (fun hD26=> ?_)
    ·
     rintro ⟨u7_1,u7_2,u7_3,u26_1⟩
     dsimp only [cw]
     refine zhb 15 24 25 (by kernel_rfl) ?_ ?_ ?_
     ·
      refine zM rfl rfl rfl rfl (.c rfl (.c rfl .n)) ce58 (zsa (ex:=0) (ey:=0) (ez:=0) (fx:=qd4) (fy:=qd5) (fz:=qd6) (hbex:=by omega) (hbey:=by omega) (hbez:=by omega) (hbfx:=by omega) (hbfy:=by omega) (hbfz:=by omega)) (.n) ?_
      rintro ⟨u15_1,u15_2,u15_3⟩ -
      dsimp only [List.append_eq,List.nil_append,List.cons_append]
      exact zv (hD18 (u7_1,u7_2,u7_3,u15_1,u15_2,u15_3,u26_1)) (by kernel_rfl) ((.of rfl):SubM _ _) .rfl .rfl ((.of [0,1,2,3,4,5,6,7,8,9] rfl):SelR _ _ _)
     ·
      refine zaa rfl rfl rfl rfl (zr zr89 rfl) (fun u24_1 _=> ?_)
      exact zv (hD20 (u7_1,u7_2,u7_3,u24_1,u26_1)) (by kernel_rfl) ((.of rfl):SubM _ _) (zX 1 rfl (zX 0 rfl .nil)) .rfl ((.of [0,1,2,3,4,5,6] rfl):SelR _ _ _)
     ·
      refine zaa rfl rfl rfl rfl (zr zr89 rfl) (fun u25_1 _=> ?_)
      exact zv (hD21 (u7_1,u7_2,u7_3,u25_1,u26_1)) (by kernel_rfl) ((.of rfl):SubM _ _) (zX 1 rfl (zX 0 rfl .nil)) .rfl ((.of [0,1,2,3,4,5,6] rfl):SelR _ _ _)
    refine zS (X:=Nat×Nat) (k':=7) (L':=(lb 30 58687359)) (fun (u24_1,u25_1)=>([(10,.pointer (some ⟨u25_1,0,none⟩)),(9,.pointer (some ⟨u24_1,0,none⟩)),(54,.agg #[.int .i64 qd1,.int .i64 qd2,.int .i64 qd3]),(48,.agg #[.int .i64 0,.int .i64 0,.int .i64 0]),(46,.agg #[.int .i64 qd4,.int .i64 qd5,.int .i64 qd6]),(40,.agg #[.int .i64 0,.int .i64 0,.int .i64 0]),(38,.agg #[.int .i64 qd7,.int .i64 qd8,.int .i64 qd9]),(32,.agg #[.int .i64 0,.int .i64 0,.int .i64 0]),(27,.int .i64 ((i:Nat):Int)),(26,.int .i64 ((nf:Nat):Int)),(25,.slice pf nf cf),(5,.pointer (some ⟨b5,0,none⟩)),(3,.int .i64 0),(2,.pointer (some ⟨b2,0,none⟩)),(1,.pointer (some ⟨b1,0,none⟩))],[boxA u25_1 89 [.bool false,.slice none 0 0,.bool false,.slice none 0 0,.bool false,.slice none 0 0],boxA u24_1 89 [.bool false,.slice none 0 0,.bool false,.slice none 0 0,.bool false,.slice none 0 0]],[boxA b11 42 [.int .i64 0,.int .i64 0,.int .i64 0],boxA b10 44 [.int .i64 ((F.getD i (0,0,0)).1),.int .i64 ((F.getD i (0,0,0)).2.1),.int .i64 ((F.getD i (0,0,0)).2.2)],boxA b5 34 [ws.b,ws.l],mapA b23 (fun z:Int=> .int .i64 z) (fun z:Int=> .int .i64 z) (InK .i64) bm1,boxA b2 34 [.bool false,.slice none 0 0],boxA b1 25 [.slice pv nv cv,.slice pf nf cf]],[zF ws s,zF w34 (0:Int),slF (rI3 .i64) pv cv V,slF (rI3 .i64) pf cf F])) ?_ (fun hD27=> ?_)
    ·
     rintro ⟨u24_1,u25_1⟩
     dsimp only
     refine zcb 7 26 (by kernel_rfl) ?_ ?_
     ·
      refine zM rfl rfl rfl rfl (.c rfl (.c rfl .n)) ce58 (zsa (ex:=0) (ey:=0) (ez:=0) (fx:=qd7) (fy:=qd8) (fz:=qd9) (hbex:=by omega) (hbey:=by omega) (hbez:=by omega) (hbfx:=by omega) (hbfy:=by omega) (hbfz:=by omega)) (.n) ?_
      rintro ⟨u7_1,u7_2,u7_3⟩ -
      dsimp only [List.append_eq,List.nil_append,List.cons_append]
      exact zv (hD19 (u7_1,u7_2,u7_3,u24_1,u25_1)) (by kernel_rfl) ((.of rfl):SubM _ _) .rfl .rfl ((.of [0,1,2,3,4,5,6] rfl):SelR _ _ _)
     ·
      refine zaa rfl rfl rfl rfl (zr zr89 rfl) (fun u26_1 _=> ?_)
      exact zv (hD22 (u24_1,u25_1,u26_1)) (by kernel_rfl) ((.of rfl):SubM _ _) .rfl .rfl ((.of [0,1,2,3] rfl):SelR _ _ _)
    refine zS (X:=Nat×Nat) (k':=7) (L':=(lb 30 92241791)) (fun (u24_1,u26_1)=>([(11,.pointer (some ⟨u26_1,0,none⟩)),(9,.pointer (some ⟨u24_1,0,none⟩)),(54,.agg #[.int .i64 qd1,.int .i64 qd2,.int .i64 qd3]),(48,.agg #[.int .i64 0,.int .i64 0,.int .i64 0]),(46,.agg #[.int .i64 qd4,.int .i64 qd5,.int .i64 qd6]),(40,.agg #[.int .i64 0,.int .i64 0,.int .i64 0]),(38,.agg #[.int .i64 qd7,.int .i64 qd8,.int .i64 qd9]),(32,.agg #[.int .i64 0,.int .i64 0,.int .i64 0]),(27,.int .i64 ((i:Nat):Int)),(26,.int .i64 ((nf:Nat):Int)),(25,.slice pf nf cf),(5,.pointer (some ⟨b5,0,none⟩)),(3,.int .i64 0),(2,.pointer (some ⟨b2,0,none⟩)),(1,.pointer (some ⟨b1,0,none⟩))],[boxA u26_1 89 [.bool false,.slice none 0 0,.bool false,.slice none 0 0,.bool false,.slice none 0 0],boxA u24_1 89 [.bool false,.slice none 0 0,.bool false,.slice none 0 0,.bool false,.slice none 0 0]],[boxA b11 42 [.int .i64 0,.int .i64 0,.int .i64 0],boxA b10 44 [.int .i64 ((F.getD i (0,0,0)).1),.int .i64 ((F.getD i (0,0,0)).2.1),.int .i64 ((F.getD i (0,0,0)).2.2)],boxA b5 34 [ws.b,ws.l],mapA b23 (fun z:Int=> .int .i64 z) (fun z:Int=> .int .i64 z) (InK .i64) bm1,boxA b2 34 [.bool false,.slice none 0 0],boxA b1 25 [.slice pv nv cv,.slice pf nf cf]],[zF ws s,zF w34 (0:Int),slF (rI3 .i64) pv cv V,slF (rI3 .i64) pf cf F])) ?_ (fun hD28=> ?_)
    ·
     rintro ⟨u24_1,u26_1⟩
     dsimp only
     refine zcb 7 25 (by kernel_rfl) ?_ ?_
     ·
      refine zM rfl rfl rfl rfl (.c rfl (.c rfl .n)) ce58 (zsa (ex:=0) (ey:=0) (ez:=0) (fx:=qd7) (fy:=qd8) (fz:=qd9) (hbex:=by omega) (hbey:=by omega) (hbez:=by omega) (hbfx:=by omega) (hbfy:=by omega) (hbfz:=by omega)) (.n) ?_
      rintro ⟨u7_1,u7_2,u7_3⟩ -
      dsimp only [List.append_eq,List.nil_append,List.cons_append]
      exact zv (hD20 (u7_1,u7_2,u7_3,u24_1,u26_1)) (by kernel_rfl) ((.of rfl):SubM _ _) .rfl .rfl ((.of [0,1,2,3,4,5,6] rfl):SelR _ _ _)
     ·
      refine zaa rfl rfl rfl rfl (zr zr89 rfl) (fun u25_1 _=> ?_)
      exact zv (hD22 (u24_1,u25_1,u26_1)) (by kernel_rfl) ((.of rfl):SubM _ _) (zX 1 rfl (zX 0 rfl (zX 0 rfl .nil))) .rfl ((.of [0,1,2,3] rfl):SelR _ _ _)
    refine zS (X:=Nat×Nat) (k':=7) (L':=(lb 30 109019007)) (fun (u25_1,u26_1)=>([(11,.pointer (some ⟨u26_1,0,none⟩)),(10,.pointer (some ⟨u25_1,0,none⟩)),(54,.agg #[.int .i64 qd1,.int .i64 qd2,.int .i64 qd3]),(48,.agg #[.int .i64 0,.int .i64 0,.int .i64 0]),(46,.agg #[.int .i64 qd4,.int .i64 qd5,.int .i64 qd6]),(40,.agg #[.int .i64 0,.int .i64 0,.int .i64 0]),(38,.agg #[.int .i64 qd7,.int .i64 qd8,.int .i64 qd9]),(32,.agg #[.int .i64 0,.int .i64 0,.int .i64 0]),(27,.int .i64 ((i:Nat):Int)),(26,.int .i64 ((nf:Nat):Int)),(25,.slice pf nf cf),(5,.pointer (some ⟨b5,0,none⟩)),(3,.int .i64 0),(2,.pointer (some ⟨b2,0,none⟩)),(1,.pointer (some ⟨b1,0,none⟩))],[boxA u26_1 89 [.bool false,.slice none 0 0,.bool false,.slice none 0 0,.bool false,.slice none 0 0],boxA u25_1 89 [.bool false,.slice none 0 0,.bool false,.slice none 0 0,.bool false,.slice none 0 0]],[boxA b11 42 [.int .i64 0,.int .i64 0,.int .i64 0],boxA b10 44 [.int .i64 ((F.getD i (0,0,0)).1),.int .i64 ((F.getD i (0,0,0)).2.1),.int .i64 ((F.getD i (0,0,0)).2.2)],boxA b5 34 [ws.b,ws.l],mapA b23 (fun z:Int=> .int .i64 z) (fun z:Int=> .int .i64 z) (InK .i64) bm1,boxA b2 34 [.bool false,.slice none 0 0],boxA b1 25 [.slice pv nv cv,.slice pf nf cf]],[zF ws s,zF w34 (0:Int),slF (rI3 .i64) pv cv V,slF (rI3 .i64) pf cf F])) ?_ (fun hD29=> ?_)
    ·
     rintro ⟨u25_1,u26_1⟩
     dsimp only
     refine zcb 7 24 (by kernel_rfl) ?_ ?_
     ·
      refine zM rfl rfl rfl rfl (.c rfl (.c rfl .n)) ce58 (zsa (ex:=0) (ey:=0) (ez:=0) (fx:=qd7) (fy:=qd8) (fz:=qd9) (hbex:=by omega) (hbey:=by omega) (hbez:=by omega) (hbfx:=by omega) (hbfy:=by omega) (hbfz:=by omega)) (.n) ?_
      rintro ⟨u7_1,u7_2,u7_3⟩ -
      dsimp only [List.append_eq,List.nil_append,List.cons_append]
      exact zv (hD21 (u7_1,u7_2,u7_3,u25_1,u26_1)) (by kernel_rfl) ((.of rfl):SubM _ _) .rfl .rfl ((.of [0,1,2,3,4,5,6] rfl):SelR _ _ _)
     ·
      refine zaa rfl rfl rfl rfl (zr zr89 rfl) (fun u24_1 _=> ?_)
      exact zv (hD22 (u24_1,u25_1,u26_1)) (by kernel_rfl) ((.of rfl):SubM _ _) (zX 1 rfl (zX 1 rfl (zX 0 rfl .nil))) .rfl ((.of [0,1,2,3] rfl):SelR _ _ _)
    refine zS (X:=Wd×Wd×Wd) (k':=8) (L':=(lb 30 8355839)) (fun (u7_1,u7_2,u7_3)=>([(39,.agg (cw [u7_1,u7_2,u7_3]).toArray),(54,.agg #[.int .i64 qd1,.int .i64 qd2,.int .i64 qd3]),(48,.agg #[.int .i64 0,.int .i64 0,.int .i64 0]),(46,.agg #[.int .i64 qd4,.int .i64 qd5,.int .i64 qd6]),(40,.agg #[.int .i64 0,.int .i64 0,.int .i64 0]),(27,.int .i64 ((i:Nat):Int)),(26,.int .i64 ((nf:Nat):Int)),(25,.slice pf nf cf),(5,.pointer (some ⟨b5,0,none⟩)),(3,.int .i64 0),(2,.pointer (some ⟨b2,0,none⟩)),(1,.pointer (some ⟨b1,0,none⟩))],[],[boxA b11 42 [.int .i64 0,.int .i64 0,.int .i64 0],boxA b10 44 [.int .i64 ((F.getD i (0,0,0)).1),.int .i64 ((F.getD i (0,0,0)).2.1),.int .i64 ((F.getD i (0,0,0)).2.2)],boxA b5 34 [ws.b,ws.l],mapA b23 (fun z:Int=> .int .i64 z) (fun z:Int=> .int .i64 z) (InK .i64) bm1,boxA b2 34 [.bool false,.slice none 0 0],boxA b1 25 [.slice pv nv cv,.slice pf nf cf]],[zF u7_1 (qd7 - 0),zF u7_2 (qd8 - 0),zF u7_3 (qd9 - 0),zF ws s,zF w34 (0:Int),slF (rI3 .i64) pv cv V,slF (rI3 .i64) pf cf F])) ?_ (fun hD30=> ?_)
    ·
     rintro ⟨u7_1,u7_2,u7_3⟩
     dsimp only [cw]
     refine zKd 15 24 25 26 (by kernel_rfl) ?_ ?_ ?_ ?_
     ·
      refine zM rfl rfl rfl rfl (.c rfl (.c rfl .n)) ce58 (zsa (ex:=0) (ey:=0) (ez:=0) (fx:=qd4) (fy:=qd5) (fz:=qd6) (hbex:=by omega) (hbey:=by omega) (hbez:=by omega) (hbfx:=by omega) (hbfy:=by omega) (hbfz:=by omega)) (.n) ?_
      rintro ⟨u15_1,u15_2,u15_3⟩ -
      dsimp only [List.append_eq,List.nil_append,List.cons_append]
      exact zv (hD23 (u7_1,u7_2,u7_3,u15_1,u15_2,u15_3)) (by kernel_rfl) ((.of rfl):SubM _ _) .rfl .rfl ((.of [0,1,2,3,4,5,6,7,8,9] rfl):SelR _ _ _)
     ·
      refine zaa rfl rfl rfl rfl (zr zr89 rfl) (fun u24_1 _=> ?_)
      exact zv (hD24 (u7_1,u7_2,u7_3,u24_1)) (by kernel_rfl) ((.of rfl):SubM _ _) .rfl .rfl ((.of [0,1,2,3,4,5,6] rfl):SelR _ _ _)
     ·
      refine zaa rfl rfl rfl rfl (zr zr89 rfl) (fun u25_1 _=> ?_)
      exact zv (hD25 (u7_1,u7_2,u7_3,u25_1)) (by kernel_rfl) ((.of rfl):SubM _ _) .rfl .rfl ((.of [0,1,2,3,4,5,6] rfl):SelR _ _ _)
     ·
      refine zaa rfl rfl rfl rfl (zr zr89 rfl) (fun u26_1 _=> ?_)
      exact zv (hD26 (u7_1,u7_2,u7_3,u26_1)) (by kernel_rfl) ((.of rfl):SubM _ _) .rfl .rfl ((.of [0,1,2,3,4,5,6] rfl):SelR _ _ _)
    refine zS (X:=Nat) (k':=8) (L':=(lb 30 25132927)) (fun u24_1=>([(9,.pointer (some ⟨u24_1,0,none⟩)),(54,.agg #[.int .i64 qd1,.int .i64 qd2,.int .i64 qd3]),(48,.agg #[.int .i64 0,.int .i64 0,.int .i64 0]),(46,.agg #[.int .i64 qd4,.int .i64 qd5,.int .i64 qd6]),(40,.agg #[.int .i64 0,.int .i64 0,.int .i64 0]),(38,.agg #[.int .i64 qd7,.int .i64 qd8,.int .i64 qd9]),(32,.agg #[.int .i64 0,.int .i64 0,.int .i64 0]),(27,.int .i64 ((i:Nat):Int)),(26,.int .i64 ((nf:Nat):Int)),(25,.slice pf nf cf),(5,.pointer (some ⟨b5,0,none⟩)),(3,.int .i64 0),(2,.pointer (some ⟨b2,0,none⟩)),(1,.pointer (some ⟨b1,0,none⟩))],[boxA u24_1 89 [.bool false,.slice none 0 0,.bool false,.slice none 0 0,.bool false,.slice none 0 0]],[boxA b11 42 [.int .i64 0,.int .i64 0,.int .i64 0],boxA b10 44 [.int .i64 ((F.getD i (0,0,0)).1),.int .i64 ((F.getD i (0,0,0)).2.1),.int .i64 ((F.getD i (0,0,0)).2.2)],boxA b5 34 [ws.b,ws.l],mapA b23 (fun z:Int=> .int .i64 z) (fun z:Int=> .int .i64 z) (InK .i64) bm1,boxA b2 34 [.bool false,.slice none 0 0],boxA b1 25 [.slice pv nv cv,.slice pf nf cf]],[zF ws s,zF w34 (0:Int),slF (rI3 .i64) pv cv V,slF (rI3 .i64) pf cf F])) ?_ (fun hD31=> ?_)
    ·
     rintro u24_1
     dsimp only
     refine zhb 7 25 26 (by kernel_rfl) ?_ ?_ ?_
     ·
      refine zM rfl rfl rfl rfl (.c rfl (.c rfl .n)) ce58 (zsa (ex:=0) (ey:=0) (ez:=0) (fx:=qd7) (fy:=qd8) (fz:=qd9) (hbex:=by omega) (hbey:=by omega) (hbez:=by omega) (hbfx:=by omega) (hbfy:=by omega) (hbfz:=by omega)) (.n) ?_
      rintro ⟨u7_1,u7_2,u7_3⟩ -
      dsimp only [List.append_eq,List.nil_append,List.cons_append]
      exact zv (hD24 (u7_1,u7_2,u7_3,u24_1)) (by kernel_rfl) ((.of rfl):SubM _ _) .rfl .rfl ((.of [0,1,2,3,4,5,6] rfl):SelR _ _ _)
     ·
      refine zaa rfl rfl rfl rfl (zr zr89 rfl) (fun u25_1 _=> ?_)
      exact zv (hD27 (u24_1,u25_1)) (by kernel_rfl) ((.of rfl):SubM _ _) .rfl .rfl ((.of [0,1,2,3] rfl):SelR _ _ _)
     ·
      refine zaa rfl rfl rfl rfl (zr zr89 rfl) (fun u26_1 _=> ?_)
      exact zv (hD28 (u24_1,u26_1)) (by kernel_rfl) ((.of rfl):SubM _ _) .rfl .rfl ((.of [0,1,2,3] rfl):SelR _ _ _)
    refine zS (X:=Nat) (k':=8) (L':=(lb 30 41910143)) (fun u25_1=>([(10,.pointer (some ⟨u25_1,0,none⟩)),(54,.agg #[.int .i64 qd1,.int .i64 qd2,.int .i64 qd3]),(48,.agg #[.int .i64 0,.int .i64 0,.int .i64 0]),(46,.agg #[.int .i64 qd4,.int .i64 qd5,.int .i64 qd6]),(40,.agg #[.int .i64 0,.int .i64 0,.int .i64 0]),(38,.agg #[.int .i64 qd7,.int .i64 qd8,.int .i64 qd9]),(32,.agg #[.int .i64 0,.int .i64 0,.int .i64 0]),(27,.int .i64 ((i:Nat):Int)),(26,.int .i64 ((nf:Nat):Int)),(25,.slice pf nf cf),(5,.pointer (some ⟨b5,0,none⟩)),(3,.int .i64 0),(2,.pointer (some ⟨b2,0,none⟩)),(1,.pointer (some ⟨b1,0,none⟩))],[boxA u25_1 89 [.bool false,.slice none 0 0,.bool false,.slice none 0 0,.bool false,.slice none 0 0]],[boxA b11 42 [.int .i64 0,.int .i64 0,.int .i64 0],boxA b10 44 [.int .i64 ((F.getD i (0,0,0)).1),.int .i64 ((F.getD i (0,0,0)).2.1),.int .i64 ((F.getD i (0,0,0)).2.2)],boxA b5 34 [ws.b,ws.l],mapA b23 (fun z:Int=> .int .i64 z) (fun z:Int=> .int .i64 z) (InK .i64) bm1,boxA b2 34 [.bool false,.slice none 0 0],boxA b1 25 [.slice pv nv cv,.slice pf nf cf]],[zF ws s,zF w34 (0:Int),slF (rI3 .i64) pv cv V,slF (rI3 .i64) pf cf F])) ?_ (fun hD32=> ?_)
    ·
     rintro u25_1
     dsimp only
     refine zhb 7 24 26 (by kernel_rfl) ?_ ?_ ?_
     ·
      refine zM rfl rfl rfl rfl (.c rfl (.c rfl .n)) ce58 (zsa (ex:=0) (ey:=0) (ez:=0) (fx:=qd7) (fy:=qd8) (fz:=qd9) (hbex:=by omega) (hbey:=by omega) (hbez:=by omega) (hbfx:=by omega) (hbfy:=by omega) (hbfz:=by omega)) (.n) ?_
      rintro ⟨u7_1,u7_2,u7_3⟩ -
      dsimp only [List.append_eq,List.nil_append,List.cons_append]
      exact zv (hD25 (u7_1,u7_2,u7_3,u25_1)) (by kernel_rfl) ((.of rfl):SubM _ _) .rfl .rfl ((.of [0,1,2,3,4,5,6] rfl):SelR _ _ _)
     ·
      refine zaa rfl rfl rfl rfl (zr zr89 rfl) (fun u24_1 _=> ?_)
      exact zv (hD27 (u24_1,u25_1)) (by kernel_rfl) ((.of rfl):SubM _ _) (zX 1 rfl (zX 0 rfl .nil)) .rfl ((.of [0,1,2,3] rfl):SelR _ _ _)
     ·
      refine zaa rfl rfl rfl rfl (zr zr89 rfl) (fun u26_1 _=> ?_)
      exact zv (hD29 (u25_1,u26_1)) (by kernel_rfl) ((.of rfl):SubM _ _) .rfl .rfl ((.of [0,1,2,3] rfl):SelR _ _ _)
    refine zS (X:=Nat) (k':=8) (L':=(lb 30 75464575)) (fun u26_1=>([(11,.pointer (some ⟨u26_1,0,none⟩)),(54,.agg #[.int .i64 qd1,.int .i64 qd2,.int .i64 qd3]),(48,.agg #[.int .i64 0,.int .i64 0,.int .i64 0]),(46,.agg #[.int .i64 qd4,.int .i64 qd5,.int .i64 qd6]),(40,.agg #[.int .i64 0,.int .i64 0,.int .i64 0]),(38,.agg #[.int .i64 qd7,.int .i64 qd8,.int .i64 qd9]),(32,.agg #[.int .i64 0,.int .i64 0,.int .i64 0]),(27,.int .i64 ((i:Nat):Int)),(26,.int .i64 ((nf:Nat):Int)),(25,.slice pf nf cf),(5,.pointer (some ⟨b5,0,none⟩)),(3,.int .i64 0),(2,.pointer (some ⟨b2,0,none⟩)),(1,.pointer (some ⟨b1,0,none⟩))],[boxA u26_1 89 [.bool false,.slice none 0 0,.bool false,.slice none 0 0,.bool false,.slice none 0 0]],[boxA b11 42 [.int .i64 0,.int .i64 0,.int .i64 0],boxA b10 44 [.int .i64 ((F.getD i (0,0,0)).1),.int .i64 ((F.getD i (0,0,0)).2.1),.int .i64 ((F.getD i (0,0,0)).2.2)],boxA b5 34 [ws.b,ws.l],mapA b23 (fun z:Int=> .int .i64 z) (fun z:Int=> .int .i64 z) (InK .i64) bm1,boxA b2 34 [.bool false,.slice none 0 0],boxA b1 25 [.slice pv nv cv,.slice pf nf cf]],[zF ws s,zF w34 (0:Int),slF (rI3 .i64) pv cv V,slF (rI3 .i64) pf cf F])) ?_ (fun hD33=> ?_)
    ·
     rintro u26_1
     dsimp only
     refine zhb 7 24 25 (by kernel_rfl) ?_ ?_ ?_
     ·
      refine zM rfl rfl rfl rfl (.c rfl (.c rfl .n)) ce58 (zsa (ex:=0) (ey:=0) (ez:=0) (fx:=qd7) (fy:=qd8) (fz:=qd9) (hbex:=by omega) (hbey:=by omega) (hbez:=by omega) (hbfx:=by omega) (hbfy:=by omega) (hbfz:=by omega)) (.n) ?_
      rintro ⟨u7_1,u7_2,u7_3⟩ -
      dsimp only [List.append_eq,List.nil_append,List.cons_append]
      exact zv (hD26 (u7_1,u7_2,u7_3,u26_1)) (by kernel_rfl) ((.of rfl):SubM _ _) .rfl .rfl ((.of [0,1,2,3,4,5,6] rfl):SelR _ _ _)
     ·
      refine zaa rfl rfl rfl rfl (zr zr89 rfl) (fun u24_1 _=> ?_)
      exact zv (hD28 (u24_1,u26_1)) (by kernel_rfl) ((.of rfl):SubM _ _) (zX 1 rfl (zX 0 rfl .nil)) .rfl ((.of [0,1,2,3] rfl):SelR _ _ _)
     ·
      refine zaa rfl rfl rfl rfl (zr zr89 rfl) (fun u25_1 _=> ?_)
      exact zv (hD29 (u25_1,u26_1)) (by kernel_rfl) ((.of rfl):SubM _ _) (zX 1 rfl (zX 0 rfl .nil)) .rfl ((.of [0,1,2,3] rfl):SelR _ _ _)
    refine zKd 7 24 25 26 (by kernel_rfl) ?_ ?_ ?_ ?_
    ·
     refine zM rfl rfl rfl rfl (.c rfl (.c rfl .n)) ce58 (zsa (ex:=0) (ey:=0) (ez:=0) (fx:=qd7) (fy:=qd8) (fz:=qd9) (hbex:=by omega) (hbey:=by omega) (hbez:=by omega) (hbfx:=by omega) (hbfy:=by omega) (hbfz:=by omega)) (.n) ?_
     rintro ⟨u7_1,u7_2,u7_3⟩ -
     dsimp only [List.append_eq,List.nil_append,List.cons_append]
     exact zv (hD30 (u7_1,u7_2,u7_3)) (by kernel_rfl) ((.of rfl):SubM _ _) .rfl .rfl ((.of [0,1,2,3,4,5,6] rfl):SelR _ _ _)
    ·
     refine zaa rfl rfl rfl rfl (zr zr89 rfl) (fun u24_1 _=> ?_)
     exact zv (hD31 u24_1) (by kernel_rfl) ((.of rfl):SubM _ _) .rfl .rfl ((.of [0,1,2,3] rfl):SelR _ _ _)
    ·
     refine zaa rfl rfl rfl rfl (zr zr89 rfl) (fun u25_1 _=> ?_)
     exact zv (hD32 u25_1) (by kernel_rfl) ((.of rfl):SubM _ _) .rfl .rfl ((.of [0,1,2,3] rfl):SelR _ _ _)
    ·
     refine zaa rfl rfl rfl rfl (zr zr89 rfl) (fun u26_1 _=> ?_)
     exact zv (hD33 u26_1) (by kernel_rfl) ((.of rfl):SubM _ _) .rfl .rfl ((.of [0,1,2,3] rfl):SelR _ _ _)
   ·
    refine zP<|zi<|zi<|zp<|zc<|ze<|za<|r_u rfl rfl (zh 0 ty34 rfl rfl (.take (.take .nil)))<|zt 2 rfl rfl rfl rfl rfl sz34 rfl (.take (.take .nil)) (.s (.s .z))<|r_pv rfl rfl (zd rfl)<|zg<|zc<|zJ ?_
    obtain ⟨hz1,hz2⟩:=Ms.volC_ok hc0 (fun h=>hlen (by have:=hB.empty.2 h;omega))
    have hs9:s=Ms.vol V F:=by rw [hz2,hs,List.take_of_length_le (by omega)]
    exact zdb Try.results16 ws trivial (zK 2 ty34 rfl rfl (.take (.take .nil))) (zw rfl) (by rw [hz1]) (ho:=(.n:PickO _ _ _)) ((.e (j:=0) rfl (by rw [← hs9]) .n):SelR _ _ _)
end Go.Proofs.Ytalfgjpbbongcaa.Sp
namespace Go.Proofs.Ytalfgjpbbongcaa.Sp
open Go
set_option linter.unusedVariables false
set_option maxRecDepth 100000
set_option maxHeartbeats 1000000
theorem zge:Con Try.prog 12 [] [] [] (Y:=Unit) (fun y=>True) (fun y=> .bool true) (fun y=>[]) (fun y=>[]):=by
 refine zx Try.func12 rfl rfl rfl (fun c=> ?_)
 show RunC _ _ _ _ _ [] [] []
 refine ze<|za<|r_pv rfl rfl (zd rfl)<|zg<|zc<|ze<|za<|zea rfl rfl (.n) ce44 (zxb) (.n) ?_
 rintro ⟨pvA,pfA⟩ -
 dsimp only [List.append_eq,List.nil_append,List.cons_append]
 refine zea rfl rfl (.c rfl .n) ce16 (zyd (pv:=pvA) (nv:=4) (cv:=4) (V:=Ms.exV) (pf:=pfA) (nf:=4) (cf:=4) (F:=Ms.exF) (hnv:=by first|rfl|assumption|decide|(simp [Ms.exV,Ms.exF];done)) (hnf:=by first|rfl|assumption|decide|(simp [Ms.exV,Ms.exF];done))) (.c (j:=0) rfl (.c (j:=1) rfl .n)) ?_
 rintro w31 -
 dsimp only [List.append_eq,List.nil_append,List.cons_append]
 have e2:Ms.volC Ms.exV Ms.exF=0:=by exact Ms.ex_volC
 rw [e2]
 have e3:Ms.vol Ms.exV Ms.exF=(1:Int):=by exact Ms.ex_vol
 rw [e3]
 refine r_pv rfl rfl (zb rfl)<|r_pv rfl rfl (zV rfl rfl)<|r_pv rfl rfl (zV rfl rfl)<|zO rfl rfl (zr zr34 rfl) (fun b4=> ?_)
 refine zt 0 rfl rfl rfl rfl rfl sz34 rfl (.take (.take .nil)) .z<|r_pv rfl rfl (zd rfl)<|zg<|zc<|ze<|za<|zea rfl rfl (.n) ce44 (zxb) (.n) ?_
 rintro ⟨pvB,pfB⟩ -
 dsimp only [List.append_eq,List.nil_append,List.cons_append]
 refine zW rfl rfl (.c rfl .n) ce25 (zfe (pv:=pvB) (nv:=4) (cv:=4) (V:=Ms.exV) (pf:=pfB) (nf:=4) (cf:=4) (F:=Ms.exF) (hnv:=by first|rfl|assumption|decide|(simp [Ms.exV,Ms.exF];done)) (hnf:=by first|rfl|assumption|decide|(simp [Ms.exV,Ms.exF];done))) (.c (j:=0) rfl (.c (j:=1) rfl .n)) ?_
 have e5:Ms.check Ms.exV Ms.exF=0:=by exact Ms.ex_check
 rw [e5]
 have e6:Ms.eulerR Ms.exV Ms.exF=2:=by exact Ms.ex_euler
 rw [e6]
 refine r_pv rfl rfl (zb rfl)<|r_pv rfl rfl (zV rfl rfl)<|r_pv rfl rfl (zV rfl rfl)<|r_pv rfl rfl (zd rfl)<|r_pv rfl rfl (zd rfl)<|zg<|zc<|ze<|za<|zea rfl rfl (.n) ce44 (zxb) (.n) ?_
 rintro ⟨pvC,pfC⟩ -
 dsimp only [List.append_eq,List.nil_append,List.cons_append]
 refine zO rfl rfl (zr zr25 rfl) (fun b7=> ?_)
 refine zt 0 rfl rfl rfl rfl rfl sz25 rfl (.take (.take .nil)) .z<|zg<|zc<|ze<|za<|r_pv rfl rfl (zn Try.underlying25 rfl sz23 rfl rfl)<|r_u rfl rfl (zf 0 ty23 rfl rfl rfl)<|r_pv rfl rfl (zrb (hi:=3) Try.underlying23 sz44 rfl (.s rfl) (.inr ⟨_,rfl⟩) (by first|omega|decide))<|zUb (zAb 1 rfl 3 (by first|omega|decide)) (fun _ _=> ?_)
 refine r_pv rfl rfl (zn Try.underlying25 rfl sz23 rfl rfl)<|zt 0 rfl rfl rfl rfl rfl sz23 rfl (.skip (.take .nil)) .z<|zg<|zc<|ze<|za<|r_u rfl rfl (zh 0 ty25 rfl rfl (.take (.take .nil)))<|zea rfl rfl (.c rfl .n) ce23 (zcd (pv:=pvC) (nv:=4) (cv:=4) (V:=Ms.exV) (pf:=pfC) (nf:=3) (cf:=4) (F:=(Ms.exF.take 3)) (hnv:=by first|rfl|assumption|decide|(simp [Ms.exV,Ms.exF];done)) (hnf:=by first|rfl|assumption|decide|(simp [Ms.exV,Ms.exF];done))) (.c (j:=1) rfl (.c (j:=0) rfl .n)) ?_
 rintro ⟨p28,c29,bm1⟩ hB
 dsimp only [List.append_eq,List.nil_append,List.cons_append]
 replace hB:Ms.check Ms.exV (Ms.exF.take 3)=0→Ms.BMap (Ms.exF.take 3) bm1:=hB
 have e10:Ms.check Ms.exV (Ms.exF.take 3)=0:=by exact Ms.ex_open
 rw [e10]
 have e11:Ms.bordersR Ms.exV (Ms.exF.take 3) bm1=Ms.exL:=by exact Ms.ex_borders (hB Ms.ex_open)
 rw [e11]
 refine r_pv rfl rfl (zb rfl)<|r_pv rfl rfl (zV rfl rfl)<|r_pv rfl rfl (zV rfl rfl)<|r_pv rfl rfl (zd rfl)<|r_pv rfl rfl (zd rfl)<|zg<|zc<|ze<|zya (OW:=[]) (O:=[boxA b7 25 [.slice pvC 4 4,.slice pfC 3 4],boxA b4 34 [w31.b,w31.l]]) 100000 mixed (.then .ret) (by kernel_rfl)<|d_pv 0 rfl rfl (by kernel_rfl) (by kernel_rfl) rfl rfl (zb rfl)<|d_pv 1 rfl rfl (by kernel_rfl) (by kernel_rfl) rfl rfl (zGa rfl rfl)<|d_pv 2 rfl rfl (by kernel_rfl) (by kernel_rfl) rfl rfl (zb rfl)<|d_pv 3 rfl rfl (by kernel_rfl) (by kernel_rfl) rfl rfl (zb rfl)<|d_pv 4 rfl rfl (by kernel_rfl) (by kernel_rfl) rfl rfl (zGa rfl rfl)<|d_pv 5 rfl rfl (by kernel_rfl) (by kernel_rfl) rfl rfl (zH rfl rfl)<|d_pv 6 rfl rfl (by kernel_rfl) (by kernel_rfl) rfl rfl (zb rfl)<|d_pv 7 rfl rfl (by kernel_rfl) (by kernel_rfl) rfl rfl (zb rfl)<|d_pv 8 rfl rfl (by kernel_rfl) (by kernel_rfl) rfl rfl (zGa rfl rfl)<|d_pv 9 rfl rfl (by kernel_rfl) (by kernel_rfl) rfl rfl (zH rfl rfl)<|d_pv 10 rfl rfl (by kernel_rfl) (by kernel_rfl) rfl rfl (zb rfl)<|d_u 11 rfl rfl (by kernel_rfl) (by kernel_rfl) rfl rfl (zh 1 ty34 rfl rfl (.take (.take .nil)))<|zR 12 (by kernel_rfl) (zM rfl rfl rfl rfl (.c rfl .n) ce45 (zue (z:=(1:Int)) (hz:=by first|rfl|assumption|decide|(simp [Ms.exV,Ms.exF];done))) (.n) ?_)
 rintro w312 -
 dsimp only [List.append_eq,List.nil_append,List.cons_append]
 refine zR 13 (by kernel_rfl) (zDa rfl rfl rfl rfl (.c rfl (.c rfl .n)) ce18 (zud (w1:=w31) (w2:=w312) (x1:=(1:Int)) (x2:=(1:Int))) (.c (j:=7) rfl (.c (j:=0) rfl .n)) ?_)
 rw [show (decide ((1:Int)=(1:Int)))=true from by decide]
 refine d_pv 14 rfl rfl (by kernel_rfl) (by kernel_rfl) rfl rfl (zH rfl rfl)<|d_pv 15 rfl rfl (by kernel_rfl) (by kernel_rfl) rfl rfl (zb rfl)<|d_pv 16 rfl rfl (by kernel_rfl) (by kernel_rfl) rfl rfl (zb rfl)<|d_pv 17 rfl rfl (by kernel_rfl) (by kernel_rfl) rfl rfl (zGa rfl rfl)<|d_pv 18 rfl rfl (by kernel_rfl) (by kernel_rfl) rfl rfl (zH rfl rfl)<|d_pv 19 rfl rfl (by kernel_rfl) (by kernel_rfl) rfl rfl (zb rfl)<|d_pv 20 rfl rfl (by kernel_rfl) (by kernel_rfl) rfl rfl (zb rfl)<|d_pv 21 rfl rfl (by kernel_rfl) (by kernel_rfl) rfl rfl (zL Try.underlying37 rfl) ?_
 have e13:(((Ms.exL).length:Nat):Int)=1:=by rfl
 rw [e13]
 refine d_pv 22 rfl rfl (by kernel_rfl) (by kernel_rfl) rfl rfl (zGa rfl rfl)<|d_pv 23 rfl rfl (by kernel_rfl) (by kernel_rfl) rfl rfl (zH rfl rfl)<|d_pv 24 rfl rfl (by kernel_rfl) (by kernel_rfl) rfl rfl (zb rfl)<|d_pv 25 rfl rfl (by kernel_rfl) (by kernel_rfl) rfl rfl (zb rfl)<|d_vl 26 rfl rfl (by kernel_rfl) (by kernel_rfl) rfl rfl (zQb (x0:=(Ms.exL.getD 0 [])) 1 0 rfl Try.underlying37 sz50 rfl (by first|rfl|assumption|(simp_all;done)|omega) rfl rfl (gD (d:=[]) (by first|omega|decide))) ?_
 rintro ⟨b14,o15,p16,c17⟩ -
 dsimp only [List.append_eq,List.nil_append,List.cons_append]
 refine d_u 27 rfl rfl (by kernel_rfl) (by kernel_rfl) rfl rfl (zA (j:=0) 0 ty50 rfl rfl rfl rfl)<|zR 28 (by kernel_rfl) (zBb rfl rfl rfl rfl (zz (enc:=fun z:Int=>[.int .i64 z]) (ok:=InK .i64) (h1:=fun _=>rfl) (h2:=fun _=>rfl) (k:=3) Try.underlying50 inf3 rfl (by decide) (by decide) (by decide) (.c (x:=1) rfl rfl (fun _ _=>by exact zm.2 (by omega)) (.c (x:=3) rfl rfl (fun _ _=>by exact zm.2 (by omega)) (.c (x:=2) rfl rfl (fun _ _=>by exact zm.2 (by omega)) .n)))) (fun b18 _=> ?_))
 refine zMa 0 rfl .z<|zR 29 (by kernel_rfl) (zDa rfl rfl rfl rfl (.c rfl (.c rfl .n)) ce28 (zUd (p1:=p16) (n1:=(Ms.exL.getD 0 []).length) (c1:=c17) (l1:=(Ms.exL.getD 0 [])) (p2:=some ⟨b18,0,none⟩) (n2:=3) (c2:=3) (l2:=[1,3,2]) (hn1:=by first|rfl|assumption|decide|(simp [Ms.exV,Ms.exF];done)) (hn2:=by first|rfl|assumption|decide|(simp [Ms.exV,Ms.exF];done))) (.c (j:=2) rfl (.c (j:=0) rfl .n)) ?_)
 rw [show (decide ((Ms.exL.getD 0 [])=([1,3,2])))=true from by decide]
 refine d_pv 30 rfl rfl (by kernel_rfl) (by kernel_rfl) rfl rfl (zH rfl rfl)<|d_pv 31 rfl rfl (by kernel_rfl) (by kernel_rfl) rfl rfl (zb rfl)<|d_u 32 rfl rfl (by kernel_rfl) (by kernel_rfl) rfl rfl (zh 1 ty25 rfl rfl (.take (.take .nil)))<|zR 33 (by kernel_rfl) (zDa rfl rfl rfl rfl (.c rfl .n) ce14 (znb (pv:=pvC) (nv:=4) (cv:=4) (V:=Ms.exV) (pf:=pfC) (nf:=3) (cf:=4) (F:=(Ms.exF.take 3)) (hnv:=by first|rfl|assumption|decide|(simp [Ms.exV,Ms.exF];done)) (hnf:=by first|rfl|assumption|decide|(simp [Ms.exV,Ms.exF];done))) (.c (j:=6) rfl (.c (j:=5) rfl .n)) ?_)
 have e19:Ms.check Ms.exV (Ms.exF.take 3)=0:=by exact Ms.ex_open
 rw [e19]
 refine d_pv 34 rfl rfl (by kernel_rfl) (by kernel_rfl) rfl rfl (zGa rfl rfl)<|d_pv 35 rfl rfl (by kernel_rfl) (by kernel_rfl) rfl rfl (zH rfl rfl)<|d_pv 36 rfl rfl (by kernel_rfl) (by kernel_rfl) rfl rfl (zd rfl)<|zwa (by kernel_rfl)<|zc<|zJ ?_
 exact zB Try.results12 () trivial (zw rfl) rfl (ho:=(.n:PickO _ _ _)) (.n:SelR _ _ _)
end Go.Proofs.Ytalfgjpbbongcaa.Sp
namespace Go.Proofs.Ytalfgjpbbongcaa.Ms
abbrev Z3:V3:=(0,0,0)
def ld (F:List V3) (a:Nat):Nat:=(rl F a).toNat
section
variable {F : List V3} (hd : ∀ f ∈ F, deg f = false)
theorem rl_rng {a:Nat} (ha:a<F.length):0≤rl F a∧rl F a<F.length∧Cls F F.length (rl F a).toNat a:=(labs_lc F F.length F.length).2 a ha
theorem ld_lt {a:Nat} (ha:a<F.length):ld F a<F.length:=by have:=rl_rng ha;unfold ld;omega
theorem ld_le {a:Nat} (ha:a<F.length):ld F a≤a:=by
  have h:=labs_conv ha ha (.refl a:Cls F F.length a a)
  have:=rl_rng ha
  unfold ld rl at *;omega
include hd in
theorem ld_cls {a b:Nat} (ha:a<F.length) (hb:b<F.length) (h:Cls F F.length a b):ld F a=ld F b:=by
  unfold ld rl;rw [(labs_iff hd ha hb).2 h]
include hd in
theorem ld_near {a b:Nat} (ha:a<F.length) (hb:b<F.length) (h:nearF F a b=true):ld F a=ld F b:=
  ld_cls hd ha hb (.step (.refl a) ha hb (near_symm hd ha hb h))
theorem ld_con {a:Nat} (ha:a<F.length):Cls F F.length (ld F a) a:=(rl_rng ha).2.2
include hd in
end
theorem turn_edges {f:V3} {e:Int×Int}:e∈edges3 (turn f)↔(e.2,e.1)∈edges3 f:=by
  obtain ⟨a,b⟩:=e;obtain ⟨x,y,z⟩:=f
  simp only [edges3,turn,List.mem_cons,Prod.mk.injEq,List.not_mem_nil,or_false];omega
theorem or_edges {f g:V3} (h:g=f∨g=turn f) {e:Int×Int} (he:e∈edges3 g):∃e'∈edges3 f,pl e'=pl e:=by
  rcases h with rfl|rfl
  · exact ⟨e,he,rfl⟩
  · exact ⟨_,turn_edges.1 he,by simp only [pl,Prod.mk.injEq];omega⟩
theorem or_edges' {f g:V3} (h:g=f∨g=turn f) {e:Int×Int} (he:e∈edges3 f):∃e'∈edges3 g,pl e'=pl e:=by
  rcases h with rfl|rfl
  · exact ⟨e,he,rfl⟩
  · exact ⟨(e.2,e.1),turn_edges.2 he,by simp only [pl,Prod.mk.injEq];omega⟩
theorem pl_eq {e e':Int×Int} (h:pl e'=pl e):e'=e∨e'=(e.2,e.1):=by
  obtain ⟨a,b⟩:=e;obtain ⟨c,d⟩:=e'
  simp only [pl,Prod.mk.injEq] at h ⊢;omega
structure GoodQ (F Q:List V3):Prop where
  len:Q.length=F.length
  or:∀i,i<F.length→Q.getD i Z3=F.getD i Z3∨Q.getD i Z3=turn (F.getD i Z3)
  ro:∀i,i<F.length→ld F i=i→Q.getD i Z3=F.getD i Z3
  nd:∀i j,i<F.length→j<F.length→i≠j→∀e∈edges3 (Q.getD i Z3),e ∉ edges3 (Q.getD j Z3)
structure OrI (F:List V3) (K:List Bool) (O:List V3):Prop where
  kl:K.length=F.length
  ol:O.length=F.length
  lk:∀i,i<F.length→K.getD i false=true→K.getD (ld F i) false=true
  or:∀i,i<F.length→O.getD i Z3=F.getD i Z3∨O.getD i Z3=turn (F.getD i Z3)
  un:∀i,i<F.length→¬K.getD i false=true→O.getD i Z3=F.getD i Z3
  ro:∀i,i<F.length→ld F i=i→O.getD i Z3=F.getD i Z3
  cmp:∀Q,GoodQ F Q→∀i,i<F.length→K.getD i false=true→O.getD i Z3=Q.getD i Z3
def Clo (F:List V3) (K:List Bool):Prop:=∀a b,a<F.length→b<F.length→K.getD a false=true→nearF F a b=true→K.getD b false=true
theorem getD_setK {b:List Bool} {j k:Nat} {v:Bool} (h:k<b.length):(b.set k v).getD j false=if j=k then v else b.getD j false:=by
  rw [List.getD_eq_getElem?_getD,List.getElem?_set]
  by_cases e:k=j
  · subst e;simp [h]
  · rw [if_neg e,if_neg (fun x=>e x.symm),←List.getD_eq_getElem?_getD]
theorem getD_setF {b:List V3} {j k:Nat} {v:V3} (h:k<b.length):(b.set k v).getD j Z3=if j=k then v else b.getD j Z3:=by
  rw [List.getD_eq_getElem?_getD,List.getElem?_set]
  by_cases e:k=j
  · subst e;simp [h]
  · rw [if_neg e,if_neg (fun x=>e x.symm),←List.getD_eq_getElem?_getD]
theorem OrI.start (F:List V3):OrI F (List.replicate F.length false) F:=by
  have h:∀i,¬(List.replicate F.length false).getD i false=true:=fun i=>by
    rw [List.getD_eq_getElem?_getD,List.getElem?_replicate];split <;> simp
  exact ⟨by simp,rfl,fun i _ k=>absurd k (h i),fun i _=> .inl rfl,fun i _ _=>rfl,fun i _ _=>rfl,fun Q _ i _ k=>absurd k (h i)⟩
section
variable {F : List V3} (hd : ∀ f ∈ F, deg f = false)
include hd in
theorem Clo.cls {K:List Bool} (h:Clo F K) {a b:Nat} (ha:a<F.length) (hc:Cls F F.length a b) (hk:K.getD a false=true):K.getD b false=true:=by
  induction hc with
  |refl=>exact hk
  |step _ h1 h2 h3 ih=>exact h _ _ h1 h2 ih (near_symm hd h2 h1 h3)
include hd in
theorem OrI.root {K:List Bool} {O:List V3} {i:Nat} (h:OrI F K O) (hi:i<F.length) (hn:¬K.getD i false=true) (hb:∀j,j<i→K.getD j false=true) (hc:Clo F K):OrI F (K.set i true) O:=by
  have hk:∀j,(K.set i true).getD j false=if j=i then true else K.getD j false:=fun j=>getD_setK (by rw [h.kl];exact hi)
  have hl:ld F i=i:=by
    have:=ld_le hi
    by_cases e:ld F i<i
    · exact absurd (hc.cls hd (ld_lt hi) (ld_con hi) (hb _ e)) hn
    · omega
  refine ⟨by rw [List.length_set];exact h.kl,h.ol,fun j hj e=> ?_,h.or,fun j hj e=> ?_,h.ro,fun Q hQ j hj e=> ?_⟩
  · rw [hk] at e ⊢
    by_cases x:j=i
    · subst x;rw [hl,if_pos rfl]
    · rw [if_neg x] at e; split
      · rfl
      · exact h.lk j hj e
  · rw [hk] at e
    by_cases x:j=i
    · rw [if_pos x] at e;exact absurd rfl e
    · rw [if_neg x] at e;exact h.un j hj e
  · rw [hk] at e
    by_cases x:j=i
    · subst x;rw [h.un j hj hn,hQ.ro j hj hl]
    · rw [if_neg x] at e;exact h.cmp Q hQ j hj e
include hd in
theorem OrI.add {K:List Bool} {O:List V3} {a b:Nat} {v:V3} (h:OrI F K O) (ha:a<F.length) (hb:b<F.length) (hka:K.getD a false=true) (hkb:¬K.getD b false=true) (hnr:nearF F a b=true) (hv:v=F.getD b Z3∨v=turn (F.getD b Z3))
    (hq:∀Q,GoodQ F Q→O.getD a Z3=Q.getD a Z3→v=Q.getD b Z3):OrI F (K.set b true) (O.set b v):=by
  have hk:∀j,(K.set b true).getD j false=if j=b then true else K.getD j false:=fun j=>getD_setK (by rw [h.kl];exact hb)
  have ho:∀j,(O.set b v).getD j Z3=if j=b then v else O.getD j Z3:=fun j=>getD_setF (by rw [h.ol];exact hb)
  have hl:=ld_near hd ha hb hnr
  refine ⟨by rw [List.length_set];exact h.kl,by rw [List.length_set];exact h.ol,fun j hj e=> ?_,fun j hj=> ?_,fun j hj e=> ?_,fun j hj e=> ?_,fun Q hQ j hj e=> ?_⟩
  · rw [hk] at e ⊢
    split
    · rfl
    · by_cases x : j = b
      · rw [x,←hl];exact h.lk a ha hka
      · rw [if_neg x] at e;exact h.lk j hj e
  · rw [ho]; split
    · rename_i x;rw [x];exact hv
    · exact h.or j hj
  · rw [hk] at e; rw [ho]
    by_cases x:j=b
    · rw [if_pos x] at e;exact absurd rfl e
    · rw [if_neg x] at e ⊢;exact h.un j hj e
  · rw [ho]
    by_cases x:j=b
    · subst x
      have:=h.lk a ha hka
      rw [hl,e] at this;exact absurd this hkb
    · rw [if_neg x];exact h.ro j hj e
  · rw [hk] at e; rw [ho]
    by_cases x:j=b
    · rw [if_pos x,x];exact hq Q hQ (h.cmp Q hQ a ha hka)
    · rw [if_neg x] at e ⊢;exact h.cmp Q hQ j hj e
include hd in
theorem near_of {O:List V3} {a b:Nat} {e e':Int×Int} (hor:O.getD a Z3=F.getD a Z3∨O.getD a Z3=turn (F.getD a Z3)) (ha:a<F.length) (hb:b<F.length) (he:e∈edges3 (O.getD a Z3)) (he':e'∈edges3 (F.getD b Z3)) (hp:pl e'=pl e):nearF F a b=true:=by
  obtain ⟨e0,h0,h1⟩:=or_edges hor he
  exact (near_side hd ha hb).2 ⟨pl e,sl_face.2 ⟨a,ha,rfl,e0,h0,h1⟩,sl_face.2 ⟨b,hb,rfl,e',he',hp⟩⟩
theorem must {f v q:V3} {e e':Int×Int} (he':e'∈edges3 f) (hp:pl e'=pl e) (hq:q=f∨q=turn f) (hn:e ∉ edges3 q) (hv:v=if e∈edges3 f then turn f else f):v=q:=by
  rw [hv]
  by_cases x:e∈edges3 f
  · rw [if_pos x]
    rcases hq with rfl|rfl
    · exact absurd x hn
    · rfl
  · rw [if_neg x]
    rcases hq with rfl|rfl
    · rfl
    · refine absurd (turn_edges.2 ?_) hn
      rcases pl_eq hp with rfl|rfl
      · exact absurd he' x
      · exact he'
include hd in
theorem OrI.stepP {K:List Bool} {O:List V3} {a b:Nat} {e:Int×Int} {v:V3} (h:OrI F K O) (ha:a<F.length) (hb:b<F.length) (hka:K.getD a false=true) (hkb:¬K.getD b false=true) (he:e∈edges3 (O.getD a Z3)) (hs:(b:Int)∈sl F (pl e))
    (hv:v=if e∈edges3 (F.getD b Z3) then turn (F.getD b Z3) else F.getD b Z3):OrI F (K.set b true) (O.set b v):=by
  obtain ⟨b',_,h2,e',he',hp⟩:=sl_face.1 hs
  obtain rfl:b'=b:=by omega
  refine h.add hd ha hb hka hkb (near_of hd (h.or a ha) ha hb he he' hp) ?_ fun Q hQ hqa=> ?_
  · rw [hv]; split
    · exact .inr rfl
    · exact .inl rfl
  · rw [hqa] at he
    exact must he' hp (hQ.or b' hb) (hQ.nd a b' ha hb (fun x=>hkb (x ▸ hka)) e he) hv
def shr (f g:V3):Prop:=∃e∈edges3 f,e∈edges3 g
instance (f g:V3):Decidable (shr f g):=inferInstanceAs (Decidable (∃e∈edges3 f,e∈edges3 g))
include hd in
theorem OrI.stepR {K:List Bool} {O:List V3} {a b:Nat} {v:V3} (h:OrI F K O) (ha:a<F.length) (hb:b<F.length) (hka:K.getD a false=true) (hkb:¬K.getD b false=true) (hnr:nearF F a b=true)
    (hv:v=if shr (O.getD a Z3) (F.getD b Z3) then turn (F.getD b Z3) else F.getD b Z3):OrI F (K.set b true) (O.set b v):=by
  refine h.add hd ha hb hka hkb hnr ?_ fun Q hQ hqa=> ?_
  · rw [hv]; split
    · exact .inr rfl
    · exact .inl rfl
  · have hne : a ≠ b := fun x => hkb (x ▸ hka)
    obtain ⟨k,h1,h2⟩:=(near_side hd ha hb).1 hnr
    obtain ⟨a',_,e1,ea,hea,hpa⟩:=sl_face.1 h1
    obtain rfl:a'=a:=by omega
    obtain ⟨b',_,e2,eb,heb,hpb⟩:=sl_face.1 h2
    obtain rfl:b'=b:=by omega
    obtain ⟨e,he,hp⟩:=or_edges' (h.or a' ha) hea
    have hpe:pl eb=pl e:=by rw [hpb,hp,hpa]
    rw [hv]
    by_cases x:shr (O.getD a' Z3) (F.getD b' Z3)
    · rw [if_pos x]
      obtain ⟨y,y1,y2⟩:=x
      rw [hqa] at y1
      rcases hQ.or b' hb with z|z
      · exact absurd (z ▸ y2) (hQ.nd a' b' ha hb hne y y1)
      · exact z.symm
    · rw [if_neg x]
      have hx:e ∉ edges3 (F.getD b' Z3):=fun z=>x ⟨e,he,z⟩
      rw [hqa] at he
      exact must heb hpe (hQ.or b' hb) (hQ.nd a' b' ha hb hne e he) (by rw [if_neg hx])
theorem nodup_faces {P:List V3} (h:(all P).Nodup) {i j:Nat} (hi:i<P.length) (hj:j<P.length) (hne:i≠j):∀e∈edges3 (P.getD i Z3),e ∉ edges3 (P.getD j Z3):=by
  have h2:=(List.pairwise_flatMap.1 h).2
  have key:∀a b,a<b→(ha:a<P.length)→(hb:b<P.length)→∀e∈edges3 P[a],e ∉ edges3 P[b]:=fun a b hab ha hb e he he'=>
    (List.pairwise_iff_getElem.1 h2 a b ha hb hab) e he e he' rfl
  have hg:∀k (hk:k<P.length),P.getD k Z3=P[k]:=fun k hk=>by rw [List.getD_eq_getElem?_getD,List.getElem?_eq_getElem hk];rfl
  intro e he he'
  rw [hg i hi] at he;rw [hg j hj] at he'
  rcases Nat.lt_or_gt_of_ne hne with x|x
  · exact key i j x hi hj e he he'
  · exact key j i x hj hi e he' he
structure OrF (F P:List V3):Prop where
  ex:∃K,OrI F K P∧∀i,i<F.length→K.getD i false=true
theorem OrF.good {V P:List V3} (h:OrF F P) (hc:check V P=0):GoodQ F P:=by
  obtain ⟨K,hI,_⟩:=h.ex
  exact ⟨hI.ol,hI.or,hI.ro,fun i j hi hj hne=>nodup_faces (check_nodup hc) (by rw [hI.ol];exact hi) (by rw [hI.ol];exact hj) hne⟩
theorem OrF.eq {V P Q:List V3} (h:OrF F P) (k:OrF F Q) (hc:check V P=0):Q=P:=by
  obtain ⟨K,hI,hK⟩:=k.ex
  have hg:=h.good hc
  refine List.ext_getElem (by rw [hI.ol,hg.len]) fun i h1 h2=> ?_
  have:=hI.cmp P hg i (by rw [← hI.ol];exact h1) (hK i (by rw [← hI.ol];exact h1))
  rw [List.getD_eq_getElem?_getD,List.getD_eq_getElem?_getD,List.getElem?_eq_getElem h1,List.getElem?_eq_getElem h2] at this
  exact this
theorem OrF.same {V P Q:List V3} (h:OrF F P) (k:OrF F Q):(check V P=0↔check V Q=0)∧(check V P=0→Q=P):=
  ⟨⟨fun hc=>by rw [h.eq k hc];exact hc,fun hc=>by rw [k.eq h hc];exact hc⟩,h.eq k⟩
end
def dupE (F:List V3):Prop:=∃k,2<(sl F k).length
def OriR (V F:List V3) (c:Int) (V2 P:List V3):Prop:=
  (dupE F→c=7∧V2=[]∧P=[])∧(¬dupE F→∃P0,OrF F P0∧c=(if check V P0=0 then 0 else 11)∧V2=(if check V P0=0 then V else [])∧P=(if check V P0=0 then P0 else []))
theorem OriR.uniq {V F V2 V3' P Q:List V3} {c d:Int} (a:OriR V F c V2 P) (b:OriR V F d V3' Q):c=d∧V2=V3'∧P=Q:=by
  by_cases e:dupE F
  · obtain ⟨h1, h2, h3⟩ := a.1 e
    obtain ⟨k1,k2,k3⟩:=b.1 e
    exact ⟨by rw [h1,k1],by rw [h2,k2],by rw [h3,k3]⟩
  · obtain ⟨P0, h0, h1, h2, h3⟩ := a.2 e
    obtain ⟨Q0,k0,k1,k2,k3⟩:=b.2 e
    obtain ⟨s1,s2⟩:=h0.same (V:=V) k0
    by_cases x:check V P0=0
    · have y := s1.1 x
      rw [if_pos x] at h1 h2 h3;rw [if_pos y] at k1 k2 k3
      exact ⟨by rw [h1,k1],by rw [h2,k2],by rw [h3,k3,s2 x]⟩
    · have y : ¬ check V Q0 = 0 := fun z => x (s1.2 z)
      rw [if_neg x] at h1 h2 h3;rw [if_neg y] at k1 k2 k3
      exact ⟨by rw [h1,k1],by rw [h2,k2],by rw [h3,k3]⟩
theorem OriR.checks {V F V2 P:List V3} {c:Int} (a:OriR V F c V2 P) (hc:c=0):check V2 P=0:=by
  by_cases e:dupE F
  · have:=(a.1 e).1;omega
  · obtain ⟨P0, h0, h1, h2, h3⟩ := a.2 e
    by_cases x:check V P0=0
    · rw [if_pos x] at h2 h3;rw [h2,h3];exact x
    · rw [if_neg x] at h1;omega
end Go.Proofs.Ytalfgjpbbongcaa.Ms
namespace Go.Proofs.Ytalfgjpbbongcaa.Ms
open Go Go.Proofs.Ytalfgjpbbongcaa
structure QuI (F:List V3) (K:List Bool) (q:List Nat):Prop where
  mem:∀x∈q,x<F.length∧K.getD x false=true
  cl:∀a,a<F.length→K.getD a false=true→a∈q∨∀b,b<F.length→nearF F a b=true→K.getD b false=true
def Dq (F:List V3) (es:List (Int×Int)) (t s:Nat) (b:Nat):Prop:=(∃j,j<t∧(b:Int)∈sl F (pl (es.getD j (0,0))))∨(b:Int)∈(sl F (pl (es.getD t (0,0)))).take s
structure QuP (F:List V3) (K:List Bool) (q:List Nat) (a:Nat) (D:Nat→Prop):Prop where
  mem:∀x∈q,x<F.length∧K.getD x false=true
  pop:a<F.length∧K.getD a false=true
  cl:∀x,x<F.length→K.getD x false=true→x∈q∨∀b,b<F.length→nearF F x b=true→(x=a→D b)→K.getD b false=true
section
variable {F : List V3} {K : List Bool} {q : List Nat} {a b t s : Nat} {es : List (Int × Int)}
theorem QuI.pop (h:QuI F K (a :: q)):QuP F K q a (Dq F es 0 0):=by
  refine ⟨fun x hx=>h.mem x (List.mem_cons_of_mem _ hx),h.mem a (by simp),fun x hx hk=> ?_⟩
  rcases h.cl x hx hk with e|e
  · rcases List.mem_cons.1 e with e | e
    · refine .inr fun b _ _ hD => ?_
      rcases hD e with ⟨j,hj,_⟩|hm
      · omega
      · simp at hm
    · exact .inl e
  · exact .inr fun b hb hn _=>e b hb hn
theorem QuP.weak {D E:Nat→Prop} (h:QuP F K q a D) (hE:∀b,b<F.length→E b→D b∨K.getD b false=true):QuP F K q a E:=
  ⟨h.mem,h.pop,fun x hx hk=>(h.cl x hx hk).imp id fun e b hb hn hD=>by
    by_cases y:x=a
    · rcases hE b hb (hD y) with z | z
      · exact e b hb hn (fun _=>z)
      · exact z
    · exact e b hb hn (fun z=>absurd z y)⟩
theorem take_mem {l:List Int} {s:Nat} {x:Int} (h:x∈l.take (s+1)):x∈l.take s∨(s<l.length∧x=l.getD s 0):=by
  by_cases hs:s<l.length
  · rw [List.take_succ_eq_append_getElem hs] at h
    rcases List.mem_append.1 h with e|e
    · exact .inl e
    · exact .inr ⟨hs,by rw [List.getD_eq_getElem?_getD,List.getElem?_eq_getElem hs];simpa using e⟩
  · rw [List.take_of_length_le (by omega)] at h
    exact .inl (by rw [List.take_of_length_le (by omega)];exact h)
theorem Dq.next (h:Dq F es t (s+1) b):Dq F es t s b∨(b:Int)=(sl F (pl (es.getD t (0,0)))).getD s 0:=by
  rcases h with h|h
  · exact .inl (.inl h)
  · rcases take_mem h with e | e
    · exact .inl (.inr e)
    · exact .inr e.2
theorem QuP.known (h:QuP F K q a (Dq F es t s)) (hk:K.getD ((sl F (pl (es.getD t (0,0)))).getD s 0).toNat false=true):QuP F K q a (Dq F es t (s+1)):=
  h.weak fun b _ hD=>by
    rcases hD.next with e|e
    · exact .inl e
    · right;rw [← e] at hk;exact hk
theorem QuP.add (h:QuP F K q a (Dq F es t s)) (hl:K.length=F.length) (hb:b<F.length) (hx:(b:Int)=(sl F (pl (es.getD t (0,0)))).getD s 0):QuP F (K.set b true) (q++[b]) a (Dq F es t (s+1)):=by
  have hk:∀j,(K.set b true).getD j false=if j=b then true else K.getD j false:=fun j=>getD_setK (by rw [hl];exact hb)
  have up:∀j,K.getD j false=true→(K.set b true).getD j false=true:=fun j hj=>by rw [hk];split <;> first|rfl|exact hj
  refine ⟨fun x hx2=> ?_,⟨h.pop.1,up _ h.pop.2⟩,fun x hx2 hkx=> ?_⟩
  · rcases List.mem_append.1 hx2 with e | e
    · exact ⟨(h.mem x e).1,up _ (h.mem x e).2⟩
    · obtain rfl : x = b := by simpa using e
      exact ⟨hb,by rw [hk,if_pos rfl]⟩
  · by_cases y : x = b
    · exact .inl (by simp [y])
    · rw [hk, if_neg y] at hkx
      refine (h.cl x hx2 hkx).imp (fun e=>by simp [e]) fun e c hc hn hD=> ?_
      by_cases z:c=b
      · rw [hk,if_pos z]
      · by_cases w : x = a
        · rcases (hD w).next with u | u
          · exact up _ (e c hc hn (fun _=>u))
          · exact absurd (by omega) z
        · exact up _ (e c hc hn (fun v=>absurd v w))
theorem QuP.edge (h:QuP F K q a (Dq F es t s)) (hs:(sl F (pl (es.getD t (0,0)))).length≤s):QuP F K q a (Dq F es (t+1) 0):=
  h.weak fun b _ hD=>by
    rcases hD with ⟨j,hj,hm⟩|hm
    · by_cases e : j = t
      · exact .inl (.inr (by rw [List.take_of_length_le hs,←e];exact hm))
      · exact .inl (.inl ⟨j,by omega,hm⟩)
    · simp at hm
theorem QuP.fin {O:List V3} (hd:∀f∈F,deg f=false) (hor:O.getD a Z3=F.getD a Z3∨O.getD a Z3=turn (F.getD a Z3)) (h:QuP F K q a (Dq F (edges3 (O.getD a Z3)) 3 0)):QuI F K q:=by
  refine ⟨h.mem,fun x hx hk=>(h.cl x hx hk).imp id fun e b hb hn=>e b hb hn fun y=> ?_⟩
  subst y
  obtain ⟨k,h1,h2⟩:=(near_side hd hx hb).1 hn
  obtain ⟨x',_,e1,ea,hea,hpa⟩:=sl_face.1 h1
  obtain rfl:x'=x:=by omega
  obtain ⟨e',he',hp⟩:=or_edges' hor hea
  left
  obtain ⟨j,hj,hej⟩:=List.getElem_of_mem he'
  refine ⟨j,by simpa [edges3] using hj,?_⟩
  rw [List.getD_eq_getElem?_getD,List.getElem?_eq_getElem hj]
  show (b:Int)∈sl F (pl ((edges3 (O.getD x' Z3))[j]))
  rw [hej,hp,hpa];exact h2
theorem QuI.root {i:Nat} (hl:K.length=F.length) (hi:i<F.length) (hc:Clo F K):QuI F (K.set i true) [i]:=by
  have hk:∀j,(K.set i true).getD j false=if j=i then true else K.getD j false:=fun j=>getD_setK (by rw [hl];exact hi)
  refine ⟨fun x hx=> ?_,fun a ha hka=> ?_⟩
  · obtain rfl : x = i := by simpa using hx
    exact ⟨hi,by rw [hk,if_pos rfl]⟩
  · by_cases y : a = i
    · exact .inl (by simp [y])
    · rw [hk, if_neg y] at hka
      refine .inr fun b hb hn=> ?_
      rw [hk];split
      · rfl
      · exact hc a b ha hb hka hn
theorem QuI.clo (h:QuI F K []):Clo F K:=fun a b ha hb hk hn=>by
  rcases h.cl a ha hk with e|e
  · cases e
  · exact e b hb hn
end
def unk (K:List Bool):Nat:=K.countP (fun x=> !x)
def kn (K:List Bool):Nat:=K.countP (fun x=>x)
theorem cnt_setK {K:List Bool} {b:Nat} (hb:b<K.length) (h:¬K.getD b false=true):unk (K.set b true)+1=unk K∧kn (K.set b true)=kn K+1:=by
  have hg:K[b]=false:=by
    rw [List.getD_eq_getElem?_getD,List.getElem?_eq_getElem hb] at h;simpa using h
  unfold unk kn
  rw [List.countP_set hb,List.countP_set hb,hg]
  have hp:0<K.countP (fun x=> !x):=List.countP_pos_iff.2 ⟨K[b],List.getElem_mem hb,by rw [hg];rfl⟩
  simp;omega
theorem kn_le (K:List Bool):kn K≤K.length:=List.countP_le_length
theorem unk_le (K:List Bool):unk K≤K.length:=List.countP_le_length
structure RnI (F:List V3) (K0 K:List Bool) (a b:Nat):Prop where
  len:K.length=K0.length
  cl:Clo F K0→K=K0
  pr:kn K0<kn K∨(K=K0∧∀x y,(x<a∨x=a∧y<b)→x<F.length→y<F.length→K0.getD x false=true→nearF F x y=true→K0.getD y false=true)
section
variable {F : List V3} {K0 K : List Bool} {a b : Nat}
theorem RnI.start (F:List V3) (K:List Bool):RnI F K K 0 0:=⟨rfl,fun _=>rfl,.inr ⟨rfl,fun x y h=>by omega⟩⟩
theorem RnI.skip (h:RnI F K0 K a b) (hx:¬K.getD a false=true∨K.getD b false=true∨¬nearF F a b=true):RnI F K0 K a (b+1):=
  ⟨h.len,h.cl,h.pr.imp id fun ⟨e,hp⟩=>⟨e,fun x y h1 h2 h3 h4 h5=>by
    by_cases z:x=a∧y=b
    · obtain ⟨rfl, rfl⟩ := z
      rw [← e] at h4 ⊢
      rcases hx with u|u|u
      · exact absurd h4 u
      · exact u
      · exact absurd h5 u
    · exact hp x y (by omega) h2 h3 h4 h5⟩⟩
theorem RnI.add (h:RnI F K0 K a b) (ha:a<F.length) (hb:b<F.length) (hl:K.length=F.length) (h1:K.getD a false=true) (h2:¬K.getD b false=true) (h3:nearF F a b=true) (a' b':Nat):RnI F K0 (K.set b true) a' b':=by
  have hc:=(cnt_setK (by omega) h2).2
  refine ⟨by rw [List.length_set];exact h.len,fun x=> ?_,.inl ?_⟩
  · have e := h.cl x
    rw [e] at h1 h2
    exact absurd (x a b ha hb h1 h3) h2
  · rcases h.pr with e | e
    · omega
    · rw [e.1] at hc ⊢;omega
theorem RnI.row (h:RnI F K0 K a b) (hb:F.length≤b):RnI F K0 K (a+1) 0:=
  ⟨h.len,h.cl,h.pr.imp id fun ⟨e,hp⟩=>⟨e,fun x y h1 h2 h3=>hp x y (by omega) h2 h3⟩⟩
def RdR (F:List V3) (K:List Bool) (r:Nat):Prop:=r+1≤kn K∨Clo F K
theorem RnI.fin {r:Nat} (h:RnI F K0 K a b) (ha:F.length≤a) (k:RdR F K0 r):RdR F K (r+1):=by
  by_cases x:Clo F K0
  · right;rw [h.cl x];exact x
  · have hr := k.resolve_right x
    rcases h.pr with e|⟨e,hp⟩
    · left;omega
    · right;rw [e];exact fun x y h2 h3 h4 h5=>hp x y (by omega) h2 h3 h4 h5
theorem RdR.start {i:Nat} (hi:i<K.length) (h:¬K.getD i false=true):RdR F (K.set i true) 0:=by
  left;have:=(cnt_setK hi h).2;omega
theorem RdR.fin {r:Nat} (h:RdR F K r) (hr:F.length≤r) (hl:K.length=F.length):Clo F K:=by
  rcases h with e|e
  · have:=kn_le K;omega
  · exact e
end
theorem sl_len {F:List V3} {e:Int×Int} (hne:e.1≠e.2):(sl F (pl e)).length=count (all F) e+count (all F) (e.2,e.1):=by
  have h1:sl F (pl e)=((ps F).filter (fun q=>decide (q.1=pl e))).map (·.2):=by
    unfold sl sides;rw [foldS_get];simp [Sp.mget]
  rw [h1,List.length_map]
  have key:∀(l:List V3) (i:Nat),((psF i l).filter (fun q=>decide (q.1=pl e))).length=count (all l) e+count (all l) (e.2,e.1):=by
    intro l
    induction l with
    |nil=>intro i;rfl
    |cons f t ih=>
      intro i
      have hone:∀x:Int×Int,(if pl x=pl e then 1 else 0)=(if x=e then 1 else 0)+(if x=(e.2,e.1) then (1:Nat) else 0):=fun x=>by
        by_cases y:pl x=pl e
        · rw [if_pos y]
          rcases pl_eq y with z|z
          · rw [if_pos z,if_neg (by rw [z];intro u;exact hne (congrArg Prod.fst u))]
          · rw [if_neg (by rw [z];intro u;exact hne (congrArg Prod.snd u)),if_pos z]
        · rw [if_neg y,if_neg (fun z=>y (by rw [z])),if_neg (fun z=>y (by rw [z];simp only [pl,Prod.mk.injEq];omega))]
      have hc:∀u,count (all (f :: t)) u=((if (f.1,f.2.1)=u then 1 else 0)+(if (f.2.1,f.2.2)=u then 1 else 0)+(if (f.2.2,f.1)=u then 1 else 0))+count (all t) u:=fun u=>by
        unfold count all
        rw [List.flatMap_cons,List.countP_append]
        simp only [edges3,List.countP_cons,List.countP_nil,decide_eq_true_eq];omega
      rw [hc,hc]
      have:=ih (i+1)
      have a1:=hone (f.1,f.2.1);have a2:=hone (f.2.1,f.2.2);have a3:=hone (f.2.2,f.1)
      simp only [psF,List.filter_cons,decide_eq_true_eq]
      by_cases y1:pl (f.1,f.2.1)=pl e <;> by_cases y2:pl (f.2.1,f.2.2)=pl e <;> by_cases y3:pl (f.2.2,f.1)=pl e <;>
        simp only [y1,y2,y3,if_true,if_false,List.length_cons] at a1 a2 a3 ⊢ <;> omega
  exact key F 0
theorem edge_ne {F:List V3} (hd:∀f∈F,deg f=false) {e:Int×Int} (he:e∈all F):e.1≠e.2:=by
  obtain ⟨f,hf,hm⟩:=List.mem_flatMap.1 he
  have:=deg_iff.1 (hd f hf)
  simp only [edges3,List.mem_cons,List.not_mem_nil,or_false] at hm
  rcases hm with rfl|rfl|rfl <;> simp only <;> omega
theorem dup_iff {F:List V3} (hd:∀f∈F,deg f=false):dupE F↔∃e∈all F,2<count (all F) e+count (all F) (e.2,e.1):=by
  constructor
  · rintro ⟨k, hk⟩
    obtain ⟨x,hx⟩:=List.exists_mem_of_length_pos (show 0<(sl F k).length by omega)
    obtain ⟨j,hj,_,e,he,hp⟩:=sl_face.1 hx
    have hm:e∈all F:=List.mem_flatMap.2 ⟨_,by rw [List.getD_eq_getElem?_getD,List.getElem?_eq_getElem hj] at he ⊢;exact List.getElem_mem hj,he⟩
    refine ⟨e,hm,?_⟩
    rw [← sl_len (edge_ne hd hm),hp];exact hk
  · rintro ⟨e, he, h⟩
    exact ⟨pl e,by rw [sl_len (edge_ne hd he)];exact h⟩
theorem mem_getD2 {l:List (Int×Int)} {x:Int×Int} (h:x∈l):∃j,j<l.length∧l.getD j (0,0)=x:=by
  obtain ⟨j,hj,e⟩:=List.getElem_of_mem h
  exact ⟨j,hj,by rw [List.getD_eq_getElem?_getD,List.getElem?_eq_getElem hj];exact e⟩
theorem edges3_ok {k:IntKind} {a b c:Int} (ha:Sp.InK k a) (hb:Sp.InK k b) (hc:Sp.InK k c):∀z∈edges3 (a,b,c),Sp.InK k z.1∧Sp.InK k z.2:=fun z hz=>by
  simp only [edges3,List.mem_cons,List.not_mem_nil,or_false] at hz
  rcases hz with rfl|rfl|rfl
  · exact ⟨ha,hb⟩
  · exact ⟨hb,hc⟩
  · exact ⟨hc,ha⟩
def izz (j:Nat):Int:=j
theorem Clo.start (F:List V3) (n:Nat):Clo F (List.replicate n false):=fun a b _ _ hk _=>by
  rw [List.getD_eq_getElem?_getD,List.getElem?_replicate] at hk;split at hk <;> simp at hk
theorem set_same {O:List V3} {b:Nat}:O.set b (O.getD b Z3)=O:=by
  refine List.ext_getElem (by rw [List.length_set]) fun j h1 h2=> ?_
  rw [List.getElem_set];split
  · rename_i e;subst e;rw [List.getD_eq_getElem?_getD,List.getElem?_eq_getElem h2];rfl
  · rfl
theorem OrI.at {V F O:List V3} {K:List Bool} {i:Nat} (hg:Good V F) (h:OrI F K O) (hi:i<F.length):
    (0≤(O.getD i (0,0,0)).1∧(O.getD i (0,0,0)).1≤512)∧(0≤(O.getD i (0,0,0)).2.1∧(O.getD i (0,0,0)).2.1≤512)∧(0≤(O.getD i (0,0,0)).2.2∧(O.getD i (0,0,0)).2.2≤512):=by
  have:=hg.at hi
  have hv:=hg.nv
  have e:O.getD i (0,0,0)=F.getD i (0,0,0)∨O.getD i (0,0,0)=turn (F.getD i (0,0,0)):=h.or i hi
  rcases e with e|e
  · rw [e];omega
  · rw [e];simp only [turn];omega
theorem ed_rng {f:V3} {t:Nat} (h:(0≤f.1∧f.1≤512)∧(0≤f.2.1∧f.2.1≤512)∧(0≤f.2.2∧f.2.2≤512)):
    (0≤((edges3 f).getD t (0,0)).1∧((edges3 f).getD t (0,0)).1≤512)∧(0≤((edges3 f).getD t (0,0)).2∧((edges3 f).getD t (0,0)).2≤512):=by
  rcases t with _|_|_|t <;> simp [edges3] <;> omega
structure InI (F:List V3) (i a:Nat) (f:V3) (t s M:Nat) (K:List Bool) (O:List V3) (q:List Nat):Prop where
  or:OrI F K O
  qu:QuP F K q a (Dq F (edges3 f) t s)
  fa:O.getD a Z3=f
  lo:∀j,j<i+1→K.getD j false=true
  mu:2*unk K+q.length≤M
section
variable {F : List V3} {i a b t s M : Nat} {f : V3} {K : List Bool} {O : List V3} {q : List Nat}
theorem InI.start (hO:OrI F K O) (hq:QuI F K (a :: q)) (hl:∀j,j<i+1→K.getD j false=true) (hm:2*unk K+q.length≤M):InI F i a (O.getD a Z3) 0 0 M K O q:=⟨hO,hq.pop,rfl,hl,hm⟩
theorem InI.known (h:InI F i a f t s M K O q) (hb:(sl F (pl ((edges3 f).getD t (0,0)))).getD s 0=(b:Int)) (hk:K.getD b false=true):InI F i a f t (s+1) M K O q:=
  ⟨h.or,h.qu.known (by rw [hb];exact hk),h.fa,h.lo,h.mu⟩
theorem InI.step (hd:∀f∈F,deg f=false) {v:V3} (h:InI F i a f t s M K O q) (ht:t<3) (hs:s<(sl F (pl ((edges3 f).getD t (0,0)))).length) (hb:(sl F (pl ((edges3 f).getD t (0,0)))).getD s 0=(b:Int)) (hbn:b<F.length) (hk:¬K.getD b false=true)
    (hv:v=if (edges3 f).getD t (0,0)∈edges3 (O.getD b Z3) then turn (O.getD b Z3) else O.getD b Z3):InI F i a f t (s+1) M (K.set b true) (O.set b v) (q++[b]):=by
  have hm:(b:Int)∈sl F (pl ((edges3 f).getD t (0,0))):=by
    rw [← hb];exact getD_mem 0 hs
  have he:(edges3 f).getD t (0,0)∈edges3 f:=by
    have ht2:t<(edges3 f).length:=by simpa [edges3] using ht
    exact getD_mem (0,0) ht2
  have hkl:=h.or.kl
  have hne:¬b=a:=fun e=>hk (e ▸ h.qu.pop.2)
  rw [h.or.un b hbn hk] at hv
  refine ⟨h.or.stepP hd h.qu.pop.1 hbn h.qu.pop.2 hk (by rw [h.fa];exact he) hm hv,h.qu.add hkl hbn hb.symm,?_,fun j hj=> ?_,?_⟩
  · rw [getD_setF (by rw [h.or.ol];exact hbn),if_neg (fun e=>hne e.symm)];exact h.fa
  · rw [getD_setK (by rw [hkl]; exact hbn)]; split
    · rfl
    · exact h.lo j hj
  · have := (cnt_setK (by rw [hkl]; exact hbn) hk).1
    have:=h.mu
    rw [List.length_append];simp only [List.length_cons,List.length_nil];omega
theorem InI.kept (hd:∀f∈F,deg f=false) (h:InI F i a f t s M K O q) (ht:t<3) (hs:s<(sl F (pl ((edges3 f).getD t (0,0)))).length) (hb:(sl F (pl ((edges3 f).getD t (0,0)))).getD s 0=(b:Int)) (hbn:b<F.length) (hk:¬K.getD b false=true)
    (hv:(edges3 f).getD t (0,0) ∉ edges3 (O.getD b Z3)):InI F i a f t (s+1) M (K.set b true) O (q++[b]):=by
  have:=h.step hd (v:=O.getD b Z3) ht hs hb hbn hk (by rw [if_neg hv])
  rwa [set_same] at this
theorem InI.edge (h:InI F i a f t s M K O q) (hs:(sl F (pl ((edges3 f).getD t (0,0)))).length≤s):InI F i a f (t+1) 0 M K O q:=⟨h.or,h.qu.edge hs,h.fa,h.lo,h.mu⟩
theorem InI.fin (hd:∀f∈F,deg f=false) (h:InI F i a f 3 0 M K O q):QuI F K q:=by
  obtain ⟨h1,h2,h3,h4,h5⟩:=h
  subst h3
  exact QuP.fin hd (h1.or a h2.pop.1) h2
def shT (f g:V3) (t:Nat):Prop:=∃e∈(edges3 f).take t,e∈edges3 g
instance (f g:V3) (t:Nat):Decidable (shT f g t):=inferInstanceAs (Decidable (∃e∈(edges3 f).take t,e∈edges3 g))
def trn (f g:V3) (t:Nat):V3:=if shT f g t then turn g else g
def shU (f g:V3) (t s:Nat):Prop:=shT f g t∨(edges3 f).getD t (0,0)∈(edges3 (trn f g t)).take s
instance (f g:V3) (t s:Nat):Decidable (shU f g t s):=inferInstanceAs (Decidable (_∨_))
def tru (f g:V3) (t s:Nat):V3:=if shU f g t s then turn g else g
theorem trn_zero (f g:V3):trn f g 0=g:=by unfold trn shT;simp
theorem trn_fin (f g:V3):trn f g 3=if shr f g then turn g else g:=by
  have:shT f g 3↔shr f g:=by unfold shT shr;rw [List.take_of_length_le (by simp [edges3])]
  unfold trn
  by_cases x:shr f g
  · rw [if_pos x,if_pos (this.2 x)]
  · rw [if_neg x,if_neg (fun y=>x (this.1 y))]
theorem tru_zero (f g:V3) (t:Nat):tru f g t 0=trn f g t:=by unfold tru trn shU;simp
theorem takeE {l:List (Int×Int)} {s:Nat} {x:Int×Int} (hs:s<l.length):x∈l.take (s+1)↔x∈l.take s∨x=l.getD s (0,0):=by
  rw [List.take_succ_eq_append_getElem hs,List.mem_append,List.getD_eq_getElem?_getD,List.getElem?_eq_getElem hs];simp
theorem tru_yes {f g:V3} {t s:Nat} (hs:s<3) (h:(edges3 f).getD t (0,0)=(edges3 (trn f g t)).getD s (0,0)):tru f g t (s+1)=turn g:=by
  unfold tru;rw [if_pos]
  exact .inr ((takeE (by simpa [edges3] using hs)).2 (.inr h))
theorem tru_no {f g:V3} {t s:Nat} (hs:s<3) (h:¬(edges3 f).getD t (0,0)=(edges3 (trn f g t)).getD s (0,0)):tru f g t (s+1)=tru f g t s:=by
  have:shU f g t (s+1)↔shU f g t s:=by
    unfold shU;rw [takeE (by simpa [edges3] using hs)]
    exact ⟨fun x=>x.elim .inl fun y=>y.elim .inr fun z=>absurd z h,fun x=>x.imp id .inl⟩
  unfold tru
  by_cases x:shU f g t s
  · rw [if_pos x,if_pos (this.2 x)]
  · rw [if_neg x,if_neg (fun y=>x (this.1 y))]
theorem tru_fin {f g:V3} {t:Nat} (ht:t<3):tru f g t 3=trn f g (t+1):=by
  have:shU f g t 3↔shT f g (t+1):=by
    unfold shU
    rw [List.take_of_length_le (show (edges3 (trn f g t)).length≤3 by simp [edges3])]
    by_cases x:shT f g t
    · exact ⟨fun _=>by
        obtain ⟨e,h1,h2⟩:=x
        exact ⟨e,(takeE (by simpa [edges3] using ht)).2 (.inl h1),h2⟩,fun _=> .inl x⟩
    · have hg : trn f g t = g := by unfold trn; rw [if_neg x]
      rw [hg]
      constructor
      · intro y
        exact ⟨_,(takeE (by simpa [edges3] using ht)).2 (.inr rfl),y.resolve_left x⟩
      · rintro ⟨e, h1, h2⟩
        rcases (takeE (by simpa [edges3] using ht)).1 h1 with z|z
        · exact absurd ⟨e,z,h2⟩ x
        · right;rw [← z];exact h2
  unfold tru trn
  by_cases x:shU f g t 3
  · rw [if_pos x,if_pos (this.1 x)]
  · rw [if_neg x,if_neg (fun y=>x (this.2 y))]
end
theorem not_dup {F:List V3} (h:∀k,k∈(sides F).map (·.1)→(sl F k).length≤2):¬dupE F:=fun ⟨k,hk⟩=>by
  obtain ⟨x,hx⟩:=List.exists_mem_of_length_pos (show 0<(sl F k).length by omega)
  have:=h k (key_of hx);omega
theorem OriR.dup {V F:List V3} (h:dupE F):OriR V F 7 [] []:=⟨fun _=>⟨rfl,rfl,rfl⟩,fun k=>absurd h k⟩
theorem OriR.bad {V F P:List V3} (h:¬dupE F) (hP:OrF F P) (hc:¬check V P=0):OriR V F 11 [] []:=⟨fun k=>absurd k h,fun _=>⟨P,hP,by rw [if_neg hc],by rw [if_neg hc],by rw [if_neg hc]⟩⟩
theorem OriR.good {V F P:List V3} (h:¬dupE F) (hP:OrF F P) (hc:check V P=0):OriR V F 0 V P:=⟨fun k=>absurd k h,fun _=>⟨P,hP,by rw [if_pos hc],by rw [if_pos hc],by rw [if_pos hc]⟩⟩
def OriS (V F:List V3) (c:Int) (V2 P:List V3):Prop:=(form V F≠0→c=form V F∧V2=[]∧P=[])∧(form V F=0→OriR V F c V2 P)
theorem OriS.uniq {V F V2 V4 P Q:List V3} {c d:Int} (a:OriS V F c V2 P) (b:OriS V F d V4 Q):c=d∧V2=V4∧P=Q:=by
  by_cases h:form V F=0
  · exact (a.2 h).uniq (b.2 h)
  · obtain ⟨h1, h2, h3⟩ := a.1 h
    obtain ⟨k1,k2,k3⟩:=b.1 h
    exact ⟨by rw [h1,k1],by rw [h2,k2],by rw [h3,k3]⟩
theorem OriS.bad {V F V2 P:List V3} {c:Int} (a:OriS V F c V2 P) (hc:¬c=0):V2=[]∧P=[]:=by
  by_cases h:form V F=0
  · by_cases e : dupE F
    · exact ((a.2 h).1 e).2
    · obtain ⟨P0, h0, h1, h2, h3⟩ := (a.2 h).2 e
      by_cases x:check V P0=0
      · rw [if_pos x] at h1;exact absurd h1 hc
      · rw [if_neg x] at h2 h3;exact ⟨h2,h3⟩
  · exact (a.1 h).2
theorem OriS.good {V F V2 P:List V3} {c:Int} (a:OriS V F c V2 P) (hc:c=0):check V2 P=0:=by
  by_cases h:form V F=0
  · exact (a.2 h).checks hc
  · have:=(a.1 h).1;rw [hc] at this;exact absurd this.symm h
end Go.Proofs.Ytalfgjpbbongcaa.Ms
namespace Go.Proofs.Ytalfgjpbbongcaa.Sp
open Go
set_option linter.unusedVariables false
section
variable {P : Program} {c : Cx} {n : Sz} {Q : Exit → Act → World → Prop} {m : Fm} {O : List As} {R : List Fa} {α : Type} {d : Option Tmp} {ty : TypeId} {ps : String} {af : Array Edge} {gd : Option (Nat × Bool)}
theorem RowOn.drop {T:TypeId} {r:Rp α} {p:Option Addr} {cap:Nat} {l:List α} {g h:Hp} (k:Nat) (hk:k≤l.length) (s:RowOn T r p cap l g h):RowOn T r (newP p cap k r.sz) (cap - k) (l.drop k) g h:=by
  rcases s with ⟨h1,h2,h3,h4⟩|⟨b,off,cells,e1,e2,e3,e4,e5,e6⟩
  · subst h3; simp at hk; subst hk
    exact .inl ⟨by unfold newP;rw [h1];split <;> rfl,by omega,rfl,h4⟩
  · by_cases e : cap = k
    · refine .inr ⟨b, off, cells, by unfold newP; rw [if_pos e, e1], by rw [List.length_drop]; omega, by omega, ?_, e5, fun i x h => ?_⟩
      · rw [e,Nat.sub_self,Nat.zero_mul];omega
      · rw [List.getElem?_drop] at h
        have:=(List.getElem?_eq_some_iff.1 h).1;omega
    · refine .inr ⟨b, off + k * r.sz, cells, ?_, by rw [List.length_drop]; omega, by omega, ?_, e5, fun i x h => ?_⟩
      · unfold newP; rw [if_neg e, e1]
        by_cases z:k*r.sz=0
        · rw [z];simp [Addr.add]
        · simp [Addr.add,z]
      · have : (cap - k) * r.sz + k * r.sz = cap * r.sz := by rw [← Nat.add_mul]; congr 1; omega
        omega
      · rw [List.getElem?_drop] at h
        obtain ⟨γ,a1,a2⟩:=e6 (k+i) x h
        refine ⟨γ,⟨a1.1,fun j v hv=> ?_⟩,a2⟩
        have:=a1.2 j v hv
        rw [Nat.add_mul] at this
        rw [show off+k*r.sz+i*r.sz+j=off+(k*r.sz+i*r.sz)+j by omega];exact this
theorem Mem.rowDrop {w:World} (i:Nat) {T:TypeId} {r:Rp α} {p:Option Addr} {cap:Nat} {l:List α} (hi:O[i]? =some (rowA T r p cap l)) (k:Nat) (hk:k≤l.length) (mm:Mem c w O R):Mem c w (O.set i (rowA T r (newP p cap k r.sz) (cap - k) (l.drop k))) R:=
  mm.resep fun g h s=>Sep.mapAt (fun _ x=>RowOn.drop k hk x) i hi s
theorem Mem.boxArr {w:World} (i:Nat) {sz:Nat} {enc:α→List Value} {ok:α→Prop} {h1 h2} {b:Nat} {T:TypeId} {cells:List Value} (l:List α) (hi:O[i]? =some (boxA b T cells)) (hc:cells=l.flatMap enc) (hok:∀x∈l,ok x) (hl:l.length≤1000000) (mm:Mem c w O R):Mem c w (O.set i (rowA T (fl sz enc ok h1 h2) (some ⟨b,0,none⟩) l.length l)) R:=by
  refine mm.resep fun g h s=>Sep.mapAt (A:=boxA b T cells) (fun hh x=> ?_) i hi s
  have e:hh=Hp.single b (.cells cells.toArray T (0,0)):=x
  have key:∀l:List α,(l.flatMap enc).length=l.length*sz:=fun l=>by
    induction l with
    |nil=>simp
    |cons a t ih=>rw [List.flatMap_cons,List.length_append,h1 a,ih,List.length_cons,Nat.succ_mul];omega
  refine .inr ⟨b,0,cells,rfl,Nat.le_refl _,by unfold maxLen;omega,by rw [hc,key];show 0+l.length*sz≤l.length*sz;omega,e,fun j x hx=> ?_⟩
  refine ⟨(),⟨h1 x,fun q v hv=> ?_⟩,hok x (List.mem_of_getElem? hx)⟩
  rw [hc]
  have hq:=(List.getElem?_eq_some_iff.1 hv).1
  clear hi hc hok hl s e mm
  show (l.flatMap enc)[0+j*sz+q]? =some v
  have hqs:q<sz:=by have:=h1 x;change q<(enc x).length at hq;omega
  induction l generalizing j with
  |nil=>simp at hx
  |cons a t ih=>
    rw [List.flatMap_cons]
    cases j with
    |zero=>
      simp at hx;subst hx
      rw [show 0+0*sz+q=q by omega,List.getElem?_append_left (show q<(enc a).length from hq)];exact hv
    |succ j=>
      have:=ih j (by simpa using hx)
      rw [List.getElem?_append_right (by rw [h1 a,Nat.succ_mul];omega),h1 a,show 0+(j+1)*sz+q - sz=0+j*sz+q by rw [Nat.succ_mul];omega];exact this
theorem zMc {t e:TypeId} {x:Operand} {b o len sz:Nat} (hu:P.underlying t=some (.array len e)) (ht:(P.info? e).map (·.size)=some sz) (h:evo m x=some (.pointer (some ⟨b,o,none⟩))):
    PV P n ⟨d,.slice t x none none none,ty,ps,af,gd⟩ m (.slice (some ⟨b,o,none⟩) len len):=fun a w f=>by
  have e:Instr.sureAddr (.pointer (some ⟨b,o,none⟩))=pure ⟨b,o,none⟩:=rfl
  simp [execOp,f.ev h,Instr.sliceAt,Instr.sliceBounds,run_underlying hu,zua ht,Instr.sureAddr,Addr.add]
theorem ztb {s e:TypeId} {x ix:Operand} {kk k:IntKind} {i:Nat} {a0 a1 b0 b1 c0 c1:Int} (hu:P.underlying s=some (.array 3 e)) (ht:Ty P e 2 true)
    (h:evo m x=some (.agg #[.int k a0,.int k a1,.int k b0,.int k b1,.int k c0,.int k c1])) (hi:evo m ix=some (.int kk (i:Int))) (hl:i<3):
    PV P n ⟨d,.index s x ix,ty,ps,af,gd⟩ m (.agg #[.int k (([(a0,a1),(b0,b1),(c0,c1)]:List (Int×Int)).getD i (0,0)).1,.int k (([(a0,a1),(b0,b1),(c0,c1)]:List (Int×Int)).getD i (0,0)).2]):=by
  rcases (show i=0∨i=1∨i=2 by omega) with rfl|rfl|rfl
  · exact zia (i:=0) (cells:=[.int k a0,.int k a1,.int k b0,.int k b1,.int k c0,.int k c1]) (cs:=[.int k a0,.int k a1]) hu ht h hi (by decide) (.take (.take .nil))
  · exact zia (i:=1) (cells:=[.int k a0,.int k a1,.int k b0,.int k b1,.int k c0,.int k c1]) (cs:=[.int k b0,.int k b1]) hu ht h hi (by decide) (.skip (.skip (.take (.take .nil))))
  · exact zia (i:=2) (cells:=[.int k a0,.int k a1,.int k b0,.int k b1,.int k c0,.int k c1]) (cs:=[.int k c0,.int k c1]) hu ht h hi (by decide) (.skip (.skip (.skip (.skip (.take (.take .nil))))))
end
end Go.Proofs.Ytalfgjpbbongcaa.Sp
namespace Go.Proofs.Ytalfgjpbbongcaa.Sp
open Go
set_option linter.unusedVariables false
set_option maxRecDepth 100000
set_option maxHeartbeats 1000000
theorem zzd {p:Option Addr} {n:Nat} {cap:Nat} {l:List (Int×Int)} {ex:Int} {ey:Int} (hn:l.length=n):Con Try.prog 99 [.slice p n cap,.agg #[.int .i64 ex,.int .i64 ey]] [] [slF (rI2 .i64) p cap l] (Y:=Int) (fun y=>(0≤y↔(ex,ey)∈l)) (fun y=> .int .i64 y) (fun y=>[]) (fun y=>[]):=by
 refine zx Try.func99 rfl rfl rfl (fun c=> ?_)
 show RunC _ _ _ _ _ [(0,.slice p n cap),(1,.agg #[.int .i64 ex,.int .i64 ey])] [] [slF (rI2 .i64) p cap l]
 refine zba 0 rfl (fun hL0=> ?_)
 refine ze<|za<|zO rfl rfl (zfa rfl rfl) (fun b1=> ?_)
 refine r_pv rfl rfl (zd rfl)<|zg<|zc<|ze<|ze<|za<|r_pv rfl rfl (zb rfl)<|r_pv rfl rfl (zL Try.underlying110 rfl)<|r_pv rfl rfl (zb rfl)<|zg<|zc<|zq<|zda (X:=Nat) (fun x:Nat=>x≤n∧∀j,j<x→(ex,ey)≠l.getD j (0,0)) (fun x=>[(8,.int .i64 ((x:Nat):Int)),(7,.int .i64 ((n:Nat):Int)),(3,.pointer (some ⟨b1,0,none⟩)),(0,.slice p n cap)]) (fun x=>[boxA b1 73 [.int .i64 ex,.int .i64 ey]]) (fun x=>[slF (rI2 .i64) p cap l]) (fun x:Nat=>n - x) 0 (show 0≤n∧∀j,j<0→(ex,ey)≠l.getD j (0,0) from by exact ⟨by omega,fun j h=>by omega⟩) ((.e rfl (by first|rfl|(congr 1;omega)|simp_all) (.of rfl)):SubM _ _) (ho:=((.c (i:=0) rfl .n):PickO _ _ _)) ((.c (j:=0) rfl .n):SelR _ _ _) ?_
 rintro i hI
 replace hI:i≤n∧∀j,j<i→(ex,ey)≠l.getD j (0,0):=hI
 try dsimp only
 obtain ⟨hi,hall⟩:=hI
 refine ze<|za<|r_pv rfl rfl (zG rfl rfl)<|zg<|zc<|ze<|zC rfl (fun h2=> ?_) (fun h2=> ?_)
 ·
  refine zu<|zc<|ze<|zq<|ze<|za<|r_pv rfl rfl (zb rfl)<|r_pv rfl rfl (zd rfl)<|zg<|zc<|ze<|zya (OW:=[]) (O:=[boxA b1 73 [.int .i64 ex,.int .i64 ey]]) 100000 mixed (.then (.block (.then (.then (.block (.then .ret)))))) (by kernel_rfl)<|d_u 0 rfl rfl (by kernel_rfl) (by kernel_rfl) rfl rfl (zh 0 ty73 rfl rfl (.take (.take .nil)))<|d_pv 1 rfl rfl (by kernel_rfl) (by kernel_rfl) rfl rfl (zb rfl)<|d_pv 2 rfl rfl (by kernel_rfl) (by kernel_rfl) rfl rfl (zb rfl)<|zpa (x0:=(l.getD i (0,0))) 3 rfl rfl (by kernel_rfl) (by kernel_rfl) 0 i rfl Try.underlying110 sz73 rfl rfl rfl (by first|rfl|assumption|(simp_all;done)|omega) rfl rfl (gD (d:=(0,0)) (by omega)) (fun b3 o4 hok5=> ?_)
  obtain ⟨hok5x,hok5y⟩:=hok5
  replace hok5x:=zm.1 hok5x
  replace hok5y:=zm.1 hok5y
  refine d_u 4 rfl rfl (by kernel_rfl) (by kernel_rfl) rfl rfl (zE (j:=0) 0 ty73 rfl rfl rfl (.take (.take .nil)))<|d_pv 5 rfl rfl (by kernel_rfl) (by kernel_rfl) rfl rfl (zJb (p:=ex=(l.getD i (0,0)).1∧ey=(l.getD i (0,0)).2) (by kernel_rfl) rfl rfl (zDb Try.underlying73 sz3 (zob ty3 rfl rfl (zUa Try.underlying3) (zob ty3 rfl rfl (zUa Try.underlying3) ztc))) (by simp [Bool.decide_and]))<|zwa (by kernel_rfl)<|zc<|zC rfl (fun hb=> ?_) (fun hb=> ?_)
  ·
   refine ze<|za<|r_pv rfl rfl (zb rfl)<|r_pv rfl rfl (zd rfl)<|zg<|zc<|zJ<|zo<|zj<|zj<|zo<|zj ?_
   exact zB Try.results99 ((i:Nat):Int) (⟨fun _=>by have h9:(ex,ey)=l.getD i (0,0):=Prod.ext hb.1 hb.2;rw [h9];exact Ms.getD_mem _ (by omega),fun _=>by omega⟩) (zw rfl) rfl (ho:=(.n:PickO _ _ _)) (.n:SelR _ _ _)
  ·
   refine zu<|zy<|zc<|za<|r_pv rfl rfl (zD (z:=(((i+1):Nat):Int)) rfl rfl (w64 (by omega)))<|r_pv rfl rfl (zb rfl)<|zg<|zT (i+1) (show (i+1)≤n∧∀j,j<(i+1)→(ex,ey)≠l.getD j (0,0) from by refine ⟨by omega,fun j hj=> ?_⟩;by_cases e:j=i;subst e;exact (fun h9=>hb ⟨congrArg Prod.fst h9,congrArg Prod.snd h9⟩);exact hall j (by omega)) (by show n - (i+1)<n - i;omega) ((.of rfl):SubM _ _) (ho:=((.c (i:=0) rfl .n):PickO _ _ _)) ((.c (j:=1) rfl .n):SelR _ _ _)
 ·
  refine zP<|zi<|zi<|zp<|zc<|ze<|za<|r_pv rfl rfl (zd rfl)<|zg<|zc<|zJ ?_
  exact zB Try.results99 (-1) (⟨fun h=>by omega,fun h=>by obtain ⟨j,hj,e⟩:=Ms.mem_getD2 h;exact absurd e.symm (hall j (by omega))⟩) (zw rfl) rfl (ho:=(.n:PickO _ _ _)) (.n:SelR _ _ _)
theorem zxc {p:Option Addr} {n:Nat} {cap:Nat} {l:List (Int×Int)} {ex:Int} {ey:Int} (hn:l.length=n):Con Try.prog 76 [.slice p n cap,.agg #[.int .i64 ex,.int .i64 ey]] [] [slF (rI2 .i64) p cap l] (Y:=Unit) (fun y=>True) (fun y=> .bool (decide ((ex,ey)∈l))) (fun y=>[]) (fun y=>[]):=by
 refine zx Try.func76 rfl rfl rfl (fun c=> ?_)
 show RunC _ _ _ _ _ [(0,.slice p n cap),(1,.agg #[.int .i64 ex,.int .i64 ey])] [] [slF (rI2 .i64) p cap l]
 refine zba 0 rfl (fun hL0=> ?_)
 refine ze<|za<|zO rfl rfl (zfa rfl rfl) (fun b1=> ?_)
 refine r_pv rfl rfl (zd rfl)<|zg<|zc<|ze<|za<|r_pv rfl rfl (zb rfl)<|r_u rfl rfl (zh 0 ty73 rfl rfl (.take (.take .nil)))<|zea rfl rfl (.c rfl (.c rfl .n)) ce99 (zzd (p:=p) (n:=n) (cap:=cap) (l:=l) (ex:=ex) (ey:=ey) (hn:=by assumption)) (.c (j:=0) rfl .n) ?_
 rintro r2 hr
 dsimp only [List.append_eq,List.nil_append,List.cons_append]
 replace hr:(0≤r2↔(ex,ey)∈l):=hr
 refine r_pv rfl rfl (zZa rfl rfl)<|r_pv rfl rfl (zd rfl)<|zg<|zc<|zJ ?_
 exact zB Try.results76 () trivial (zw rfl) (congrArg Value.bool (decide_eq_decide.2 hr.symm)) (ho:=(.n:PickO _ _ _)) (.n:SelR _ _ _)
theorem zNc {ex:Int} {ey:Int} {ez:Int} (hex: -9223372036854775808≤ex∧ex≤9223372036854775807) (hey: -9223372036854775808≤ey∧ey≤9223372036854775807) (hez: -9223372036854775808≤ez∧ez≤9223372036854775807):Con Try.prog 77 [.agg #[.int .i64 ex,.int .i64 ey,.int .i64 ez]] [] [] (Y:=(Option Addr)×Nat) (fun y=>True) (fun y=> .slice (y.1) 3 (y.2)) (fun y=>[]) (fun y=>[slF (rI2 .i64) (y.1) (y.2) (Ms.edges3 (ex,ey,ez))]):=by
 refine zx Try.func77 rfl rfl rfl (fun c=> ?_)
 show RunC _ _ _ _ _ [(0,.agg #[.int .i64 ex,.int .i64 ey,.int .i64 ez])] [] []
 refine ze<|za<|zO rfl rfl (zfa rfl rfl) (fun b1=> ?_)
 refine r_pv rfl rfl (zd rfl)<|zg<|zc<|ze<|za<|r_u rfl rfl (zh 0 ty44 rfl rfl (.take (.take (.take .nil))))<|zW rfl rfl (.c rfl .n) ce47 (zsb (ex:=ex) (ey:=ey) (ez:=ez)) (.n)<|zO rfl rfl (zr zr74 rfl) (fun b2=> ?_)
 refine zt 0 rfl rfl rfl rfl rfl sz74 rfl (.take (.take (.take (.take (.take (.take .nil)))))) .z<|zg<|zc<|ze<|za<|r_pv rfl rfl (zMc Try.underlying74 sz73 rfl)<|r_pv rfl rfl (zd rfl)<|zg<|zc<|zJ<|p_mem (fun w mm=>mm.boxArr (sz:=2) (enc:=fun z:Int×Int=>[.int .i64 z.1,.int .i64 z.2]) (ok:=fun z=>InK .i64 z.1∧InK .i64 z.2) (h1:=fun _=>rfl) (h2:=fun _=>rfl) 0 (Ms.edges3 (ex,ey,ez)) rfl rfl (by exact Ms.edges3_ok (zm.2 hex) (zm.2 hey) (zm.2 hez)) (of_decide_eq_true rfl)) ?_
 dsimp only [List.set]
 refine zVa 0 rfl .z ?_
 exact zB Try.results77 (some ⟨b2,0,none⟩,3) trivial (zw rfl) rfl (ho:=(.n:PickO _ _ _)) ((.c (j:=0) rfl .n):SelR _ _ _)
end Go.Proofs.Ytalfgjpbbongcaa.Sp
