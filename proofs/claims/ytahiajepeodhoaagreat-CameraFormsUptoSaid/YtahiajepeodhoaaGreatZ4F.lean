/- Lemmas on the walk and plain lemmas that the claim of this folder uses; each states its own conditions. Lines were printed by a program of ours. -/
import Derived.Test.YtahiajepeodhoaaGreatZ4E
set_option linter.unusedVariables false
set_option linter.unusedSimpArgs false
set_option linter.unusedSectionVars false
open Go.Proofs.Tryz renaming underlying34 → ya, underlying27 → yb, underlying57 → yc, underlying56 → yd, underlying23 → ye
open Go.Proofs.YtahiajepeodhoaaGreat.Big renaming hq → yf
namespace Go.Proofs.YtahiajepeodhoaaGreat.Sp
open Go
set_option linter.unusedVariables false
set_option maxRecDepth 100000
set_option maxHeartbeats 8000000
theorem zWc {e:Cam.Ln} {u1:Wd} {u2:Wd} {v1:Wd} {v2:Wd} {xo:Option Rat} {yo:Option Rat} (hin:Cam.In e) (hx:yf (xo.getD 0)≤100) (hy:yf (yo.getD 0)≤100):Con Tryz.prog 8 [.agg #[.int .i64 (e.f),.int .i64 (e.cx),.int .i64 (e.cy),.int .i64 (e.r0),.int .i64 (e.r1),.int .i64 (e.r2),.int .i64 (e.p1),.int .i64 (e.p2),.int .i64 (e.fd)],.agg #[u1.b,u1.l,u2.b,u2.l,v1.b,v1.l,v2.b,v2.l]] [] [eF u1 u2 xo,eF v1 v2 yo] (Y:=Wd×Wd×Wd×Wd) (fun y=>(¬(Cam.pc e [(xo,yo)]=0∧Cam.ins e (xo.getD 0) (yo.getD 0))→y.1=wz∧y.2.1=wz∧y.2.2.1=wz∧y.2.2.2=wz)) (fun y=> .tuple #[.agg #[y.1.b,y.1.l,y.2.1.b,y.2.1.l,y.2.2.1.b,y.2.2.1.l,y.2.2.2.b,y.2.2.2.l],.int .i64 (if (Cam.pc e [(xo,yo)]=0) then (if Cam.ins e (xo.getD 0) (yo.getD 0) then 0 else 15) else Cam.pc e [(xo,yo)])]) (fun y=>[]) (fun y=>[qF (decide (Cam.pc e [(xo,yo)]=0∧Cam.ins e (xo.getD 0) (yo.getD 0))) y.1 y.2.1 (if (Cam.pc e [(xo,yo)]=0∧Cam.ins e (xo.getD 0) (yo.getD 0)) then (Cam.dX e (xo.getD 0) (yo.getD 0)) else 0),qF (decide (Cam.pc e [(xo,yo)]=0∧Cam.ins e (xo.getD 0) (yo.getD 0))) y.2.2.1 y.2.2.2 (if (Cam.pc e [(xo,yo)]=0∧Cam.ins e (xo.getD 0) (yo.getD 0)) then (Cam.dY e (xo.getD 0) (yo.getD 0)) else 0)]):=by
 refine zk Tryz.func8 rfl rfl rfl (fun c=> ?_)
 show RunC _ _ _ _ _ [(0,.agg #[.int .i64 (e.f),.int .i64 (e.cx),.int .i64 (e.cy),.int .i64 (e.r0),.int .i64 (e.r1),.int .i64 (e.r2),.int .i64 (e.p1),.int .i64 (e.p2),.int .i64 (e.fd)]),(1,.agg #[u1.b,u1.l,u2.b,u2.l,v1.b,v1.l,v2.b,v2.l])] [] [eF u1 u2 xo,eF v1 v2 yo]
 obtain ⟨hf1,hcx1,hcy1,hr01,hr11,hr21,hp11,hp21,hfd1⟩:=id hin
 refine ze<|za<|zE rfl rfl (zM rfl rfl) (fun b1=> ?_)
 refine zE rfl rfl (zM rfl rfl) (fun b2=> ?_)
 refine zE rfl rfl (zr zr34 rfl) (fun b3=> ?_)
 refine e_p (zc rfl)<|zg<|zd<|ze<|ze<|za<|e_ru (zb 2 ty27 rfl rfl (.t8 (.take .nil)))<|e_ru (zb 1 ty34 rfl rfl (.t8 .nil))<|zva rfl rfl (zt (r:=rEE) (k:=1) yd inf34 rfl dd dd dd (.c (x:=(xo,yo)) (cs:=[u1.b,u1.l,u2.b,u2.l,v1.b,v1.l,v2.b,v2.l]) (u1,u2,v1,v2) rfl rfl rfl (fun g hr=>⟨Holds.get 0 rfl hr,Holds.get 1 rfl hr⟩) .n)) (fun b4 _=> ?_)
 refine zba 0 rfl .z<|zK rfl rfl (.c rfl (.c rfl .n)) ce32 (zRb (e:=e) (p:=some ⟨b4,0,none⟩) (n:=1) (cap:=1) (l:=[(xo,yo)]) (hin:=ass) (hn:=by first|rfl|assumption|omega|(simp;done)|decide) (hn9:=by first|rfl|assumption|omega|(simp;done)|decide)) (.c (j:=0) rfl .n)<|e_p (zc rfl)<|zg<|zd<|ze<|za<|e_mv rfl<|e_p (zqb rfl rfl)<|zg<|zd<|zH rfl (fun h13=> ?_) (fun h13=> ?_)
 ·
  refine ze<|za<|e_p (zJ zr34 rfl ya (.c sz32 (.c sz32 .n)) .n .n)<|e_mv rfl<|zi 1 rfl rfl rfl rfl rfl sz34 rfl (.t8 .nil) (.s .z)<|e_p (zc rfl)<|zg<|zd<|zD<|zl<|zjb (qF false wz wz 0) (fun g _=>qF_none g) ?_
  exact zDa Tryz.results8 (wz,wz,wz,wz) (fun _=>⟨rfl,rfl,rfl,rfl⟩) (zp 1 ty34 rfl rfl (.t8 .nil)) (zo rfl) (by rw [if_neg h13];rfl) (ho:=oN) ((.e (j:=0) rfl (by rw [if_neg (fun k=>h13 k.1),decide_eq_false (fun k=>h13 k.1)]) (.e (j:=0) rfl (by rw [if_neg (fun k=>h13 k.1),decide_eq_false (fun k=>h13 k.1)]) .n)):SelR _ _ _)
 ·
  have hz:Cam.pc e [(xo,yo)]=0:=Decidable.not_not.1 h13
  obtain ⟨hok,hx1,hy1⟩:=Cam.pc_0 hz
  have hx1:xo.isSome=true:=hx1
  have hy1:yo.isSome=true:=hy1
  refine zBb (qF xo.isSome u1 u2 (xo.getD 0)) (eF_weak 1 rfl)<|zBb (qF yo.isSome v1 v2 (yo.getD 0)) (eF_weak 3 rfl) ?_
  have e5:xo.isSome=true:=by exact hx1
  rw [e5]
  have e6:yo.isSome=true:=by exact hy1
  rw [e6]
  obtain ⟨⟨hof,hofd,hocx,hocy⟩,ho2,ho3⟩:=id hok
  refine zA<|zd<|ze<|za<|e_ru (zb 3 ty27 rfl rfl (.t8 (.take .nil)))<|zn rfl rfl (.c rfl .n) ce33 (zac (e:=e) (hin:=ass) (hok:=by first|rfl|assumption|omega|(simp;done)|decide)) (.n) ?_
  rintro ⟨wa17,wa28,wb19,wb210,wc111,wc212,wp113,wp214,wq115,wq216,wt117,wt218,pm19,cm20⟩ -
  dsimp only [aq,nq,cq]
  refine zE rfl rfl (zr zr62 rfl) (fun b21=> ?_)
  refine zi 0 rfl rfl rfl rfl rfl sz62 rfl (.t8 (.t8 (.t8 (.take .nil)))) .z<|zg<|zd<|ze<|ze<|za<|e_ru (zb 0 ty62 rfl rfl (.t8 (.t8 (.t8 (.take .nil)))))<|e_ru (zb 3 ty34 rfl rfl (.t8 .nil))<|zK rfl rfl (.c rfl (.c rfl .n)) ce34 (zCe (e:=e) (wa1:=wa17) (wa2:=wa28) (wb1:=wb19) (wb2:=wb210) (wc1:=wc111) (wc2:=wc212) (wp1:=wp113) (wp2:=wp214) (wq1:=wq115) (wq2:=wq216) (wt1:=wt117) (wt2:=wt218) (pm:=pm19) (cm:=cm20) (u1:=u1) (u2:=u2) (v1:=v1) (v2:=v2) (qx:=(xo.getD 0)) (qy:=(yo.getD 0)) (hin:=ass) (hok:=by first|rfl|assumption|omega|(simp;done)|decide) (hx:=ass) (hy:=ass)) (.c (j:=0) rfl (.c (j:=1) rfl (.c (j:=2) rfl (.c (j:=3) rfl (.c (j:=4) rfl (.c (j:=5) rfl (.c (j:=6) rfl (.c (j:=8) rfl (.c (j:=7) rfl .n)))))))))<|e_p (zMa rfl)<|zg<|zd<|zH rfl (fun h21=> ?_) (fun h21=> ?_)
  ·
   refine ze<|za<|e_p (zJ zr34 rfl ya (.c sz32 (.c sz32 .n)) .n .n)<|zi 2 rfl rfl rfl rfl rfl sz34 rfl (.t8 .nil) (.s (.s .z))<|e_p (zc rfl)<|zg<|zd<|zD<|zl<|zjb (qF false wz wz 0) (fun g _=>qF_none g) ?_
   exact zDa Tryz.results8 (wz,wz,wz,wz) (fun _=>⟨rfl,rfl,rfl,rfl⟩) (zp 2 ty34 rfl rfl (.t8 .nil)) (zo rfl) (by rw [if_pos hz,if_neg h21];rfl) (ho:=oN) ((.e (j:=0) rfl (by rw [if_neg (fun k=>h21 k.2),decide_eq_false (fun k=>h21 k.2)]) (.e (j:=0) rfl (by rw [if_neg (fun k=>h21 k.2),decide_eq_false (fun k=>h21 k.2)]) .n)):SelR _ _ _)
  ·
   have hii:Cam.ins e (xo.getD 0) (yo.getD 0):=Decidable.not_not.1 h21
   refine zA<|zd<|ze<|za<|e_ru (zb 0 ty62 rfl rfl (.t8 (.t8 (.t8 (.take .nil)))))<|e_ru (zb 3 ty34 rfl rfl (.t8 .nil))<|zn rfl rfl (.c rfl (.c rfl .n)) ce35 (zme (e:=e) (wa1:=wa17) (wa2:=wa28) (wb1:=wb19) (wb2:=wb210) (wc1:=wc111) (wc2:=wc212) (wp1:=wp113) (wp2:=wp214) (wq1:=wq115) (wq2:=wq216) (wt1:=wt117) (wt2:=wt218) (pm:=pm19) (cm:=cm20) (u1:=u1) (u2:=u2) (v1:=v1) (v2:=v2) (qx:=(xo.getD 0)) (qy:=(yo.getD 0)) (hin:=ass) (hok:=by first|rfl|assumption|omega|(simp;done)|decide) (hx:=ass) (hy:=ass)) (.c (j:=0) rfl (.c (j:=1) rfl (.c (j:=2) rfl (.c (j:=3) rfl (.c (j:=4) rfl (.c (j:=5) rfl (.c (j:=6) rfl (.c (j:=8) rfl (.c (j:=7) rfl .n))))))))) ?_
   rintro ⟨w322,w423,w524,w625⟩ -
   dsimp only [aq,nq,cq]
   refine zi 2 rfl rfl rfl rfl rfl sz34 rfl (.t8 .nil) (.s (.s .z))<|e_p (zc rfl)<|zg<|zd<|zD ?_
   exact zDa Tryz.results8 (w322,w423,w524,w625) (fun k=>absurd ⟨hz,hii⟩ k) (zp 2 ty34 rfl rfl (.t8 .nil)) (zo rfl) (by rw [if_pos hz,if_pos hii]) (ho:=oN) ((.e (j:=0) rfl (by rw [if_pos ⟨hz,hii⟩,decide_eq_true ⟨hz,hii⟩]) (.e (j:=1) rfl (by rw [if_pos ⟨hz,hii⟩,decide_eq_true ⟨hz,hii⟩]) .n)):SelR _ _ _)
end Go.Proofs.YtahiajepeodhoaaGreat.Sp
namespace Go.Proofs.YtahiajepeodhoaaGreat.Sp
open Go
set_option linter.unusedVariables false
section
variable {P : Program} {Q : Exit → Act → World → Prop} {c : Cx} {n : Sz} {ops : Array Oper} {m : Fm} {OW O : List As} {R R' : List Fa} {k wi i : Nat} {L : Array Bool}
theorem zGb (h:∀g,Holds g R→Holds g R') (kont:RunO P ops Q c n wi k L i m OW O R'):RunO P ops Q c n wi k L i m OW O R:=fun hQ hs hcl hx a w hw hr g f s1 s2 ap mm=>
  kont hQ hs hcl hx a w hw hr g f s1 s2 ap ⟨mm.sep,h g mm.holds,mm.apart,mm.hasH,mm.hasG,mm.le,mm.newG,mm.newH,mm.kept⟩
end
end Go.Proofs.YtahiajepeodhoaaGreat.Sp
namespace Go.Proofs.YtahiajepeodhoaaGreat.Sp
open Go
set_option linter.unusedVariables false
set_option maxRecDepth 100000
set_option maxHeartbeats 8000000
theorem zcg:Con Tryz.prog 6 [] [] [] (Y:=Unit) (fun y=>True) (fun y=> .bool true) (fun y=>[]) (fun y=>[]):=by
 refine zk Tryz.func6 rfl rfl rfl (fun c=> ?_)
 show RunC _ _ _ _ _ [] [] []
 refine ze<|za<|e_p (zc rfl)<|zg<|zd<|ze<|za<|e_p (ztd zr24 rfl Tryz.underlying24 sz3 (.c rfl .n) (.c rfl rfl rfl (.take .nil) .n))<|e_p (zJ zr27 rfl yb (.c sz3 (.c sz23 (.c sz24 (.c sz25 (.c sz3 .n))))) (.c rfl (.c rfl (.c rfl .n))) (.c rfl rfl rfl (.take .nil) (.c rfl rfl rfl (.s2 (.skip (.t2 (.take .nil)))) (.c rfl rfl rfl (.s8 (.take .nil)) .n))))<|zE rfl rfl (zr zr27 rfl) (fun b1=> ?_)
 refine zi 0 rfl rfl rfl rfl rfl sz27 rfl (.t8 (.take .nil)) .z<|zg<|zd<|ze<|za<|e_ru (zb 0 ty27 rfl rfl (.t8 (.take .nil)))<|zn rfl rfl (.c rfl .n) ce14 (zGe (e:=Cam.e0) (hin:=by exact Cam.e0_in)) (.n) ?_
 rintro ⟨w32,w43⟩ -
 dsimp only [aq,nq,cq]
 have e4:(decide (Cam.mdc Cam.e0=0):Bool)=true:=by exact decide_eq_true Cam.e0_mdc
 rw [e4]
 have e5:((if Cam.mdc Cam.e0=0 then Rat.divInt ((Cam.md Cam.e0:Nat):Int) 256 else 0):Rat)=(Rat.divInt 159 256):=by rw [Cam.e0_md];exact if_pos Cam.e0_mdc
 rw [e5]
 have e6:(Cam.mdc Cam.e0:Int)=0:=by exact Cam.e0_mdc
 rw [e6]
 refine e_mv rfl<|e_p (zq rfl rfl)<|e_p (zq rfl rfl)<|zE rfl rfl (zr zr32 rfl) (fun b7=> ?_)
 refine zi 0 rfl rfl rfl rfl rfl sz32 rfl (.t4 .nil) .z<|e_p (zc rfl)<|zg<|zd<|ze<|za<|zn rfl rfl (.c rfl (.c rfl .n)) ce15 (zec (z1:=1) (z2:=2) (hz1:=by first|rfl|assumption|decide|omega|(decide +kernel)) (hz2:=by first|rfl|assumption|decide|omega|(decide +kernel)) (hy:=by first|rfl|assumption|decide|omega|(decide +kernel))) (.n) ?_
 rintro ⟨w38,w49⟩ -
 dsimp only [aq,nq,cq]
 refine e_mv rfl<|e_p (zq rfl rfl)<|e_p (zq rfl rfl)<|zE rfl rfl (zr zr32 rfl) (fun b10=> ?_)
 refine zi 0 rfl rfl rfl rfl rfl sz32 rfl (.t4 .nil) .z<|e_p (zc rfl)<|zg<|zd<|ze<|zV (OW:=[]) (O:=[boxA b10 32 (cw [w38,w49]),boxA b7 32 (cw [w32,w43]),boxA b1 27 [.int .i64 64,.int .i64 0,.int .i64 0,.int .i64 (-131072),.int .i64 0,.int .i64 0,.int .i64 0,.int .i64 0,.int .i64 64]]) 9 mixed (.then .ret) kr<|e_u 0 rfl rfl (zb 2 ty27 rfl rfl (.t8 (.take .nil)))<|e_u 1 rfl rfl (zb 0 ty32 rfl rfl (.t4 .nil))<|zW (m':=[(25,.agg (cw [w38,w49]).toArray),(24,.agg #[.int .i64 64,.int .i64 0,.int .i64 0,.int .i64 (-131072),.int .i64 0,.int .i64 0,.int .i64 0,.int .i64 0,.int .i64 64]),(3,.int .i64 0),(2,.pointer (some ⟨b7,0,none⟩)),(0,.bool false)]) (R':=[qF true w38 w49 (Rat.divInt 1 2),qF true w32 w43 (Rat.divInt 159 256)]) (mR rfl) (List.Perm.refl _) (List.Perm.refl _) ((.of [0,1] rfl):SelR _ _ _)<|zta (X:=Wd×Wd×Wd×Wd×Wd×Wd×Nat) (k':=0) (L':=(lb 11 2047)) (fun (u2_1,u2_2,u4_1,u4_2,u4_3,u4_4,u8_1)=>([(7,.int .i64 (if (Cam.pc Cam.e0 [((some (Rat.divInt 1 2)),(some ((0:Int):Rat)))]=0) then (if Cam.ins Cam.e0 ((some (Rat.divInt 1 2)).getD 0) ((some ((0:Int):Rat)).getD 0) then 0 else 15) else Cam.pc Cam.e0 [((some (Rat.divInt 1 2)),(some ((0:Int):Rat)))])),(6,.pointer (some ⟨u8_1,0,none⟩)),(3,.int .i64 0),(2,.pointer (some ⟨b7,0,none⟩)),(0,.bool false)],[boxA u8_1 34 (cw [u4_1,u4_2,u4_3,u4_4])],[boxA b10 32 (cw [w38,w49]),boxA b7 32 (cw [w32,w43]),boxA b1 27 [.int .i64 64,.int .i64 0,.int .i64 0,.int .i64 (-131072),.int .i64 0,.int .i64 0,.int .i64 0,.int .i64 0,.int .i64 64]],[qF (decide (Cam.pc Cam.e0 [((some (Rat.divInt 1 2)),(some ((0:Int):Rat)))]=0∧Cam.ins Cam.e0 ((some (Rat.divInt 1 2)).getD 0) ((some ((0:Int):Rat)).getD 0))) u4_1 u4_2 (if (Cam.pc Cam.e0 [((some (Rat.divInt 1 2)),(some ((0:Int):Rat)))]=0∧Cam.ins Cam.e0 ((some (Rat.divInt 1 2)).getD 0) ((some ((0:Int):Rat)).getD 0)) then (Cam.dX Cam.e0 ((some (Rat.divInt 1 2)).getD 0) ((some ((0:Int):Rat)).getD 0)) else 0),qF (decide (Cam.pc Cam.e0 [((some (Rat.divInt 1 2)),(some ((0:Int):Rat)))]=0∧Cam.ins Cam.e0 ((some (Rat.divInt 1 2)).getD 0) ((some ((0:Int):Rat)).getD 0))) u4_3 u4_4 (if (Cam.pc Cam.e0 [((some (Rat.divInt 1 2)),(some ((0:Int):Rat)))]=0∧Cam.ins Cam.e0 ((some (Rat.divInt 1 2)).getD 0) ((some ((0:Int):Rat)).getD 0)) then (Cam.dY Cam.e0 ((some (Rat.divInt 1 2)).getD 0) ((some ((0:Int):Rat)).getD 0)) else 0),eF u2_1 u2_2 (some ((0:Int):Rat)),eF w38 w49 (some (Rat.divInt 1 2)),qF true u2_1 u2_2 ((0:Int):Rat),qF true w38 w49 (Rat.divInt 1 2),qF true w32 w43 (Rat.divInt 159 256)])) ?_ (fun hD0=> ?_)
 ·
  rintro ⟨u2_1,u2_2,u4_1,u4_2,u4_3,u4_4,u8_1⟩
  dsimp only [cw]
  refine zI kr<|zd<|ze ?_
  have e13:(if (Cam.pc Cam.e0 [((some (Rat.divInt 1 2)),(some ((0:Int):Rat)))]=0) then (if Cam.ins Cam.e0 ((some (Rat.divInt 1 2)).getD 0) ((some ((0:Int):Rat)).getD 0) then 0 else 15) else Cam.pc Cam.e0 [((some (Rat.divInt 1 2)),(some ((0:Int):Rat)))]:Int)=0:=by exact (if_pos Cam.e0_pc).trans (if_pos Cam.e0_ins)
  rw [e13]
  have e14:((if (Cam.pc Cam.e0 [((some (Rat.divInt 1 2)),(some ((0:Int):Rat)))]=0∧Cam.ins Cam.e0 ((some (Rat.divInt 1 2)).getD 0) ((some ((0:Int):Rat)).getD 0)) then (Cam.dX Cam.e0 ((some (Rat.divInt 1 2)).getD 0) ((some ((0:Int):Rat)).getD 0)) else 0):Rat)=(Rat.divInt 31 64):=by exact (if_pos ⟨Cam.e0_pc,Cam.e0_ins⟩).trans Cam.e0_dX
  rw [e14]
  have e15:(decide (Cam.pc Cam.e0 [((some (Rat.divInt 1 2)),(some ((0:Int):Rat)))]=0∧Cam.ins Cam.e0 ((some (Rat.divInt 1 2)).getD 0) ((some ((0:Int):Rat)).getD 0)):Bool)=true:=by exact decide_eq_true ⟨Cam.e0_pc,Cam.e0_ins⟩
  rw [e15]
  refine za<|zn rfl rfl (.c rfl (.c rfl .n)) ce15 (zec (z1:=159) (z2:=256) (hz1:=by first|rfl|assumption|decide|omega|(decide +kernel)) (hz2:=by first|rfl|assumption|decide|omega|(decide +kernel)) (hy:=by first|rfl|assumption|decide|omega|(decide +kernel))) (.n) ?_
  rintro ⟨w316,w417⟩ -
  dsimp only [aq,nq,cq]
  refine e_mv rfl<|e_p (zq rfl rfl)<|e_p (zq rfl rfl)<|zE rfl rfl (zr zr32 rfl) (fun b18=> ?_)
  refine zi 0 rfl rfl rfl rfl rfl sz32 rfl (.t4 .nil) .z<|e_p (zc rfl)<|zg<|zd<|ze<|za<|zn rfl rfl (.c rfl (.c rfl .n)) ce15 (zec (z1:=31) (z2:=64) (hz1:=by first|rfl|assumption|decide|omega|(decide +kernel)) (hz2:=by first|rfl|assumption|decide|omega|(decide +kernel)) (hy:=by first|rfl|assumption|decide|omega|(decide +kernel))) (.n) ?_
  rintro ⟨w319,w420⟩ -
  dsimp only [aq,nq,cq]
  refine e_mv rfl<|e_p (zq rfl rfl)<|e_p (zq rfl rfl)<|zE rfl rfl (zr zr32 rfl) (fun b21=> ?_)
  refine zi 0 rfl rfl rfl rfl rfl sz32 rfl (.t4 .nil) .z<|e_p (zc rfl)<|zg<|zd<|zQa (X:=Unit) (fun x=>True) (fun x=>[(0,.bool true)]) (fun x=>[boxA b21 32 (cw [w319,w420]),boxA b18 32 (cw [w316,w417]),boxA u8_1 34 (cw [u4_1,u4_2,u4_3,u4_4]),boxA b10 32 (cw [w38,w49]),boxA b7 32 (cw [w32,w43]),boxA b1 27 [.int .i64 64,.int .i64 0,.int .i64 0,.int .i64 (-131072),.int .i64 0,.int .i64 0,.int .i64 0,.int .i64 0,.int .i64 64]]) (fun x=>[qF true w319 w420 (Rat.divInt 31 64),qF true w316 w417 (Rat.divInt 159 256),qF true u4_1 u4_2 (Rat.divInt 31 64),qF true u4_3 u4_4 (if (Cam.pc Cam.e0 [((some (Rat.divInt 1 2)),(some ((0:Int):Rat)))]=0∧Cam.ins Cam.e0 ((some (Rat.divInt 1 2)).getD 0) ((some ((0:Int):Rat)).getD 0)) then (Cam.dY Cam.e0 ((some (Rat.divInt 1 2)).getD 0) ((some ((0:Int):Rat)).getD 0)) else 0),eF u2_1 u2_2 (some ((0:Int):Rat)),eF w38 w49 (some (Rat.divInt 1 2)),qF true u2_1 u2_2 ((0:Int):Rat),qF true w38 w49 (Rat.divInt 1 2),qF true w32 w43 (Rat.divInt 159 256)]) ?_ ?_
  ·
   refine za<|e_mv rfl<|e_p (zqa rfl rfl)<|e_mv rfl<|e_mv rfl<|e_p (zqa rfl rfl)<|e_p (zC rfl rfl)<|e_mv rfl<|e_ru (zb 4 ty32 rfl rfl (.t4 .nil))<|e_ru (zb 1 ty32 rfl rfl (.t4 .nil))<|zK rfl rfl (.c rfl (.c rfl .n)) ce30 (zfc (u1:=w32) (v1:=w43) (q1:=(Rat.divInt 159 256)) (u2:=w316) (v2:=w417) (q2:=Rat.divInt 159 256) (hl:=by first|rfl|assumption|decide|omega|(decide +kernel))) (.c (j:=8) rfl (.c (j:=1) rfl .n)) ?_
   rw [show (decide ((Rat.divInt 159 256)=(Rat.divInt 159 256)))=true from by exact decide_eq_true rfl]
   refine e_p (zC rfl rfl)<|e_mv rfl<|e_p (zf ya rfl sz32 rfl rfl)<|e_ru (zb 2 ty32 rfl rfl (.t4 .nil))<|e_ru (zb 0 ty32 rfl rfl (.t4 .nil))<|zK rfl rfl (.c rfl (.c rfl .n)) ce30 (zfc (u1:=u4_1) (v1:=u4_2) (q1:=(Rat.divInt 31 64)) (u2:=w319) (v2:=w420) (q2:=Rat.divInt 31 64) (hl:=by first|rfl|assumption|decide|omega|(decide +kernel))) (.c (j:=2) rfl (.c (j:=0) rfl .n)) ?_
   rw [show (decide ((Rat.divInt 31 64)=(Rat.divInt 31 64)))=true from by exact decide_eq_true rfl]
   refine e_p (zC rfl rfl)<|e_mv rfl<|e_p (zJ zr27 rfl yb (.c sz3 (.c sz23 (.c sz24 (.c sz25 (.c sz3 .n))))) .n .n)<|zK rfl rfl (.c rfl .n) ce24 (zbc (e:=Cam.ez) (hin:=by exact Cam.ez_in)) (.n)<|e_p (zqa rfl rfl) ?_
   rw [show (decide ((Cam.ck Cam.ez)=2))=true from by exact decide_eq_true Cam.ez_ck]
   refine e_p (zC rfl rfl)<|e_p (zc rfl)<|zg ?_
   exact zS () tt9 ((.c rfl .n):SubM _ _) (ho:=((.of [0,0,0,0,0,0] rfl):PickO _ _ _)) ((.of [0,1,2,3,4,5,6,7,8] rfl):SelR _ _ _)
  ·
   rintro ⟨⟩ -
   try dsimp only [cw]
   refine zD ?_
   exact zv Tryz.results6 () trivial (zo rfl) rfl (ho:=oN) sN
 refine zta (X:=Wd×Wd×Wd×Wd×Wd×Wd×Nat) (k':=2) (L':=(lb 11 511)) (fun (u2_1,u2_2,u4_1,u4_2,u4_3,u4_4,u8_1)=>([(6,.pointer (some ⟨u8_1,0,none⟩)),(30,.int .i64 (if (Cam.pc Cam.e0 [((some (Rat.divInt 1 2)),(some ((0:Int):Rat)))]=0) then (if Cam.ins Cam.e0 ((some (Rat.divInt 1 2)).getD 0) ((some ((0:Int):Rat)).getD 0) then 0 else 15) else Cam.pc Cam.e0 [((some (Rat.divInt 1 2)),(some ((0:Int):Rat)))])),(29,.agg (cw [u4_1,u4_2,u4_3,u4_4]).toArray),(3,.int .i64 0),(2,.pointer (some ⟨b7,0,none⟩)),(0,.bool false)],[boxA u8_1 34 (cw [wz,wz,wz,wz])],[boxA b10 32 (cw [w38,w49]),boxA b7 32 (cw [w32,w43]),boxA b1 27 [.int .i64 64,.int .i64 0,.int .i64 0,.int .i64 (-131072),.int .i64 0,.int .i64 0,.int .i64 0,.int .i64 0,.int .i64 64]],[qF (decide (Cam.pc Cam.e0 [((some (Rat.divInt 1 2)),(some ((0:Int):Rat)))]=0∧Cam.ins Cam.e0 ((some (Rat.divInt 1 2)).getD 0) ((some ((0:Int):Rat)).getD 0))) u4_1 u4_2 (if (Cam.pc Cam.e0 [((some (Rat.divInt 1 2)),(some ((0:Int):Rat)))]=0∧Cam.ins Cam.e0 ((some (Rat.divInt 1 2)).getD 0) ((some ((0:Int):Rat)).getD 0)) then (Cam.dX Cam.e0 ((some (Rat.divInt 1 2)).getD 0) ((some ((0:Int):Rat)).getD 0)) else 0),qF (decide (Cam.pc Cam.e0 [((some (Rat.divInt 1 2)),(some ((0:Int):Rat)))]=0∧Cam.ins Cam.e0 ((some (Rat.divInt 1 2)).getD 0) ((some ((0:Int):Rat)).getD 0))) u4_3 u4_4 (if (Cam.pc Cam.e0 [((some (Rat.divInt 1 2)),(some ((0:Int):Rat)))]=0∧Cam.ins Cam.e0 ((some (Rat.divInt 1 2)).getD 0) ((some ((0:Int):Rat)).getD 0)) then (Cam.dY Cam.e0 ((some (Rat.divInt 1 2)).getD 0) ((some ((0:Int):Rat)).getD 0)) else 0),eF u2_1 u2_2 (some ((0:Int):Rat)),eF w38 w49 (some (Rat.divInt 1 2)),qF true u2_1 u2_2 ((0:Int):Rat),qF true w38 w49 (Rat.divInt 1 2),qF true w32 w43 (Rat.divInt 159 256)])) ?_ (fun hD1=> ?_)
 ·
  rintro ⟨u2_1,u2_2,u4_1,u4_2,u4_3,u4_4,u8_1⟩
  dsimp only [cw]
  refine zcb 9 kr ?_
  ·
   refine zw kr rfl rfl rfl rfl rfl sz34 rfl (.t8 .nil)<|e_pv 10 rfl rfl (zc rfl) ?_
   exact zX (hD0 (u2_1,u2_2,u4_1,u4_2,u4_3,u4_4,u8_1)) kr (mR rfl) .rfl .rfl ((.of [0,1,2,3,4,5,6] rfl):SelR _ _ _)
 refine zta (X:=Wd×Wd×Wd×Wd×Wd×Wd) (k':=3) (L':=(lb 11 255)) (fun (u2_1,u2_2,u4_1,u4_2,u4_3,u4_4)=>([(30,.int .i64 (if (Cam.pc Cam.e0 [((some (Rat.divInt 1 2)),(some ((0:Int):Rat)))]=0) then (if Cam.ins Cam.e0 ((some (Rat.divInt 1 2)).getD 0) ((some ((0:Int):Rat)).getD 0) then 0 else 15) else Cam.pc Cam.e0 [((some (Rat.divInt 1 2)),(some ((0:Int):Rat)))])),(29,.agg (cw [u4_1,u4_2,u4_3,u4_4]).toArray),(3,.int .i64 0),(2,.pointer (some ⟨b7,0,none⟩)),(0,.bool false)],[],[boxA b10 32 (cw [w38,w49]),boxA b7 32 (cw [w32,w43]),boxA b1 27 [.int .i64 64,.int .i64 0,.int .i64 0,.int .i64 (-131072),.int .i64 0,.int .i64 0,.int .i64 0,.int .i64 0,.int .i64 64]],[qF (decide (Cam.pc Cam.e0 [((some (Rat.divInt 1 2)),(some ((0:Int):Rat)))]=0∧Cam.ins Cam.e0 ((some (Rat.divInt 1 2)).getD 0) ((some ((0:Int):Rat)).getD 0))) u4_1 u4_2 (if (Cam.pc Cam.e0 [((some (Rat.divInt 1 2)),(some ((0:Int):Rat)))]=0∧Cam.ins Cam.e0 ((some (Rat.divInt 1 2)).getD 0) ((some ((0:Int):Rat)).getD 0)) then (Cam.dX Cam.e0 ((some (Rat.divInt 1 2)).getD 0) ((some ((0:Int):Rat)).getD 0)) else 0),qF (decide (Cam.pc Cam.e0 [((some (Rat.divInt 1 2)),(some ((0:Int):Rat)))]=0∧Cam.ins Cam.e0 ((some (Rat.divInt 1 2)).getD 0) ((some ((0:Int):Rat)).getD 0))) u4_3 u4_4 (if (Cam.pc Cam.e0 [((some (Rat.divInt 1 2)),(some ((0:Int):Rat)))]=0∧Cam.ins Cam.e0 ((some (Rat.divInt 1 2)).getD 0) ((some ((0:Int):Rat)).getD 0)) then (Cam.dY Cam.e0 ((some (Rat.divInt 1 2)).getD 0) ((some ((0:Int):Rat)).getD 0)) else 0),eF u2_1 u2_2 (some ((0:Int):Rat)),eF w38 w49 (some (Rat.divInt 1 2)),qF true u2_1 u2_2 ((0:Int):Rat),qF true w38 w49 (Rat.divInt 1 2),qF true w32 w43 (Rat.divInt 159 256)])) ?_ (fun hD2=> ?_)
 ·
  rintro ⟨u2_1,u2_2,u4_1,u4_2,u4_3,u4_4⟩
  dsimp only [cw]
  refine zcb 8 kr ?_
  ·
   refine zib rfl rfl rfl rfl (zr zr34 rfl) (fun u8_1 _=> ?_)
   exact zX (hD1 (u2_1,u2_2,u4_1,u4_2,u4_3,u4_4,u8_1)) kr (mR rfl) .rfl .rfl ((.of [0,1,2,3,4,5,6] rfl):SelR _ _ _)
 refine zta (X:=Wd×Wd×Nat) (k':=6) (L':=(lb 11 271)) (fun (u2_1,u2_2,u8_1)=>([(6,.pointer (some ⟨u8_1,0,none⟩)),(27,.agg (cw [w38,w49,u2_1,u2_2]).toArray),(24,.agg #[.int .i64 64,.int .i64 0,.int .i64 0,.int .i64 (-131072),.int .i64 0,.int .i64 0,.int .i64 0,.int .i64 0,.int .i64 64]),(3,.int .i64 0),(2,.pointer (some ⟨b7,0,none⟩)),(0,.bool false)],[boxA u8_1 34 (cw [wz,wz,wz,wz])],[boxA b10 32 (cw [w38,w49]),boxA b7 32 (cw [w32,w43]),boxA b1 27 [.int .i64 64,.int .i64 0,.int .i64 0,.int .i64 (-131072),.int .i64 0,.int .i64 0,.int .i64 0,.int .i64 0,.int .i64 64]],[qF true u2_1 u2_2 ((0:Int):Rat),qF true w38 w49 (Rat.divInt 1 2),qF true w32 w43 (Rat.divInt 159 256)])) ?_ (fun hD3=> ?_)
 ·
  rintro ⟨u2_1,u2_2,u8_1⟩
  dsimp only [cw]
  refine zcb 4 kr ?_
  ·
   first|refine zSa (addQe 1 rfl) ?_|refine zGb (addQe 1 rfl) ?_
   first|refine zSa (addQe 1 rfl) ?_|refine zGb (addQe 1 rfl) ?_
   refine zm rfl rfl rfl rfl (.c rfl (.c rfl .n)) ce8 (zWc (e:=Cam.e0) (u1:=w38) (u2:=w49) (v1:=u2_1) (v2:=u2_2) (xo:=(some (Rat.divInt 1 2))) (yo:=(some ((0:Int):Rat))) (hin:=by exact Cam.e0_in) (hx:=by first|rfl|assumption|decide|omega|(decide +kernel)) (hy:=by first|rfl|assumption|decide|omega|(decide +kernel))) (.c (j:=1) rfl (.c (j:=0) rfl .n)) ?_
   rintro ⟨u4_1,u4_2,u4_3,u4_4⟩ hy22
   dsimp only [aq,nq,cq]
   replace hy22:(¬(Cam.pc Cam.e0 [((some (Rat.divInt 1 2)),(some ((0:Int):Rat)))]=0∧Cam.ins Cam.e0 ((some (Rat.divInt 1 2)).getD 0) ((some ((0:Int):Rat)).getD 0))→u4_1=wz∧u4_2=wz∧u4_3=wz∧u4_4=wz):=hy22
   refine e_dm 5 rfl rfl rfl<|e_pv 6 rfl rfl (zq rfl rfl)<|e_pv 7 rfl rfl (zq rfl rfl) ?_
   exact zX (hD1 (u2_1,u2_2,u4_1,u4_2,u4_3,u4_4,u8_1)) kr (mR rfl) .rfl .rfl ((.of [0,1,2,3,4,5,6] rfl):SelR _ _ _)
 refine zta (X:=Wd×Wd) (k':=7) (L':=(lb 11 15)) (fun (u2_1,u2_2)=>([(27,.agg (cw [w38,w49,u2_1,u2_2]).toArray),(24,.agg #[.int .i64 64,.int .i64 0,.int .i64 0,.int .i64 (-131072),.int .i64 0,.int .i64 0,.int .i64 0,.int .i64 0,.int .i64 64]),(3,.int .i64 0),(2,.pointer (some ⟨b7,0,none⟩)),(0,.bool false)],[],[boxA b10 32 (cw [w38,w49]),boxA b7 32 (cw [w32,w43]),boxA b1 27 [.int .i64 64,.int .i64 0,.int .i64 0,.int .i64 (-131072),.int .i64 0,.int .i64 0,.int .i64 0,.int .i64 0,.int .i64 64]],[qF true u2_1 u2_2 ((0:Int):Rat),qF true w38 w49 (Rat.divInt 1 2),qF true w32 w43 (Rat.divInt 159 256)])) ?_ (fun hD4=> ?_)
 ·
  rintro ⟨u2_1,u2_2⟩
  dsimp only [cw]
  refine zuc 4 8 kr ?_ ?_
  ·
   first|refine zSa (addQe 1 rfl) ?_|refine zGb (addQe 1 rfl) ?_
   first|refine zSa (addQe 1 rfl) ?_|refine zGb (addQe 1 rfl) ?_
   refine zm rfl rfl rfl rfl (.c rfl (.c rfl .n)) ce8 (zWc (e:=Cam.e0) (u1:=w38) (u2:=w49) (v1:=u2_1) (v2:=u2_2) (xo:=(some (Rat.divInt 1 2))) (yo:=(some ((0:Int):Rat))) (hin:=by exact Cam.e0_in) (hx:=by first|rfl|assumption|decide|omega|(decide +kernel)) (hy:=by first|rfl|assumption|decide|omega|(decide +kernel))) (.c (j:=1) rfl (.c (j:=0) rfl .n)) ?_
   rintro ⟨u4_1,u4_2,u4_3,u4_4⟩ hy23
   dsimp only [aq,nq,cq]
   replace hy23:(¬(Cam.pc Cam.e0 [((some (Rat.divInt 1 2)),(some ((0:Int):Rat)))]=0∧Cam.ins Cam.e0 ((some (Rat.divInt 1 2)).getD 0) ((some ((0:Int):Rat)).getD 0))→u4_1=wz∧u4_2=wz∧u4_3=wz∧u4_4=wz):=hy23
   refine e_dm 5 rfl rfl rfl<|e_pv 6 rfl rfl (zq rfl rfl)<|e_pv 7 rfl rfl (zq rfl rfl) ?_
   exact zX (hD2 (u2_1,u2_2,u4_1,u4_2,u4_3,u4_4)) kr (mR rfl) .rfl .rfl ((.of [0,1,2,3,4,5,6] rfl):SelR _ _ _)
  ·
   refine zib rfl rfl rfl rfl (zr zr34 rfl) (fun u8_1 _=> ?_)
   exact zX (hD3 (u2_1,u2_2,u8_1)) kr (mR rfl) .rfl .rfl ((.of [0,1,2] rfl):SelR _ _ _)
 refine zta (X:=Nat) (k':=8) (L':=(lb 11 259)) (fun u8_1=>([(6,.pointer (some ⟨u8_1,0,none⟩)),(25,.agg (cw [w38,w49]).toArray),(24,.agg #[.int .i64 64,.int .i64 0,.int .i64 0,.int .i64 (-131072),.int .i64 0,.int .i64 0,.int .i64 0,.int .i64 0,.int .i64 64]),(3,.int .i64 0),(2,.pointer (some ⟨b7,0,none⟩)),(0,.bool false)],[boxA u8_1 34 (cw [wz,wz,wz,wz])],[boxA b10 32 (cw [w38,w49]),boxA b7 32 (cw [w32,w43]),boxA b1 27 [.int .i64 64,.int .i64 0,.int .i64 0,.int .i64 (-131072),.int .i64 0,.int .i64 0,.int .i64 0,.int .i64 0,.int .i64 64]],[qF true w38 w49 (Rat.divInt 1 2),qF true w32 w43 (Rat.divInt 159 256)])) ?_ (fun hD5=> ?_)
 ·
  rintro u8_1
  dsimp only [cw]
  refine zcb 2 kr ?_
  ·
   refine zm rfl rfl rfl rfl (.c rfl .n) ce29 (zdc (z:=0) (hz:=by first|rfl|assumption|decide|omega|(decide +kernel))) (.n) ?_
   rintro ⟨u2_1,u2_2⟩ -
   dsimp only [aq,nq,cq]
   refine e_pv 3 rfl rfl (zJ zr34 rfl ya (.c sz32 (.c sz32 .n)) (.c rfl (.c rfl .n)) (.c rfl rfl rfl (.t4 .nil) (.c rfl rfl rfl (.s4 (.t4 .nil)) .n))) ?_
   exact zX (hD3 (u2_1,u2_2,u8_1)) kr (mR rfl) .rfl .rfl ((.of [0,1,2] rfl):SelR _ _ _)
 refine zuc 2 8 kr ?_ ?_
 ·
  refine zm rfl rfl rfl rfl (.c rfl .n) ce29 (zdc (z:=0) (hz:=by first|rfl|assumption|decide|omega|(decide +kernel))) (.n) ?_
  rintro ⟨u2_1,u2_2⟩ -
  dsimp only [aq,nq,cq]
  refine e_pv 3 rfl rfl (zJ zr34 rfl ya (.c sz32 (.c sz32 .n)) (.c rfl (.c rfl .n)) (.c rfl rfl rfl (.t4 .nil) (.c rfl rfl rfl (.s4 (.t4 .nil)) .n))) ?_
  exact zX (hD4 (u2_1,u2_2)) kr (mR rfl) .rfl .rfl ((.of [0,1,2] rfl):SelR _ _ _)
 ·
  refine zib rfl rfl rfl rfl (zr zr34 rfl) (fun u8_1 _=> ?_)
  exact zX (hD5 u8_1) kr (mR rfl) .rfl .rfl ((.of [0,1] rfl):SelR _ _ _)
end Go.Proofs.YtahiajepeodhoaaGreat.Sp
namespace Go.Proofs.YtahiajepeodhoaaGreat.Sp
open Go
set_option linter.unusedVariables false
set_option maxRecDepth 100000
set_option maxHeartbeats 8000000
theorem zHe {e:Cam.Ln} {u1:Wd} {u2:Wd} {v1:Wd} {v2:Wd} {xo:Option Rat} {yo:Option Rat} (hin:Cam.In e) (hx:yf (xo.getD 0)≤1000) (hy:yf (yo.getD 0)≤1000):Con Tryz.prog 22 [.agg #[.int .i64 (e.f),.int .i64 (e.cx),.int .i64 (e.cy),.int .i64 (e.r0),.int .i64 (e.r1),.int .i64 (e.r2),.int .i64 (e.p1),.int .i64 (e.p2),.int .i64 (e.fd)],.agg #[u1.b,u1.l,u2.b,u2.l,v1.b,v1.l,v2.b,v2.l]] [] [eF u1 u2 xo,eF v1 v2 yo] (Y:=Wd×Wd×Wd×Wd) (fun y=>(¬(Cam.pc e [(xo,yo)]=0)→y.1=wz∧y.2.1=wz∧y.2.2.1=wz∧y.2.2.2=wz)) (fun y=> .tuple #[.agg #[y.1.b,y.1.l,y.2.1.b,y.2.1.l,y.2.2.1.b,y.2.2.1.l,y.2.2.2.b,y.2.2.2.l],.int .i64 (Cam.pc e [(xo,yo)])]) (fun y=>[]) (fun y=>[qF (decide (Cam.pc e [(xo,yo)]=0)) y.1 y.2.1 (if (Cam.pc e [(xo,yo)]=0) then (Cam.nrm e.f e.cx (xo.getD 0)) else 0),qF (decide (Cam.pc e [(xo,yo)]=0)) y.2.2.1 y.2.2.2 (if (Cam.pc e [(xo,yo)]=0) then (Cam.nrm e.f e.cy (yo.getD 0)) else 0)]):=by
 refine zk Tryz.func22 rfl rfl rfl (fun c=> ?_)
 show RunC _ _ _ _ _ [(0,.agg #[.int .i64 (e.f),.int .i64 (e.cx),.int .i64 (e.cy),.int .i64 (e.r0),.int .i64 (e.r1),.int .i64 (e.r2),.int .i64 (e.p1),.int .i64 (e.p2),.int .i64 (e.fd)]),(1,.agg #[u1.b,u1.l,u2.b,u2.l,v1.b,v1.l,v2.b,v2.l])] [] [eF u1 u2 xo,eF v1 v2 yo]
 obtain ⟨hf1,hcx1,hcy1,hr01,hr11,hr21,hp11,hp21,hfd1⟩:=id hin
 have hiq1:=Cam.iq (n:=e.f) hf1
 have hiq2:=Cam.iq (n:=e.cx) hcx1
 have hiq3:=Cam.iq (n:=e.cy) hcy1
 refine ze<|za<|zE rfl rfl (zM rfl rfl) (fun b1=> ?_)
 refine zE rfl rfl (zM rfl rfl) (fun b2=> ?_)
 refine zE rfl rfl (zr zr34 rfl) (fun b3=> ?_)
 refine e_p (zc rfl)<|zg<|zd<|ze<|ze<|za<|e_ru (zb 2 ty27 rfl rfl (.t8 (.take .nil)))<|e_ru (zb 1 ty34 rfl rfl (.t8 .nil))<|zva rfl rfl (zt (r:=rEE) (k:=1) yd inf34 rfl dd dd dd (.c (x:=(xo,yo)) (cs:=[u1.b,u1.l,u2.b,u2.l,v1.b,v1.l,v2.b,v2.l]) (u1,u2,v1,v2) rfl rfl rfl (fun g hr=>⟨Holds.get 0 rfl hr,Holds.get 1 rfl hr⟩) .n)) (fun b4 _=> ?_)
 refine zba 0 rfl .z<|zK rfl rfl (.c rfl (.c rfl .n)) ce32 (zRb (e:=e) (p:=some ⟨b4,0,none⟩) (n:=1) (cap:=1) (l:=[(xo,yo)]) (hin:=ass) (hn:=by first|rfl|assumption|omega|(simp;done)|decide) (hn9:=by first|rfl|assumption|omega|(simp;done)|decide)) (.c (j:=0) rfl .n)<|e_p (zc rfl)<|zg<|zd<|ze<|za<|e_mv rfl<|e_p (zqb rfl rfl)<|zg<|zd<|zH rfl (fun h13=> ?_) (fun h13=> ?_)
 ·
  refine ze<|za<|e_p (zJ zr34 rfl ya (.c sz32 (.c sz32 .n)) .n .n)<|e_mv rfl<|zi 1 rfl rfl rfl rfl rfl sz34 rfl (.t8 .nil) (.s .z)<|e_p (zc rfl)<|zg<|zd<|zD<|zl<|zjb (qF false wz wz 0) (fun g _=>qF_none g) ?_
  exact zDa Tryz.results22 (wz,wz,wz,wz) (fun _=>⟨rfl,rfl,rfl,rfl⟩) (zp 1 ty34 rfl rfl (.t8 .nil)) (zo rfl) (by rfl) (ho:=oN) ((.e (j:=0) rfl (by rw [if_neg h13,decide_eq_false h13]) (.e (j:=0) rfl (by rw [if_neg h13,decide_eq_false h13]) .n)):SelR _ _ _)
 ·
  have hz:Cam.pc e [(xo,yo)]=0:=Decidable.not_not.1 h13
  obtain ⟨hok,hx1,hy1⟩:=Cam.pc_0 hz
  have hx1:xo.isSome=true:=hx1
  have hy1:yo.isSome=true:=hy1
  refine zBb (qF xo.isSome u1 u2 (xo.getD 0)) (eF_weak 1 rfl)<|zBb (qF yo.isSome v1 v2 (yo.getD 0)) (eF_weak 3 rfl) ?_
  have e5:xo.isSome=true:=by exact hx1
  rw [e5]
  have e6:yo.isSome=true:=by exact hy1
  rw [e6]
  obtain ⟨⟨hof,hofd,hocx,hocy⟩,ho2,ho3⟩:=id hok
  have hs1:=Big.hq_sub (xo.getD 0) (e.cx:Rat)
  have hs2:=Big.hq_sub (yo.getD 0) (e.cy:Rat)
  have hdf:=Cam.dq (n:=1) (d:=e.f) om dd hf1
  refine zA<|zd<|ze<|za<|e_p (zf yb rfl sz3 rfl rfl)<|e_ru (zh 3 ty3 rfl rfl rfl)<|zn rfl rfl (.c rfl (.c rfl .n)) ce47 (zsb (z1:=1) (z2:=e.f) (hz1:=by first|rfl|assumption|omega|(simp;done)|decide) (hz2:=by first|rfl|assumption|omega|(simp;done)|decide) (hy:=by first|rfl|assumption|omega|(simp;done)|decide)) (.n) ?_
  rintro ⟨w37,w48⟩ -
  dsimp only [aq,nq,cq]
  refine zE rfl rfl (zr zr32 rfl) (fun b9=> ?_)
  refine zi 0 rfl rfl rfl rfl rfl sz32 rfl (.t4 .nil) .z<|zg<|zd<|ze<|zpa (.c (i:=2) rfl (.c (i:=0) rfl (.c (i:=0) rfl (.c (i:=0) rfl (.c (i:=0) rfl .n)))))<|zV (OW:=[boxA b3 34 (cw [wz,wz,wz,wz])]) (O:=[boxA b9 32 (cw [w37,w48]),emA,boxA b2 34 (cw [u1,u2,v1,v2]),boxA b1 27 [.int .i64 (e.f),.int .i64 (e.cx),.int .i64 (e.cy),.int .i64 (e.r0),.int .i64 (e.r1),.int .i64 (e.r2),.int .i64 (e.p1),.int .i64 (e.p2),.int .i64 (e.fd)]]) 21 mixed (.then .ret) kr<|e_uw 0 rfl rfl (zb 1 ty32 rfl rfl (.t4 .nil))<|e_pv 1 rfl rfl (zf ya rfl sz32 rfl rfl)<|e_uw 2 rfl rfl (zb 3 ty32 rfl rfl (.t4 .nil))<|e_pv 3 rfl rfl (zf yb rfl sz23 rfl rfl)<|e_pv 4 rfl rfl (zf ye rfl sz3 rfl rfl)<|e_uw 5 rfl rfl (zh 4 ty3 rfl rfl rfl)<|e_uw 10 rfl rfl (zb 1 ty32 rfl rfl (.t4 .nil))<|e_pv 11 rfl rfl (zf ya rfl sz32 rfl rfl)<|e_uw 12 rfl rfl (zb 3 ty32 rfl rfl (.s4 (.t4 .nil)))<|e_pv 13 rfl rfl (zf yb rfl sz23 rfl rfl)<|e_pv 14 rfl rfl (zf ye rfl sz3 rfl rfl)<|e_uw 15 rfl rfl (zh 4 ty3 rfl rfl rfl)<|e_one 6 (zm rfl rfl rfl rfl (.c rfl .n) ce58 (zoa (z:=e.cx) (hz:=by first|rfl|assumption|omega|(simp;done)|decide)) (.n) ?_)
  rintro ⟨w310,w411⟩ -
  dsimp only [aq,nq,cq]
  refine e_one 7 (zm rfl rfl rfl rfl (.c rfl (.c rfl .n)) ce57 (zWe (u1:=u1) (v1:=u2) (q1:=(xo.getD 0)) (u2:=w310) (v2:=w411) (q2:=((e.cx:Int):Rat)) (hl:=by first|rfl|assumption|omega|(simp;done)|decide)) (.c (j:=3) rfl (.c (j:=0) rfl .n)) ?_)
  rintro ⟨w312,w413⟩ -
  dsimp only [aq,nq,cq]
  refine e_one 8 (zJa rfl rfl rfl rfl (zt (r:=rQ) (k:=2) yc inf32 rfl dd dd dd (.c (x:=(Rat.divInt 1 e.f)) (cs:=[w37.b,w37.l,w48.b,w48.l]) (w37,w48) rfl rfl rfl (fun g hr=>Holds.get 2 rfl hr) (.c (x:=((xo.getD 0) - ((e.cx:Int):Rat))) (cs:=[w312.b,w312.l,w413.b,w413.l]) (w312,w413) rfl rfl rfl (fun g hr=>Holds.get 0 rfl hr) .n))) (fun b14 _=> ?_))
  refine zja 0 rfl .z<|e_one 9 (zm rfl rfl rfl rfl (.c rfl .n) ce56 (zza (p:=some ⟨b14,0,none⟩) (n:=2) (cap:=2) (l:=[(Rat.divInt 1 e.f),((xo.getD 0) - ((e.cx:Int):Rat))]) (hn:=by first|rfl|assumption|omega|(simp;done)|decide) (hn9:=by first|rfl|assumption|omega|(simp;done)|decide) (hl:=by exact Cam.hqA_cons om (Cam.hqA_cons om (Cam.hqA_nil dd))) (hn1:=by first|rfl|assumption|omega|(simp;done)|decide)) (.c (j:=0) rfl .n) ?_)
  rintro ⟨w315,w416⟩ -
  dsimp only [aq,nq,cq]
  refine e_one 16 (zm rfl rfl rfl rfl (.c rfl .n) ce58 (zoa (z:=e.cy) (hz:=by first|rfl|assumption|omega|(simp;done)|decide)) (.n) ?_)
  rintro ⟨w317,w418⟩ -
  dsimp only [aq,nq,cq]
  refine e_one 17 (zm rfl rfl rfl rfl (.c rfl (.c rfl .n)) ce57 (zWe (u1:=v1) (v1:=v2) (q1:=(yo.getD 0)) (u2:=w317) (v2:=w418) (q2:=((e.cy:Int):Rat)) (hl:=by first|rfl|assumption|omega|(simp;done)|decide)) (.c (j:=6) rfl (.c (j:=0) rfl .n)) ?_)
  rintro ⟨w319,w420⟩ -
  dsimp only [aq,nq,cq]
  refine e_one 18 (zJa rfl rfl rfl rfl (zt (r:=rQ) (k:=2) yc inf32 rfl dd dd dd (.c (x:=(Rat.divInt 1 e.f)) (cs:=[w37.b,w37.l,w48.b,w48.l]) (w37,w48) rfl rfl rfl (fun g hr=>Holds.get 6 rfl hr) (.c (x:=((yo.getD 0) - ((e.cy:Int):Rat))) (cs:=[w319.b,w319.l,w420.b,w420.l]) (w319,w420) rfl rfl rfl (fun g hr=>Holds.get 0 rfl hr) .n))) (fun b21 _=> ?_))
  refine zja 0 rfl .z<|e_one 19 (zm rfl rfl rfl rfl (.c rfl .n) ce56 (zza (p:=some ⟨b21,0,none⟩) (n:=2) (cap:=2) (l:=[(Rat.divInt 1 e.f),((yo.getD 0) - ((e.cy:Int):Rat))]) (hn:=by first|rfl|assumption|omega|(simp;done)|decide) (hn9:=by first|rfl|assumption|omega|(simp;done)|decide) (hl:=by exact Cam.hqA_cons om (Cam.hqA_cons om (Cam.hqA_nil dd))) (hn1:=by first|rfl|assumption|omega|(simp;done)|decide)) (.c (j:=0) rfl .n) ?_)
  rintro ⟨w322,w423⟩ -
  dsimp only [aq,nq,cq]
  refine e_pv 20 rfl rfl (zJ zr34 rfl ya (.c sz32 (.c sz32 .n)) (.c rfl (.c rfl .n)) (.c rfl rfl rfl (.t4 .nil) (.c rfl rfl rfl (.s4 (.t4 .nil)) .n)))<|e_one 21 (zw kr rfl rfl rfl rfl rfl sz34 rfl (.t8 .nil) ?_)
  refine e_pv 22 rfl rfl (zc rfl)<|zI kr<|zd<|zD ?_
  exact zDa Tryz.results22 (w315,w416,w322,w423) (fun k=>absurd hz k) (zp 0 ty34 rfl rfl (.t8 .nil)) (zo rfl) (by rw [hz]) (ho:=oN) ((.e (j:=4) rfl (by rw [if_pos hz,decide_eq_true hz,←Cam.nrm_mul]) (.e (j:=0) rfl (by rw [if_pos hz,decide_eq_true hz,←Cam.nrm_mul]) .n)):SelR _ _ _)
theorem zFd {e:Cam.Ln} {u1:Wd} {u2:Wd} {v1:Wd} {v2:Wd} {xo:Option Rat} {yo:Option Rat} (hin:Cam.In e) (hx:yf (xo.getD 0)≤1000) (hy:yf (yo.getD 0)≤1000):Con Tryz.prog 23 [.agg #[.int .i64 (e.f),.int .i64 (e.cx),.int .i64 (e.cy),.int .i64 (e.r0),.int .i64 (e.r1),.int .i64 (e.r2),.int .i64 (e.p1),.int .i64 (e.p2),.int .i64 (e.fd)],.agg #[u1.b,u1.l,u2.b,u2.l,v1.b,v1.l,v2.b,v2.l]] [] [eF u1 u2 xo,eF v1 v2 yo] (Y:=Wd×Wd×Wd×Wd) (fun y=>(¬(Cam.pc e [(xo,yo)]=0)→y.1=wz∧y.2.1=wz∧y.2.2.1=wz∧y.2.2.2=wz)) (fun y=> .tuple #[.agg #[y.1.b,y.1.l,y.2.1.b,y.2.1.l,y.2.2.1.b,y.2.2.1.l,y.2.2.2.b,y.2.2.2.l],.int .i64 (Cam.pc e [(xo,yo)])]) (fun y=>[]) (fun y=>[qF (decide (Cam.pc e [(xo,yo)]=0)) y.1 y.2.1 (if (Cam.pc e [(xo,yo)]=0) then (Cam.pix e.f e.cx (xo.getD 0)) else 0),qF (decide (Cam.pc e [(xo,yo)]=0)) y.2.2.1 y.2.2.2 (if (Cam.pc e [(xo,yo)]=0) then (Cam.pix e.f e.cy (yo.getD 0)) else 0)]):=by
 refine zk Tryz.func23 rfl rfl rfl (fun c=> ?_)
 show RunC _ _ _ _ _ [(0,.agg #[.int .i64 (e.f),.int .i64 (e.cx),.int .i64 (e.cy),.int .i64 (e.r0),.int .i64 (e.r1),.int .i64 (e.r2),.int .i64 (e.p1),.int .i64 (e.p2),.int .i64 (e.fd)]),(1,.agg #[u1.b,u1.l,u2.b,u2.l,v1.b,v1.l,v2.b,v2.l])] [] [eF u1 u2 xo,eF v1 v2 yo]
 obtain ⟨hf1,hcx1,hcy1,hr01,hr11,hr21,hp11,hp21,hfd1⟩:=id hin
 have hiq1:=Cam.iq (n:=e.f) hf1
 have hiq2:=Cam.iq (n:=e.cx) hcx1
 have hiq3:=Cam.iq (n:=e.cy) hcy1
 refine ze<|za<|zE rfl rfl (zM rfl rfl) (fun b1=> ?_)
 refine zE rfl rfl (zM rfl rfl) (fun b2=> ?_)
 refine zE rfl rfl (zr zr34 rfl) (fun b3=> ?_)
 refine e_p (zc rfl)<|zg<|zd<|ze<|ze<|za<|e_ru (zb 2 ty27 rfl rfl (.t8 (.take .nil)))<|e_ru (zb 1 ty34 rfl rfl (.t8 .nil))<|zva rfl rfl (zt (r:=rEE) (k:=1) yd inf34 rfl dd dd dd (.c (x:=(xo,yo)) (cs:=[u1.b,u1.l,u2.b,u2.l,v1.b,v1.l,v2.b,v2.l]) (u1,u2,v1,v2) rfl rfl rfl (fun g hr=>⟨Holds.get 0 rfl hr,Holds.get 1 rfl hr⟩) .n)) (fun b4 _=> ?_)
 refine zba 0 rfl .z<|zK rfl rfl (.c rfl (.c rfl .n)) ce32 (zRb (e:=e) (p:=some ⟨b4,0,none⟩) (n:=1) (cap:=1) (l:=[(xo,yo)]) (hin:=ass) (hn:=by first|rfl|assumption|omega|(simp;done)|decide) (hn9:=by first|rfl|assumption|omega|(simp;done)|decide)) (.c (j:=0) rfl .n)<|e_p (zc rfl)<|zg<|zd<|ze<|za<|e_mv rfl<|e_p (zqb rfl rfl)<|zg<|zd<|zH rfl (fun h13=> ?_) (fun h13=> ?_)
 ·
  refine ze<|za<|e_p (zJ zr34 rfl ya (.c sz32 (.c sz32 .n)) .n .n)<|e_mv rfl<|zi 1 rfl rfl rfl rfl rfl sz34 rfl (.t8 .nil) (.s .z)<|e_p (zc rfl)<|zg<|zd<|zD<|zl<|zjb (qF false wz wz 0) (fun g _=>qF_none g) ?_
  exact zDa Tryz.results23 (wz,wz,wz,wz) (fun _=>⟨rfl,rfl,rfl,rfl⟩) (zp 1 ty34 rfl rfl (.t8 .nil)) (zo rfl) (by rfl) (ho:=oN) ((.e (j:=0) rfl (by rw [if_neg h13,decide_eq_false h13]) (.e (j:=0) rfl (by rw [if_neg h13,decide_eq_false h13]) .n)):SelR _ _ _)
 ·
  have hz:Cam.pc e [(xo,yo)]=0:=Decidable.not_not.1 h13
  obtain ⟨hok,hx1,hy1⟩:=Cam.pc_0 hz
  have hx1:xo.isSome=true:=hx1
  have hy1:yo.isSome=true:=hy1
  refine zBb (qF xo.isSome u1 u2 (xo.getD 0)) (eF_weak 1 rfl)<|zBb (qF yo.isSome v1 v2 (yo.getD 0)) (eF_weak 3 rfl) ?_
  have e5:xo.isSome=true:=by exact hx1
  rw [e5]
  have e6:yo.isSome=true:=by exact hy1
  rw [e6]
  obtain ⟨⟨hof,hofd,hocx,hocy⟩,ho2,ho3⟩:=id hok
  have hs1:=Big.hq_mul (e.f:Rat) (xo.getD 0)
  have hs2:=Big.hq_mul (e.f:Rat) (yo.getD 0)
  refine zA<|zd<|ze<|za<|e_p (zf yb rfl sz3 rfl rfl)<|e_ru (zh 3 ty3 rfl rfl rfl)<|zn rfl rfl (.c rfl .n) ce58 (zoa (z:=e.f) (hz:=by first|rfl|assumption|omega|(simp;done)|decide)) (.n) ?_
  rintro ⟨w37,w48⟩ -
  dsimp only [aq,nq,cq]
  refine zE rfl rfl (zr zr32 rfl) (fun b9=> ?_)
  refine zi 0 rfl rfl rfl rfl rfl sz32 rfl (.t4 .nil) .z<|zg<|zd<|ze<|zpa (.c (i:=2) rfl (.c (i:=0) rfl (.c (i:=0) rfl (.c (i:=0) rfl (.c (i:=0) rfl .n)))))<|zV (OW:=[boxA b3 34 (cw [wz,wz,wz,wz])]) (O:=[boxA b9 32 (cw [w37,w48]),emA,boxA b2 34 (cw [u1,u2,v1,v2]),boxA b1 27 [.int .i64 (e.f),.int .i64 (e.cx),.int .i64 (e.cy),.int .i64 (e.r0),.int .i64 (e.r1),.int .i64 (e.r2),.int .i64 (e.p1),.int .i64 (e.p2),.int .i64 (e.fd)]]) 23 mixed (.then .ret) kr<|e_uw 0 rfl rfl (zb 1 ty32 rfl rfl (.t4 .nil))<|e_pv 1 rfl rfl (zf ya rfl sz32 rfl rfl)<|e_uw 2 rfl rfl (zb 3 ty32 rfl rfl (.t4 .nil))<|e_pv 5 rfl rfl (zf yb rfl sz23 rfl rfl)<|e_pv 6 rfl rfl (zf ye rfl sz3 rfl rfl)<|e_uw 7 rfl rfl (zh 4 ty3 rfl rfl rfl)<|e_uw 11 rfl rfl (zb 1 ty32 rfl rfl (.t4 .nil))<|e_pv 12 rfl rfl (zf ya rfl sz32 rfl rfl)<|e_uw 13 rfl rfl (zb 3 ty32 rfl rfl (.s4 (.t4 .nil)))<|e_pv 16 rfl rfl (zf yb rfl sz23 rfl rfl)<|e_pv 17 rfl rfl (zf ye rfl sz3 rfl rfl)<|e_uw 18 rfl rfl (zh 4 ty3 rfl rfl rfl)<|zW (m':=[(37,.int .i64 (e.cy)),(32,.agg (cw [v1,v2]).toArray),(30,.agg (cw [w37,w48]).toArray),(26,.int .i64 (e.cx)),(21,.agg (cw [u1,u2]).toArray),(19,.agg (cw [w37,w48]).toArray),(5,.int .i64 0),(4,.pointer (some ⟨b3,0,none⟩))]) (R':=[qF true w37 w48 ((e.f:Int):Rat),qF true v1 v2 (yo.getD 0),qF true u1 u2 (xo.getD 0),slF rEE (some ⟨b4,0,none⟩) 1 ([(xo,yo)]),eF u1 u2 xo,eF v1 v2 yo]) (mR rfl) (List.Perm.refl _) (List.Perm.refl _) ((.of [0,1,2,3,4,5] rfl):SelR _ _ _)<|a_start<|a_step 3 rfl (X:=Nat) (fun x=> .slice (some ⟨x,0,none⟩) 2 2) (fun x=>[]) (fun x=>[slF rQ (some ⟨x,0,none⟩) 2 ([((e.f:Int):Rat),(xo.getD 0)])]) [] kr rfl kr kr kr (fun _=> ?_) ?_
  ·
   refine zW (m':=[(21,.agg (cw [u1,u2]).toArray),(19,.agg (cw [w37,w48]).toArray)]) (R':=[qF true w37 w48 ((e.f:Int):Rat),qF true u1 u2 (xo.getD 0),eF u1 u2 xo]) ((.c rfl (.c rfl .n)):SubM _ _) (List.Perm.refl _) (List.Perm.refl _) ((.of [0,2,4] rfl):SelR _ _ _)<|e_one 0 (zJa rfl rfl rfl rfl (zt (r:=rQ) (k:=2) yc inf32 rfl dd dd dd (.c (x:=((e.f:Int):Rat)) (cs:=[w37.b,w37.l,w48.b,w48.l]) (w37,w48) rfl rfl rfl (fun g hr=>Holds.get 0 rfl hr) (.c (x:=(xo.getD 0)) (cs:=[u1.b,u1.l,u2.b,u2.l]) (u1,u2) rfl rfl rfl (fun g hr=>Holds.get 1 rfl hr) .n))) (fun u3_1 _=> ?_))
   refine zja 0 rfl .z<|zI kr ?_
   exact zS u3_1 trivial ((.c rfl .n):SubM _ _) (ho:=oN) (s0 rfl)
  refine a_step 4 rfl (X:=Wd×Wd) (fun x=> .agg #[x.1.b,x.1.l,x.2.b,x.2.l]) (fun x=>[]) (fun x=>[qF true x.1 x.2 (Cam.mulL ([((e.f:Int):Rat),(xo.getD 0)]))]) [0] kr rfl kr kr kr (fun _=> ?_) ?_
  ·
   rintro g3_0
   refine zW (m':=[(22,.slice (some ⟨g3_0,0,none⟩) 2 2)]) (R':=[slF rQ (some ⟨g3_0,0,none⟩) 2 ([((e.f:Int):Rat),(xo.getD 0)])]) ((.c rfl .n):SubM _ _) (List.Perm.refl _) (List.Perm.refl _) (s0 rfl)<|e_one 0 (zm rfl rfl rfl rfl (.c rfl .n) ce56 (zza (p:=some ⟨g3_0,0,none⟩) (n:=2) (cap:=2) (l:=[((e.f:Int):Rat),(xo.getD 0)]) (hn:=by first|rfl|assumption|omega|(simp;done)|decide) (hn9:=by first|rfl|assumption|omega|(simp;done)|decide) (hl:=by exact Cam.hqA_cons om (Cam.hqA_cons om (Cam.hqA_nil dd))) (hn1:=by first|rfl|assumption|omega|(simp;done)|decide)) (.c (j:=0) rfl .n) ?_)
   rintro ⟨u4_1,u4_2⟩ -
   dsimp only [aq,nq,cq]
   refine zI kr ?_
   exact zS (u4_1,u4_2) trivial ((.c rfl .n):SubM _ _) (ho:=oN) (s0 rfl)
  refine a_step 8 rfl (X:=Wd×Wd) (fun x=> .agg #[x.1.b,x.1.l,x.2.b,x.2.l]) (fun x=>[]) (fun x=>[qF true x.1 x.2 ((e.cx:Int):Rat)]) [] kr rfl kr kr kr (fun _=> ?_) ?_
  ·
   refine zW (m':=[(26,.int .i64 (e.cx))]) (R':=[]) ((.c rfl .n):SubM _ _) (List.Perm.refl _) (List.Perm.refl _) sN<|e_one 0 (zm rfl rfl rfl rfl (.c rfl .n) ce58 (zoa (z:=e.cx) (hz:=by first|rfl|assumption|omega|(simp;done)|decide)) (.n) ?_)
   rintro ⟨u8_1,u8_2⟩ -
   dsimp only [aq,nq,cq]
   refine zI kr ?_
   exact zS (u8_1,u8_2) trivial ((.c rfl .n):SubM _ _) (ho:=oN) (s0 rfl)
  refine a_step 9 rfl (X:=Nat) (fun x=> .slice (some ⟨x,0,none⟩) 2 2) (fun x=>[]) (fun x=>[slF rQ (some ⟨x,0,none⟩) 2 ([(Cam.mulL ([((e.f:Int):Rat),(xo.getD 0)])),((e.cx:Int):Rat)])]) [0,1] kr rfl kr kr kr (fun _=> ?_) ?_
  ·
   rintro ⟨g8_0,g8_1⟩
   rintro ⟨g4_0,g4_1⟩
   refine zW (m':=[(27,.agg (cw [g8_0,g8_1]).toArray),(23,.agg (cw [g4_0,g4_1]).toArray)]) (R':=[qF true g8_0 g8_1 ((e.cx:Int):Rat),qF true g4_0 g4_1 (Cam.mulL ([((e.f:Int):Rat),(xo.getD 0)]))]) ((.c rfl (.c rfl .n)):SubM _ _) (List.Perm.refl _) (List.Perm.refl _) ((.of [0,1] rfl):SelR _ _ _)<|e_one 0 (zJa rfl rfl rfl rfl (zt (r:=rQ) (k:=2) yc inf32 rfl dd dd dd (.c (x:=(Cam.mulL ([((e.f:Int):Rat),(xo.getD 0)]))) (cs:=[g4_0.b,g4_0.l,g4_1.b,g4_1.l]) (g4_0,g4_1) rfl rfl rfl (fun g hr=>Holds.get 1 rfl hr) (.c (x:=((e.cx:Int):Rat)) (cs:=[g8_0.b,g8_0.l,g8_1.b,g8_1.l]) (g8_0,g8_1) rfl rfl rfl (fun g hr=>Holds.get 0 rfl hr) .n))) (fun u9_1 _=> ?_))
   refine zja 0 rfl .z<|zI kr ?_
   exact zS u9_1 trivial ((.c rfl .n):SubM _ _) (ho:=oN) (s0 rfl)
  refine a_step 10 rfl (X:=Wd×Wd) (fun x=> .agg #[x.1.b,x.1.l,x.2.b,x.2.l]) (fun x=>[]) (fun x=>[qF true x.1 x.2 (Cam.sumL ([(Cam.mulL ([((e.f:Int):Rat),(xo.getD 0)])),((e.cx:Int):Rat)]))]) [0] kr rfl kr kr kr (fun _=> ?_) ?_
  ·
   rintro g9_0
   refine zW (m':=[(28,.slice (some ⟨g9_0,0,none⟩) 2 2)]) (R':=[slF rQ (some ⟨g9_0,0,none⟩) 2 ([(Cam.mulL ([((e.f:Int):Rat),(xo.getD 0)])),((e.cx:Int):Rat)])]) ((.c rfl .n):SubM _ _) (List.Perm.refl _) (List.Perm.refl _) (s0 rfl)<|e_one 0 (zm rfl rfl rfl rfl (.c rfl .n) ce59 (zob (p:=some ⟨g9_0,0,none⟩) (n:=2) (cap:=2) (l:=[(Cam.mulL ([((e.f:Int):Rat),(xo.getD 0)])),((e.cx:Int):Rat)]) (hn:=by first|rfl|assumption|omega|(simp;done)|decide) (hn9:=by first|rfl|assumption|omega|(simp;done)|decide) (hl:=by rw [Cam.mul2];exact Cam.hqA_cons om (Cam.hqA_cons om (Cam.hqA_nil dd)))) (.c (j:=0) rfl .n) ?_)
   rintro ⟨u10_1,u10_2⟩ -
   dsimp only [aq,nq,cq]
   refine zI kr ?_
   exact zS (u10_1,u10_2) trivial ((.c rfl .n):SubM _ _) (ho:=oN) (s0 rfl)
  refine a_step 14 rfl (X:=Nat) (fun x=> .slice (some ⟨x,0,none⟩) 2 2) (fun x=>[]) (fun x=>[slF rQ (some ⟨x,0,none⟩) 2 ([((e.f:Int):Rat),(yo.getD 0)])]) [] kr rfl kr kr kr (fun _=> ?_) ?_
  ·
   refine zW (m':=[(32,.agg (cw [v1,v2]).toArray),(30,.agg (cw [w37,w48]).toArray)]) (R':=[qF true w37 w48 ((e.f:Int):Rat),qF true v1 v2 (yo.getD 0),eF v1 v2 yo]) ((.c rfl (.c rfl .n)):SubM _ _) (List.Perm.refl _) (List.Perm.refl _) ((.of [0,1,5] rfl):SelR _ _ _)<|e_one 0 (zJa rfl rfl rfl rfl (zt (r:=rQ) (k:=2) yc inf32 rfl dd dd dd (.c (x:=((e.f:Int):Rat)) (cs:=[w37.b,w37.l,w48.b,w48.l]) (w37,w48) rfl rfl rfl (fun g hr=>Holds.get 0 rfl hr) (.c (x:=(yo.getD 0)) (cs:=[v1.b,v1.l,v2.b,v2.l]) (v1,v2) rfl rfl rfl (fun g hr=>Holds.get 1 rfl hr) .n))) (fun u14_1 _=> ?_))
   refine zja 0 rfl .z<|zI kr ?_
   exact zS u14_1 trivial ((.c rfl .n):SubM _ _) (ho:=oN) (s0 rfl)
  refine a_step 15 rfl (X:=Wd×Wd) (fun x=> .agg #[x.1.b,x.1.l,x.2.b,x.2.l]) (fun x=>[]) (fun x=>[qF true x.1 x.2 (Cam.mulL ([((e.f:Int):Rat),(yo.getD 0)]))]) [0] kr rfl kr kr kr (fun _=> ?_) ?_
  ·
   rintro g14_0
   refine zW (m':=[(33,.slice (some ⟨g14_0,0,none⟩) 2 2)]) (R':=[slF rQ (some ⟨g14_0,0,none⟩) 2 ([((e.f:Int):Rat),(yo.getD 0)])]) ((.c rfl .n):SubM _ _) (List.Perm.refl _) (List.Perm.refl _) (s0 rfl)<|e_one 0 (zm rfl rfl rfl rfl (.c rfl .n) ce56 (zza (p:=some ⟨g14_0,0,none⟩) (n:=2) (cap:=2) (l:=[((e.f:Int):Rat),(yo.getD 0)]) (hn:=by first|rfl|assumption|omega|(simp;done)|decide) (hn9:=by first|rfl|assumption|omega|(simp;done)|decide) (hl:=by exact Cam.hqA_cons om (Cam.hqA_cons om (Cam.hqA_nil dd))) (hn1:=by first|rfl|assumption|omega|(simp;done)|decide)) (.c (j:=0) rfl .n) ?_)
   rintro ⟨u15_1,u15_2⟩ -
   dsimp only [aq,nq,cq]
   refine zI kr ?_
   exact zS (u15_1,u15_2) trivial ((.c rfl .n):SubM _ _) (ho:=oN) (s0 rfl)
  refine a_step 19 rfl (X:=Wd×Wd) (fun x=> .agg #[x.1.b,x.1.l,x.2.b,x.2.l]) (fun x=>[]) (fun x=>[qF true x.1 x.2 ((e.cy:Int):Rat)]) [] kr rfl kr kr kr (fun _=> ?_) ?_
  ·
   refine zW (m':=[(37,.int .i64 (e.cy))]) (R':=[]) ((.c rfl .n):SubM _ _) (List.Perm.refl _) (List.Perm.refl _) sN<|e_one 0 (zm rfl rfl rfl rfl (.c rfl .n) ce58 (zoa (z:=e.cy) (hz:=by first|rfl|assumption|omega|(simp;done)|decide)) (.n) ?_)
   rintro ⟨u19_1,u19_2⟩ -
   dsimp only [aq,nq,cq]
   refine zI kr ?_
   exact zS (u19_1,u19_2) trivial ((.c rfl .n):SubM _ _) (ho:=oN) (s0 rfl)
  refine a_step 20 rfl (X:=Nat) (fun x=> .slice (some ⟨x,0,none⟩) 2 2) (fun x=>[]) (fun x=>[slF rQ (some ⟨x,0,none⟩) 2 ([(Cam.mulL ([((e.f:Int):Rat),(yo.getD 0)])),((e.cy:Int):Rat)])]) [0,1] kr rfl kr kr kr (fun _=> ?_) ?_
  ·
   rintro ⟨g19_0,g19_1⟩
   rintro ⟨g15_0,g15_1⟩
   refine zW (m':=[(38,.agg (cw [g19_0,g19_1]).toArray),(34,.agg (cw [g15_0,g15_1]).toArray)]) (R':=[qF true g19_0 g19_1 ((e.cy:Int):Rat),qF true g15_0 g15_1 (Cam.mulL ([((e.f:Int):Rat),(yo.getD 0)]))]) ((.c rfl (.c rfl .n)):SubM _ _) (List.Perm.refl _) (List.Perm.refl _) ((.of [0,1] rfl):SelR _ _ _)<|e_one 0 (zJa rfl rfl rfl rfl (zt (r:=rQ) (k:=2) yc inf32 rfl dd dd dd (.c (x:=(Cam.mulL ([((e.f:Int):Rat),(yo.getD 0)]))) (cs:=[g15_0.b,g15_0.l,g15_1.b,g15_1.l]) (g15_0,g15_1) rfl rfl rfl (fun g hr=>Holds.get 1 rfl hr) (.c (x:=((e.cy:Int):Rat)) (cs:=[g19_0.b,g19_0.l,g19_1.b,g19_1.l]) (g19_0,g19_1) rfl rfl rfl (fun g hr=>Holds.get 0 rfl hr) .n))) (fun u20_1 _=> ?_))
   refine zja 0 rfl .z<|zI kr ?_
   exact zS u20_1 trivial ((.c rfl .n):SubM _ _) (ho:=oN) (s0 rfl)
  refine a_step 21 rfl (X:=Wd×Wd) (fun x=> .agg #[x.1.b,x.1.l,x.2.b,x.2.l]) (fun x=>[]) (fun x=>[qF true x.1 x.2 (Cam.sumL ([(Cam.mulL ([((e.f:Int):Rat),(yo.getD 0)])),((e.cy:Int):Rat)]))]) [0] kr rfl kr kr kr (fun _=> ?_) ?_
  ·
   rintro g20_0
   refine zW (m':=[(39,.slice (some ⟨g20_0,0,none⟩) 2 2)]) (R':=[slF rQ (some ⟨g20_0,0,none⟩) 2 ([(Cam.mulL ([((e.f:Int):Rat),(yo.getD 0)])),((e.cy:Int):Rat)])]) ((.c rfl .n):SubM _ _) (List.Perm.refl _) (List.Perm.refl _) (s0 rfl)<|e_one 0 (zm rfl rfl rfl rfl (.c rfl .n) ce59 (zob (p:=some ⟨g20_0,0,none⟩) (n:=2) (cap:=2) (l:=[(Cam.mulL ([((e.f:Int):Rat),(yo.getD 0)])),((e.cy:Int):Rat)]) (hn:=by first|rfl|assumption|omega|(simp;done)|decide) (hn9:=by first|rfl|assumption|omega|(simp;done)|decide) (hl:=by rw [Cam.mul2];exact Cam.hqA_cons om (Cam.hqA_cons om (Cam.hqA_nil dd)))) (.c (j:=0) rfl .n) ?_)
   rintro ⟨u21_1,u21_2⟩ -
   dsimp only [aq,nq,cq]
   refine zI kr ?_
   exact zS (u21_1,u21_2) trivial ((.c rfl .n):SubM _ _) (ho:=oN) (s0 rfl)
  refine a_step 22 rfl (X:=Wd×Wd×Wd×Wd) (fun x=> .agg #[x.2.2.1.b,x.2.2.1.l,x.2.2.2.b,x.2.2.2.l,x.1.b,x.1.l,x.2.1.b,x.2.1.l]) (fun x=>[]) (fun x=>[qF true x.1 x.2.1 (Cam.sumL ([(Cam.mulL ([((e.f:Int):Rat),(yo.getD 0)])),((e.cy:Int):Rat)])),qF true x.2.2.1 x.2.2.2 (Cam.sumL ([(Cam.mulL ([((e.f:Int):Rat),(xo.getD 0)])),((e.cx:Int):Rat)]))]) [0,5] kr rfl kr kr kr (fun _=> ?_) ?_
  ·
   rintro ⟨g21_0,g21_1⟩
   rintro ⟨g10_0,g10_1⟩
   refine zW (m':=[(40,.agg (cw [g21_0,g21_1]).toArray),(29,.agg (cw [g10_0,g10_1]).toArray)]) (R':=[qF true g21_0 g21_1 (Cam.sumL ([(Cam.mulL ([((e.f:Int):Rat),(yo.getD 0)])),((e.cy:Int):Rat)])),qF true g10_0 g10_1 (Cam.sumL ([(Cam.mulL ([((e.f:Int):Rat),(xo.getD 0)])),((e.cx:Int):Rat)]))]) ((.c rfl (.c rfl .n)):SubM _ _) (List.Perm.refl _) (List.Perm.refl _) ((.of [0,1] rfl):SelR _ _ _)<|e_pv 0 rfl rfl (zJ zr34 rfl ya (.c sz32 (.c sz32 .n)) (.c rfl (.c rfl .n)) (.c rfl rfl rfl (.t4 .nil) (.c rfl rfl rfl (.s4 (.t4 .nil)) .n)))<|zI kr ?_
   exact zS (g21_0,g21_1,g10_0,g10_1) trivial ((.c rfl .n):SubM _ _) (ho:=oN) ((.of [0,1] rfl):SelR _ _ _)
  refine a_fin (k':=2) (L':=(lb 25 8388607)) kr kr kr kr kr kr kr ?_
  rintro ⟨g22_0,g22_1,g22_2,g22_3⟩ _ _ _ _ _ _ _ _ _ _
  refine zW (m':=[(41,.agg (cw [g22_2,g22_3,g22_0,g22_1]).toArray),(37,.int .i64 (e.cy)),(32,.agg (cw [v1,v2]).toArray),(30,.agg (cw [w37,w48]).toArray),(26,.int .i64 (e.cx)),(21,.agg (cw [u1,u2]).toArray),(19,.agg (cw [w37,w48]).toArray),(5,.int .i64 0),(4,.pointer (some ⟨b3,0,none⟩))]) (OW':=[boxA b3 34 (cw [wz,wz,wz,wz])]) (R':=[qF true g22_0 g22_1 (Cam.sumL ([(Cam.mulL ([((e.f:Int):Rat),(yo.getD 0)])),((e.cy:Int):Rat)])),qF true g22_2 g22_3 (Cam.sumL ([(Cam.mulL ([((e.f:Int):Rat),(xo.getD 0)])),((e.cx:Int):Rat)])),qF true w37 w48 ((e.f:Int):Rat),qF true v1 v2 (yo.getD 0),qF true u1 u2 (xo.getD 0),slF rEE (some ⟨b4,0,none⟩) 1 ([(xo,yo)]),eF u1 u2 xo,eF v1 v2 yo]) (mR rfl) (List.Perm.refl _) (List.Perm.refl _) ((.of [0,1,12,13,14,15,16,17] rfl):SelR _ _ _)<|e_one 23 (zw kr rfl rfl rfl rfl rfl sz34 rfl (.t8 .nil) ?_)
  refine e_pv 24 rfl rfl (zc rfl)<|zI kr<|zd<|zD ?_
  exact zDa Tryz.results23 (g22_2,g22_3,g22_0,g22_1) (fun k=>absurd hz k) (zp 0 ty34 rfl rfl (.t8 .nil)) (zo rfl) (by rw [hz]) (ho:=oN) ((.e (j:=1) rfl (by rw [if_pos hz,decide_eq_true hz,←Cam.pix_sum]) (.e (j:=0) rfl (by rw [if_pos hz,decide_eq_true hz,←Cam.pix_sum]) .n)):SelR _ _ _)
end Go.Proofs.YtahiajepeodhoaaGreat.Sp
namespace Go.Proofs.YtahiajepeodhoaaGreat.Sp
open Go
set_option linter.unusedVariables false
set_option maxRecDepth 100000
set_option maxHeartbeats 8000000
theorem zsd {e:Cam.Ln} {u1:Wd} {u2:Wd} {v1:Wd} {v2:Wd} {xo:Option Rat} {yo:Option Rat} (hin:Cam.In e):Con Tryz.prog 5 [.agg #[.int .i64 (e.f),.int .i64 (e.cx),.int .i64 (e.cy),.int .i64 (e.r0),.int .i64 (e.r1),.int .i64 (e.r2),.int .i64 (e.p1),.int .i64 (e.p2),.int .i64 (e.fd)],.agg #[u1.b,u1.l,u2.b,u2.l,v1.b,v1.l,v2.b,v2.l]] [] [eF u1 u2 xo,eF v1 v2 yo] (Y:=Unit) (fun y=>True) (fun y=> .bool true) (fun y=>[]) (fun y=>[]):=by
 refine zk Tryz.func5 rfl rfl rfl (fun c=> ?_)
 show RunC _ _ _ _ _ [(0,.agg #[.int .i64 (e.f),.int .i64 (e.cx),.int .i64 (e.cy),.int .i64 (e.r0),.int .i64 (e.r1),.int .i64 (e.r2),.int .i64 (e.p1),.int .i64 (e.p2),.int .i64 (e.fd)]),(1,.agg #[u1.b,u1.l,u2.b,u2.l,v1.b,v1.l,v2.b,v2.l])] [] [eF u1 u2 xo,eF v1 v2 yo]
 obtain ⟨hf1,hcx1,hcy1,hr01,hr11,hr21,hp11,hp21,hfd1⟩:=id hin
 refine ze<|za<|zE rfl rfl (zM rfl rfl) (fun b1=> ?_)
 refine zE rfl rfl (zM rfl rfl) (fun b2=> ?_)
 refine e_p (zc rfl)<|zg<|zd<|ze<|ze<|za<|zK rfl rfl (.n) ce6 (zcg) (.n)<|e_p (zeb rfl)<|zg<|zd<|zhb rfl rfl<|zA<|zd<|ze<|ze<|za<|e_ru (zb 0 ty34 rfl rfl (.t8 .nil))<|zva rfl rfl (zt (r:=rEE) (k:=1) yd inf34 rfl dd dd dd (.c (x:=(xo,yo)) (cs:=[u1.b,u1.l,u2.b,u2.l,v1.b,v1.l,v2.b,v2.l]) (u1,u2,v1,v2) rfl rfl rfl (fun g hr=>⟨Holds.get 0 rfl hr,Holds.get 1 rfl hr⟩) .n)) (fun b3 _=> ?_)
 refine zba 0 rfl .z<|zn rfl rfl (.c rfl .n) ce7 (zqf (p:=some ⟨b3,0,none⟩) (n:=1) (cap:=1) (l:=[(xo,yo)]) (hn:=by first|rfl|assumption|omega|(simp;done)|decide) (hn9:=by first|rfl|assumption|omega|(simp;done)|decide)) (.c (j:=0) rfl .n) ?_
 rintro b94 hsh
 dsimp only [aq,nq,cq]
 replace hsh:(b94=true→∀i,i<1→(yf ((([(xo,yo)]).getD i ((none:Option Rat),(none:Option Rat))).1.getD 0)≤100∧yf ((([(xo,yo)]).getD i ((none:Option Rat),(none:Option Rat))).2.getD 0)≤100)):=hsh
 refine e_p (zeb rfl)<|zg<|zd<|zZa rfl (fun h13=> ?_) (fun h13=> ?_)
 ·
  refine ze<|za<|e_p (zc rfl)<|zg<|zd<|zD<|zl ?_
  exact zv Tryz.results5 () trivial (zo rfl) rfl (ho:=oN) sN
 ·
  obtain ⟨hx,hy⟩:=hsh (by simpa using h13) 0 dd
  have hx:yf (xo.getD 0)≤100:=hx
  have hy:yf (yo.getD 0)≤100:=hy
  refine zA<|zd<|ze<|za<|e_ru (zb 2 ty27 rfl rfl (.t8 (.take .nil)))<|e_ru (zb 1 ty34 rfl rfl (.t8 .nil))<|zn rfl rfl (.c rfl (.c rfl .n)) ce22 (zHe (e:=e) (u1:=u1) (u2:=u2) (v1:=v1) (v2:=v2) (xo:=xo) (yo:=yo) (hin:=ass) (hx:=by first|rfl|assumption|omega|(simp;done)|decide) (hy:=by first|rfl|assumption|omega|(simp;done)|decide)) (.c (j:=1) rfl (.c (j:=2) rfl .n)) ?_
  rintro ⟨w35,w46,w57,w68⟩ hda
  dsimp only [aq,nq,cq]
  replace hda:(¬(Cam.pc e [(xo,yo)]=0)→w35=wz∧w46=wz∧w57=wz∧w68=wz):=hda
  refine e_mv rfl<|e_p (zq rfl rfl)<|e_p (zq rfl rfl)<|zE rfl rfl (zr zr34 rfl) (fun b9=> ?_)
  refine zi 0 rfl rfl rfl rfl rfl sz34 rfl (.t8 .nil) .z<|e_p (zc rfl)<|zg<|zd<|ze<|za<|e_ru (zb 3 ty27 rfl rfl (.t8 (.take .nil)))<|e_ru (zb 2 ty34 rfl rfl (.t8 .nil))<|zn rfl rfl (.c rfl (.c rfl .n)) ce23 (zFd (e:=e) (u1:=u1) (u2:=u2) (v1:=v1) (v2:=v2) (xo:=xo) (yo:=yo) (hin:=ass) (hx:=by first|rfl|assumption|omega|(simp;done)|decide) (hy:=by first|rfl|assumption|omega|(simp;done)|decide)) (.c (j:=3) rfl (.c (j:=4) rfl .n)) ?_
  rintro ⟨w310,w411,w512,w613⟩ hdb
  dsimp only [aq,nq,cq]
  replace hdb:(¬(Cam.pc e [(xo,yo)]=0)→w310=wz∧w411=wz∧w512=wz∧w613=wz):=hdb
  refine e_mv rfl<|e_p (zq rfl rfl)<|e_p (zq rfl rfl)<|zE rfl rfl (zr zr34 rfl) (fun b14=> ?_)
  refine zi 0 rfl rfl rfl rfl rfl sz34 rfl (.t8 .nil) .z<|e_p (zc rfl)<|zg<|zd<|ze<|ze<|zV (OW:=[]) (O:=[boxA b14 34 (cw [w310,w411,w512,w613]),boxA b9 34 (cw [w35,w46,w57,w68]),emA,boxA b2 34 (cw [u1,u2,v1,v2]),boxA b1 27 [.int .i64 (e.f),.int .i64 (e.cx),.int .i64 (e.cy),.int .i64 (e.r0),.int .i64 (e.r1),.int .i64 (e.r2),.int .i64 (e.p1),.int .i64 (e.p2),.int .i64 (e.fd)]]) 100000 mixed (.then (.then .ret)) kr<|e_u 0 rfl rfl (zb 4 ty27 rfl rfl (.t8 (.take .nil)))<|e_u 2 rfl rfl (zb 4 ty27 rfl rfl (.t8 (.take .nil)))<|e_one 1 (zGa rfl rfl rfl rfl (.c rfl .n) ce24 (zbc (e:=e) (hin:=ass)) (.n) ?_)
  refine e_one 3 (zGa rfl rfl rfl rfl (.c rfl .n) ce25 (zhd (e:=e) (hin:=ass)) (.n) ?_)
  refine e_pv 4 rfl rfl (zqb rfl rfl)<|zI kr<|zd<|zH rfl (fun h34=> ?_) (fun h34=> ?_)
  ·
   exact absurd rfl h34
  ·
   refine zA<|zd<|ze<|ze<|za<|e_ru (zb 4 ty27 rfl rfl (.t8 (.take .nil)))<|e_ru (zb 3 ty34 rfl rfl (.t8 .nil))<|zva rfl rfl (zt (r:=rEE) (k:=1) yd inf34 rfl dd dd dd (.c (x:=(xo,yo)) (cs:=[u1.b,u1.l,u2.b,u2.l,v1.b,v1.l,v2.b,v2.l]) (u1,u2,v1,v2) rfl rfl rfl (fun g hr=>⟨Holds.get 5 rfl hr,Holds.get 6 rfl hr⟩) .n)) (fun b15 _=> ?_)
   refine zba 0 rfl .z<|zK rfl rfl (.c rfl (.c rfl .n)) ce9 (zXf (e:=e) (p:=some ⟨b15,0,none⟩) (n:=1) (cap:=1) (l:=[(xo,yo)]) (hin:=ass) (hn:=by first|rfl|assumption|omega|(simp;done)|decide) (hn9:=by first|rfl|assumption|omega|(simp;done)|decide)) (.c (j:=0) rfl .n)<|e_p (zc rfl)<|zg<|zd<|ze<|za<|e_mv rfl<|e_p (zqb rfl rfl)<|zg<|zd<|zH rfl (fun h40=> ?_) (fun h40=> ?_)
   ·
    refine zQa (X:=Unit) (fun x=>True) (fun x=>[(4,.bool true),(8,.int .i64 (Cam.pc e [(xo,yo)])),(7,.pointer (some ⟨b14,0,none⟩)),(6,.int .i64 (Cam.pc e [(xo,yo)])),(5,.pointer (some ⟨b9,0,none⟩)),(3,.pointer (some ⟨b2,0,none⟩)),(2,.pointer (some ⟨b1,0,none⟩))]) (fun x=>[boxA b14 34 (cw [w310,w411,w512,w613]),boxA b9 34 (cw [w35,w46,w57,w68]),boxA b2 34 (cw [u1,u2,v1,v2]),boxA b1 27 [.int .i64 (e.f),.int .i64 (e.cx),.int .i64 (e.cy),.int .i64 (e.r0),.int .i64 (e.r1),.int .i64 (e.r2),.int .i64 (e.p1),.int .i64 (e.p2),.int .i64 (e.fd)]]) (fun x=>[slF rEE (some ⟨b15,0,none⟩) 1 ([(xo,yo)]),qF (decide (Cam.pc e [(xo,yo)]=0)) w310 w411 (if (Cam.pc e [(xo,yo)]=0) then (Cam.pix e.f e.cx (xo.getD 0)) else 0),qF (decide (Cam.pc e [(xo,yo)]=0)) w512 w613 (if (Cam.pc e [(xo,yo)]=0) then (Cam.pix e.f e.cy (yo.getD 0)) else 0),qF (decide (Cam.pc e [(xo,yo)]=0)) w35 w46 (if (Cam.pc e [(xo,yo)]=0) then (Cam.nrm e.f e.cx (xo.getD 0)) else 0),qF (decide (Cam.pc e [(xo,yo)]=0)) w57 w68 (if (Cam.pc e [(xo,yo)]=0) then (Cam.nrm e.f e.cy (yo.getD 0)) else 0),slF rEE (some ⟨b3,0,none⟩) 1 ([(xo,yo)]),eF u1 u2 xo,eF v1 v2 yo]) ?_ ?_
    ·
     refine za<|e_mv rfl<|e_mv rfl<|e_p (zqa rfl rfl) ?_
     rw [show (decide ((Cam.pc e [(xo,yo)])=(Cam.pc e ([(xo,yo)]))))=true from by exact decide_eq_true rfl]
     refine e_mv rfl<|e_mv rfl<|e_mv rfl<|e_p (zqa rfl rfl) ?_
     rw [show (decide ((Cam.pc e [(xo,yo)])=(Cam.pc e ([(xo,yo)]))))=true from by exact decide_eq_true rfl]
     refine e_p (zC rfl rfl)<|e_mv rfl<|e_ru (zb 2 ty34 rfl rfl (.t8 .nil))<|zK rfl rfl (.c rfl .n) ce11 (zle (u1:=w35) (u2:=w46) (v1:=w57) (v2:=w68)) (.n) ?_
     rw [show (decide (Wd.zz w35 w46∧Wd.zz w57 w68))=true from by exact decide_eq_true (by obtain ⟨e1,e2,e3,e4⟩:=hda h40;rw [e1,e2,e3,e4];exact ⟨Wd.zz_wz,Wd.zz_wz⟩)]
     refine e_p (zC rfl rfl)<|e_mv rfl<|e_ru (zb 1 ty34 rfl rfl (.t8 .nil))<|zK rfl rfl (.c rfl .n) ce11 (zle (u1:=w310) (u2:=w411) (v1:=w512) (v2:=w613)) (.n) ?_
     rw [show (decide (Wd.zz w310 w411∧Wd.zz w512 w613))=true from by exact decide_eq_true (by obtain ⟨e1,e2,e3,e4⟩:=hdb h40;rw [e1,e2,e3,e4];exact ⟨Wd.zz_wz,Wd.zz_wz⟩)]
     refine e_p (zC rfl rfl)<|e_mv rfl<|e_ru (zb 5 ty27 rfl rfl (.t8 (.take .nil)))<|e_ru (zb 4 ty34 rfl rfl (.t8 .nil))<|zK rfl rfl (.c rfl (.c rfl .n)) ce26 (zpd (e:=e) (u1:=u1) (u2:=u2) (v1:=v1) (v2:=v2) (xo:=xo) (yo:=yo) (hin:=ass) (hx:=by first|rfl|assumption|omega|(simp;done)|decide) (hy:=by first|rfl|assumption|omega|(simp;done)|decide)) (.c (j:=6) rfl (.c (j:=7) rfl .n)) ?_
     rw [show (decide (Cam.pc e [(xo,yo)]=0∧Cam.ins e (xo.getD 0) (yo.getD 0)))=false from by exact decide_eq_false (fun k=>h40 k.1)]
     refine e_p (zeb rfl)<|e_p (zC rfl rfl)<|e_p (zc rfl)<|zg ?_
     exact zS () tt9 (mR rfl) (ho:=((.of [1,1,2,2] rfl):PickO _ _ _)) ((.of [0,1,2,3,4,5,6,7] rfl):SelR _ _ _)
    ·
     rintro ⟨⟩ -
     try dsimp only [cw]
     refine zD<|zl ?_
     exact zv Tryz.results5 () trivial (zo rfl) rfl (ho:=oN) sN
   ·
    have hz:Cam.pc e [(xo,yo)]=0:=Decidable.not_not.1 h40
    obtain ⟨hok,hx1,hy1⟩:=Cam.pc_0 hz
    have hx1:xo.isSome=true:=hx1
    have hy1:yo.isSome=true:=hy1
    refine zBb (qF xo.isSome u1 u2 (xo.getD 0)) (eF_weak 6 rfl)<|zBb (qF yo.isSome v1 v2 (yo.getD 0)) (eF_weak 8 rfl) ?_
    have e16:xo.isSome=true:=by exact hx1
    rw [e16]
    have e17:yo.isSome=true:=by exact hy1
    rw [e17]
    obtain ⟨⟨hof,hofd,hocx,hocy⟩,ho2,ho3⟩:=id hok
    have e18:(decide (Cam.pc e [(xo,yo)]=0):Bool)=true:=by exact decide_eq_true hz
    rw [e18]
    have e19:(if (Cam.pc e [(xo,yo)]=0) then (Cam.pix e.f e.cx (xo.getD 0)) else 0:Rat)=(Cam.pix e.f e.cx (xo.getD 0)):=by exact if_pos hz
    rw [e19]
    have e20:(if (Cam.pc e [(xo,yo)]=0) then (Cam.pix e.f e.cy (yo.getD 0)) else 0:Rat)=(Cam.pix e.f e.cy (yo.getD 0)):=by exact if_pos hz
    rw [e20]
    have e21:(if (Cam.pc e [(xo,yo)]=0) then (Cam.nrm e.f e.cx (xo.getD 0)) else 0:Rat)=(Cam.nrm e.f e.cx (xo.getD 0)):=by exact if_pos hz
    rw [e21]
    have e22:(if (Cam.pc e [(xo,yo)]=0) then (Cam.nrm e.f e.cy (yo.getD 0)) else 0:Rat)=(Cam.nrm e.f e.cy (yo.getD 0)):=by exact if_pos hz
    rw [e22]
    refine zA<|zd<|ze<|za<|e_ru (zb 5 ty27 rfl rfl (.t8 (.take .nil)))<|e_ru (zb 2 ty34 rfl rfl (.t8 .nil))<|zra (addQe 5 rfl)<|zra (addQe 7 rfl)<|zn rfl rfl (.c rfl (.c rfl .n)) ce23 (zFd (e:=e) (u1:=w35) (u2:=w46) (v1:=w57) (v2:=w68) (xo:=(some (Cam.nrm e.f e.cx (xo.getD 0)))) (yo:=(some (Cam.nrm e.f e.cy (yo.getD 0)))) (hin:=ass) (hx:=by exact Nat.le_trans (Cam.nrm_hq om hx hcx1 hf1) dd) (hy:=by exact Nat.le_trans (Cam.nrm_hq om hy hcy1 hf1) dd)) (.c (j:=1) rfl (.c (j:=0) rfl .n)) ?_
    rintro ⟨w323,w424,w525,w626⟩ hy27
    dsimp only [aq,nq,cq]
    replace hy27:(¬(Cam.pc e [((some (Cam.nrm e.f e.cx (xo.getD 0))),(some (Cam.nrm e.f e.cy (yo.getD 0))))]=0)→w323=wz∧w424=wz∧w525=wz∧w626=wz):=hy27
    refine e_mv rfl<|e_p (zq rfl rfl)<|e_p (zq rfl rfl)<|zE rfl rfl (zr zr34 rfl) (fun b28=> ?_)
    refine zi 0 rfl rfl rfl rfl rfl sz34 rfl (.t8 .nil) .z<|e_p (zc rfl)<|zg<|zd ?_
    have e29:(decide (Cam.pc e [((some (Cam.nrm e.f e.cx (xo.getD 0))),(some (Cam.nrm e.f e.cy (yo.getD 0))))]=0):Bool)=true:=by exact decide_eq_true (Cam.pc_some hok)
    rw [e29]
    have e30:(if (Cam.pc e [((some (Cam.nrm e.f e.cx (xo.getD 0))),(some (Cam.nrm e.f e.cy (yo.getD 0))))]=0) then (Cam.pix e.f e.cx ((some (Cam.nrm e.f e.cx (xo.getD 0))).getD 0)) else 0:Rat)=(Cam.pix e.f e.cx ((some (Cam.nrm e.f e.cx (xo.getD 0))).getD 0)):=by exact if_pos (Cam.pc_some hok)
    rw [e30]
    have e31:(if (Cam.pc e [((some (Cam.nrm e.f e.cx (xo.getD 0))),(some (Cam.nrm e.f e.cy (yo.getD 0))))]=0) then (Cam.pix e.f e.cy ((some (Cam.nrm e.f e.cy (yo.getD 0))).getD 0)) else 0:Rat)=(Cam.pix e.f e.cy ((some (Cam.nrm e.f e.cy (yo.getD 0))).getD 0)):=by exact if_pos (Cam.pc_some hok)
    rw [e31]
    refine zQa (X:=Unit) (fun x=>True) (fun x=>[(4,.bool true)]) (fun x=>[boxA b28 34 (cw [w323,w424,w525,w626]),boxA b14 34 (cw [w310,w411,w512,w613]),boxA b9 34 (cw [w35,w46,w57,w68]),boxA b2 34 (cw [u1,u2,v1,v2]),boxA b1 27 [.int .i64 (e.f),.int .i64 (e.cx),.int .i64 (e.cy),.int .i64 (e.r0),.int .i64 (e.r1),.int .i64 (e.r2),.int .i64 (e.p1),.int .i64 (e.p2),.int .i64 (e.fd)]]) (fun x=>[qF true w323 w424 (Cam.pix e.f e.cx ((some (Cam.nrm e.f e.cx (xo.getD 0))).getD 0)),qF true w525 w626 (Cam.pix e.f e.cy ((some (Cam.nrm e.f e.cy (yo.getD 0))).getD 0)),eF w57 w68 (some (Cam.nrm e.f e.cy (yo.getD 0))),eF w35 w46 (some (Cam.nrm e.f e.cx (xo.getD 0))),qF true v1 v2 (yo.getD 0),qF true u1 u2 (xo.getD 0),slF rEE (some ⟨b15,0,none⟩) 1 ([(xo,yo)]),qF true w310 w411 (Cam.pix e.f e.cx (xo.getD 0)),qF true w512 w613 (Cam.pix e.f e.cy (yo.getD 0)),qF true w35 w46 (Cam.nrm e.f e.cx (xo.getD 0)),qF true w57 w68 (Cam.nrm e.f e.cy (yo.getD 0)),slF rEE (some ⟨b3,0,none⟩) 1 ([(xo,yo)]),eF u1 u2 xo,eF v1 v2 yo]) ?_ ?_
    ·
     refine zV (OW:=[]) (O:=[boxA b28 34 (cw [w323,w424,w525,w626]),emA,boxA b14 34 (cw [w310,w411,w512,w613]),boxA b9 34 (cw [w35,w46,w57,w68]),emA,boxA b2 34 (cw [u1,u2,v1,v2]),boxA b1 27 [.int .i64 (e.f),.int .i64 (e.cx),.int .i64 (e.cy),.int .i64 (e.r0),.int .i64 (e.r1),.int .i64 (e.r2),.int .i64 (e.p1),.int .i64 (e.p2),.int .i64 (e.fd)]]) 100000 mixed (.then .ret) kr<|e_dm 0 rfl rfl rfl<|e_pv 1 rfl rfl (zqa rfl rfl) ?_
     rw [show (decide ((Cam.pc e [(xo,yo)])=0))=true from by exact decide_eq_true hz]
     refine e_dm 2 rfl rfl rfl<|e_dm 3 rfl rfl rfl<|e_pv 4 rfl rfl (zqa rfl rfl) ?_
     rw [show (decide ((Cam.pc e [(xo,yo)])=0))=true from by exact decide_eq_true hz]
     refine e_pv 5 rfl rfl (zC rfl rfl)<|e_dm 6 rfl rfl rfl<|e_dm 7 rfl rfl rfl<|e_pv 8 rfl rfl (zqa rfl rfl) ?_
     rw [show (decide ((Cam.pc e [((some (Cam.nrm e.f e.cx (xo.getD 0))),(some (Cam.nrm e.f e.cy (yo.getD 0))))])=0))=true from by exact decide_eq_true (Cam.pc_some hok)]
     refine e_pv 9 rfl rfl (zC rfl rfl)<|e_dm 10 rfl rfl rfl<|e_u 11 rfl rfl (zb 3 ty34 rfl rfl (.t8 .nil))<|e_u 12 rfl rfl (zb 6 ty27 rfl rfl (.t8 (.take .nil)))<|e_u 13 rfl rfl (zb 5 ty34 rfl rfl (.t8 .nil))<|e_one 14 (zm rfl rfl rfl rfl (.c rfl (.c rfl .n)) ce27 (zBe (e:=e) (u1:=u1) (u2:=u2) (v1:=v1) (v2:=v2) (qx:=(xo.getD 0)) (qy:=(yo.getD 0)) (hin:=ass) (hok:=by first|rfl|assumption|omega|(simp;done)|decide) (hx:=by first|rfl|assumption|omega|(simp;done)|decide) (hy:=by first|rfl|assumption|omega|(simp;done)|decide)) (.c (j:=5) rfl (.c (j:=4) rfl .n)) ?_)
     rintro ⟨w332,w433,w534,w635⟩ -
     dsimp only [aq,nq,cq]
     refine e_one 15 (zGa rfl rfl rfl rfl (.c rfl (.c rfl .n)) ce12 (zqd (u1:=w35) (u2:=w46) (v1:=w57) (v2:=w68) (qx:=(Cam.nrm e.f e.cx (xo.getD 0))) (qy:=(Cam.nrm e.f e.cy (yo.getD 0))) (z1:=w332) (z2:=w433) (z3:=w534) (z4:=w635) (rx:=(Cam.nrm e.f e.cx (xo.getD 0))) (ry:=(Cam.nrm e.f e.cy (yo.getD 0))) (hl:=by exact ⟨⟨Nat.le_trans (Cam.nrm_hq om hx hcx1 hf1) dd,Nat.le_trans (Cam.nrm_hq om hy hcy1 hf1) dd⟩,Nat.le_trans (Cam.nrm_hq om hx hcx1 hf1) dd,Nat.le_trans (Cam.nrm_hq om hy hcy1 hf1) dd⟩)) (.c (j:=11) rfl (.c (j:=12) rfl (.c (j:=0) rfl (.c (j:=1) rfl .n)))) ?_)
     rw [show (decide ((Cam.nrm e.f e.cx (xo.getD 0))=(Cam.nrm e.f e.cx (xo.getD 0))∧(Cam.nrm e.f e.cy (yo.getD 0))=(Cam.nrm e.f e.cy (yo.getD 0))))=true from by exact decide_eq_true ⟨rfl,rfl⟩]
     refine e_pv 16 rfl rfl (zC rfl rfl)<|e_dm 17 rfl rfl rfl<|e_u 18 rfl rfl (zb 2 ty34 rfl rfl (.t8 .nil))<|e_u 19 rfl rfl (zb 6 ty27 rfl rfl (.t8 (.take .nil)))<|e_u 20 rfl rfl (zb 5 ty34 rfl rfl (.t8 .nil))<|e_one 21 (zm rfl rfl rfl rfl (.c rfl (.c rfl .n)) ce28 (znf (e:=e) (u1:=u1) (u2:=u2) (v1:=v1) (v2:=v2) (qx:=(xo.getD 0)) (qy:=(yo.getD 0)) (hin:=ass) (hx:=by first|rfl|assumption|omega|(simp;done)|decide) (hy:=by first|rfl|assumption|omega|(simp;done)|decide)) (.c (j:=7) rfl (.c (j:=6) rfl .n)) ?_)
     rintro ⟨w336,w437,w538,w639⟩ -
     dsimp only [aq,nq,cq]
     refine e_one 22 (zGa rfl rfl rfl rfl (.c rfl (.c rfl .n)) ce12 (zqd (u1:=w310) (u2:=w411) (v1:=w512) (v2:=w613) (qx:=(Cam.pix e.f e.cx (xo.getD 0))) (qy:=(Cam.pix e.f e.cy (yo.getD 0))) (z1:=w336) (z2:=w437) (z3:=w538) (z4:=w639) (rx:=(Cam.pix e.f e.cx (xo.getD 0))) (ry:=(Cam.pix e.f e.cy (yo.getD 0))) (hl:=by exact ⟨⟨Nat.le_trans (Cam.pix_hq hx hcx1 hf1) dd,Nat.le_trans (Cam.pix_hq hy hcy1 hf1) dd⟩,Nat.le_trans (Cam.pix_hq hx hcx1 hf1) dd,Nat.le_trans (Cam.pix_hq hy hcy1 hf1) dd⟩)) (.c (j:=11) rfl (.c (j:=12) rfl (.c (j:=0) rfl (.c (j:=1) rfl .n)))) ?_)
     rw [show (decide ((Cam.pix e.f e.cx (xo.getD 0))=(Cam.pix e.f e.cx (xo.getD 0))∧(Cam.pix e.f e.cy (yo.getD 0))=(Cam.pix e.f e.cy (yo.getD 0))))=true from by exact decide_eq_true ⟨rfl,rfl⟩]
     refine e_pv 23 rfl rfl (zC rfl rfl)<|e_dm 24 rfl rfl rfl<|e_u 25 rfl rfl (zb 0 ty34 rfl rfl (.t8 .nil))<|e_u 26 rfl rfl (zb 5 ty34 rfl rfl (.t8 .nil))<|e_one 27 (zGa rfl rfl rfl rfl (.c rfl (.c rfl .n)) ce12 (zqd (u1:=w323) (u2:=w424) (v1:=w525) (v2:=w626) (qx:=(Cam.pix e.f e.cx ((some (Cam.nrm e.f e.cx (xo.getD 0))).getD 0))) (qy:=(Cam.pix e.f e.cy ((some (Cam.nrm e.f e.cy (yo.getD 0))).getD 0))) (z1:=u1) (z2:=u2) (z3:=v1) (z4:=v2) (rx:=(xo.getD 0)) (ry:=(yo.getD 0)) (hl:=by simp only [Option.getD_some];rw [Cam.pix_nrm om,Cam.pix_nrm om];omega)) (.c (j:=4) rfl (.c (j:=5) rfl (.c (j:=9) rfl (.c (j:=8) rfl .n)))) ?_)
     rw [show (decide ((Cam.pix e.f e.cx ((some (Cam.nrm e.f e.cx (xo.getD 0))).getD 0))=(xo.getD 0)∧(Cam.pix e.f e.cy ((some (Cam.nrm e.f e.cy (yo.getD 0))).getD 0))=(yo.getD 0)))=true from by exact decide_eq_true ⟨Cam.pix_nrm om _,Cam.pix_nrm om _⟩]
     refine e_pv 28 rfl rfl (zC rfl rfl)<|e_dm 29 rfl rfl rfl<|e_u 30 rfl rfl (zb 6 ty27 rfl rfl (.t8 (.take .nil)))<|e_u 31 rfl rfl (zb 5 ty34 rfl rfl (.t8 .nil))<|e_u 33 rfl rfl (zb 6 ty27 rfl rfl (.t8 (.take .nil)))<|e_u 34 rfl rfl (zb 5 ty34 rfl rfl (.t8 .nil))<|e_one 32 (zGa rfl rfl rfl rfl (.c rfl (.c rfl .n)) ce26 (zpd (e:=e) (u1:=u1) (u2:=u2) (v1:=v1) (v2:=v2) (xo:=xo) (yo:=yo) (hin:=ass) (hx:=by first|rfl|assumption|omega|(simp;done)|decide) (hy:=by first|rfl|assumption|omega|(simp;done)|decide)) (.c (j:=16) rfl (.c (j:=17) rfl .n)) ?_)
     refine e_one 35 (zGa rfl rfl rfl rfl (.c rfl (.c rfl .n)) ce10 (zDe (e:=e) (u1:=u1) (u2:=u2) (v1:=v1) (v2:=v2) (qx:=(xo.getD 0)) (qy:=(yo.getD 0)) (hin:=ass) (hok:=by first|rfl|assumption|omega|(simp;done)|decide) (hx:=by first|rfl|assumption|omega|(simp;done)|decide) (hy:=by first|rfl|assumption|omega|(simp;done)|decide)) (.c (j:=9) rfl (.c (j:=8) rfl .n)) ?_)
     refine e_pv 36 rfl rfl (zlc Tryz.underlying4 rfl rfl) ?_
     rw [show (decide (decide (Cam.pc e [(xo,yo)]=0∧Cam.ins e (xo.getD 0) (yo.getD 0))=decide (Cam.ins e (xo.getD 0) (yo.getD 0))))=true from by exact decide_eq_true (decide_eq_decide.2 ⟨fun k=>k.2,fun k=>⟨hz,k⟩⟩)]
     refine e_pv 37 rfl rfl (zC rfl rfl)<|e_pv 38 rfl rfl (zc rfl)<|zI kr ?_
     exact zS () tt9 ((.c rfl .n):SubM _ _) (ho:=((.of [0,1,1,2,2] rfl):PickO _ _ _)) ((.of [4,5,6,7,8,9,10,11,12,13,14,15,16,17] rfl):SelR _ _ _)
    ·
     rintro ⟨⟩ -
     try dsimp only [cw]
     refine zD ?_
     exact zv Tryz.results5 () trivial (zo rfl) rfl (ho:=oN) sN
end Go.Proofs.YtahiajepeodhoaaGreat.Sp
namespace Go.Proofs.YtahiajepeodhoaaGreat.Sp
open Go
set_option linter.unusedVariables false
theorem eF_of {g:Hp} {s t:Bool} {p1 p2:Option Addr} {c1 c2:Nat} {la lb:List Int} (ha:Sl (rI .u32) g p1 c1 la) (hb:Sl (rI .u32) g p2 c2 lb) (k1:la.length≤1099511627776) (k2:lb.length≤1099511627776):
    (eF ⟨s,p1,la.length,c1⟩ ⟨t,p2,lb.length,c2⟩ (qo ((s,la),(t,lb)))).on g:=⟨((s,la),(t,lb)),⟨rfl,rfl,k1,ha⟩,⟨rfl,rfl,k2,hb⟩,rfl⟩
theorem mz_raw1 {x:(Bool×List Int)×(Bool×List Int)} {n:Nat} (h:(fun z:(Bool×List Int)×(Bool×List Int)=>(fun z:Bool×List Int=>(fun _:Bool=>1) z.1+mzL (fun _:Int=>1) z.2) z.1+(fun z:Bool×List Int=>(fun _:Bool=>1) z.1+mzL (fun _:Int=>1) z.2) z.2) x≤n):x.1.2.length≤n∧x.2.2.length≤n:=by
  have q1:=mzL_len (mz:=fun _:Int=>1) (l:=x.1.2) (fun _=>Nat.le_refl 1)
  have q2:=mzL_len (mz:=fun _:Int=>1) (l:=x.2.2) (fun _=>Nat.le_refl 1)
  simp only at h
  omega
end Go.Proofs.YtahiajepeodhoaaGreat.Sp
