/- Lemmas that the claim of this folder uses; each states its own conditions. Lines were printed by a program of ours. -/
import Derived.Test.YtpdbimfnhglhpaaGreatZ6E
set_option linter.unusedVariables false
set_option linter.unusedSimpArgs false
set_option linter.unusedSectionVars false
open Go.Value renaming int → yad, pointer → yaf
open Go.IntKind renaming i64 → yae
open List renaming length_map → yM, length_take → yP, length_replicate → yQ, take_of_length_le → yR, replicate → yS, getD_eq_getElem?_getD → yU, length_append → yV, eraseIdx → yW, length_set → yX, mem_singleton → yY, mem_append → yZ, append_nil → yaa
open Nat renaming le_trans → yN, zero_le → yO, le_refl → yac
open Rat renaming mul_eq_zero → yT
open Classical renaming byContradiction → yab
open Go.Proofs.Tryz renaming underlying62 → yd, underlying64 → yf, underlying60 → yj, underlying59 → yn, underlying134 → yo, underlying98 → yp, underlying90 → yq, underlying96 → yt, underlying87 → yu, underlying74 → yv, underlying148 → yx, underlying210 → yz, underlying215 → yA, underlying46 → yB, underlying3 → yD
namespace Go.Proofs.YtpdbimfnhglhpaaGreat
open Po renaming vals → yc, zV → yg, cl → yi, mul → yl, bound → yr, K0 → yC, ev → yF, sub → yG, vH → yI, vw → yJ, dr → yK, gcd → yL
open Ro renaming vf → ye, at2 → ym, Qu → ys, Qg → yw, v5 → yE
open Big renaming hq → yh
open Rd renaming c0 → yk
open Mx renaming ints → yH
namespace Sp
open Go
set_option maxRecDepth 100000
set_option maxHeartbeats 8000000
variable {A:List (Rat×Rat)} {L:List (List Rat)} {bd bl bo cL n nL:Nat} {pL:Option Addr} {u1 u2 v1 v2:Wd} {x1 x2:Rat}
theorem zi2 {bW:Nat} {pW:Option Addr} {cW:Nat} {W:List Rat} {pX:Option Addr} {nX:Nat} {cX:Nat} {X:List (List Rat)} {pZ:Option Addr} {nZ:Nat} {cZ:Nat} {Z:List (List Rat)} {wl1:Wd} {wl2:Wd} {lo:Rat} {wh1:Wd} {wh2:Wd} {hi9:Rat} {xx:List Rat} {yy:List Rat} (hnX:X.length=nX) (hX3:Ro.m33 X) (hnZ:Z.length=nZ) (hZ3:Ro.m33 Z) (hxx:X.flatten=xx) (hyy:Z.flatten=yy) (hbx:∀i,yh (xx.getD i 0)≤1000) (hby:∀i,yh (yy.getD i 0)≤1000) (hlo:yh lo≤100000000000) (hhi:yh hi9≤100000000000) (hW9:W.length=9) (hbW:∀i,yh (W.getD i 0)≤3000000):CC 41 [.agg #[.slice pX nX cX,.slice pZ nZ cZ,wl1.b,wl1.l,wl2.b,wl2.l,wh1.b,wh1.l,wh2.b,wh2.l],Vp bW] [zI (rS rQ) pX cX X,zI (rS rQ) pZ cZ Z,qF true wl1 wl2 lo,qF true wh1 wh2 hi9,j8 bW 0 [.slice pW 9 cW],zI rQ pW cW W] (Y:=Bool) (fun y=>(Ro.Hit xx yy W lo hi9→y=true)) (fun y=> .bool y) (fun y=>[]):=by
 refine zg Tryz.func41 rfl rfl (fun c=> ?_)
 refine zN 0 rfl (fun hL0=> ?_)
 refine zN 1 rfl (fun hL1=> ?_)
 refine zN 5 rfl (fun hL5=> ?_)
 have l2:xx.length=9:=by rw [← hxx];exact (Ro.zfs hX3).1
 have l3:yy.length=9:=by rw [← hyy];exact (Ro.zfs hZ3).1
 have hX3l:=hX3.l
 have hZ3l:=hZ3.l
 refine vg<|zB (zX rfl rfl) (fun b1=> ?_)
 refine jn 1 rfl<|Jo 8<|zC 0 rfl (zb yp rfl zdu rfl rfl)<|vE 1 rfl (zc 0 Qx rfl rfl rfl)<|zC 3 rfl (zb yp rfl zdu rfl rfl)<|vE 4 rfl (zc 0 Qx rfl rfl rfl)<|jP (m':=[(22,.slice pZ nZ cZ),(19,.slice pX nX cX),(3,.bool false),(2,Vp b1),(1,Vp bW)]) (R':=[zI (rS rQ) pX cX X,zI (rS rQ) pZ cZ Z,qF true wl1 wl2 lo,qF true wh1 wh2 hi9,j8 bW 0 [.slice pW 9 cW],zI rQ pW cW W]) (mR rfl) (List.Perm.refl _) (List.Perm.refl _) ((.of [0,1,2,3,4,5] rfl))<|zeG<|Jc 2 rfl (fun x=> .slice (x.1) (xx.length) (x.2)) (fun x=>[]) (fun x=>[zI rQ (x.1) (x.2) xx]) [] kr kr kr kr (fun _=> ?_) (X:=Option Addr×Nat) ?_
 refine jP (m':=[(19,.slice pX nX cX)]) (R':=[zI (rS rQ) pX cX X]) ((.c rfl .n)) (List.Perm.refl _) (List.Perm.refl _) (s0 rfl)<|zt 0 (zp rfl (qS rfl) zP (Ks qB om (by rw [← hnX,hX3l];exact hX3.r)) (qX 0 rfl) ?_)
 rintro ⟨l4,l5⟩ -
 have l6:(X.flatten:List Rat)=xx:=by exact hxx
 rw [l6]
 refine zU kr ?_
 exact qL (l4,l5) trivial ((.c rfl .n)) oN (s0 rfl)
 refine Jc 5 rfl (fun x=> .slice (x.1) (yy.length) (x.2)) (fun x=>[]) (fun x=>[zI rQ (x.1) (x.2) yy]) [] kr kr kr kr (fun _=> ?_) (X:=Option Addr×Nat) ?_
 refine jP (m':=[(22,.slice pZ nZ cZ)]) (R':=[zI (rS rQ) pZ cZ Z]) ((.c rfl .n)) (List.Perm.refl _) (List.Perm.refl _) ((.c (j:=1) rfl .n))<|zt 0 (zp rfl (qS rfl) zP (Ks qB om (by rw [← hnZ,hZ3l];exact hZ3.r)) (qX 0 rfl) ?_)
 rintro ⟨l7,l8⟩ -
 have l9:(Z.flatten:List Rat)=yy:=by exact hyy
 rw [l9]
 refine zU kr ?_
 exact qL (l7,l8) trivial ((.c rfl .n)) oN (s0 rfl)
 refine Jc 6 rfl (fun x=>Vp x) (fun x=>[zK x 62 [.slice none 0 0]]) (fun x=>[]) [] kr kr kr kr (fun _=> ?_) (X:=Nat) ?_
 refine jP (m':=[]) (R':=[]) .n (List.Perm.refl _) (List.Perm.refl _) sN<|zt 0 (V5 rfl (zo ztK rfl) (fun m0 _=> ?_))
 refine zU kr ?_
 exact qL m0 trivial ((.c rfl .n)) (o0 rfl) sN
 refine Jc 7 rfl (fun x=> .slice (x.1) (xx.length) (x.2)) (fun x=>[]) (fun x=>[zI rQ (x.1) (x.2) xx]) [2] kr kr kr kr (fun _=> ?_) (X:=Option Addr×Nat) ?_
 rintro ⟨i2,i3⟩
 refine jP (m':=[(20,.slice i2 (xx.length) i3)]) (R':=[zI rQ i2 i3 xx]) ((.c rfl .n)) (List.Perm.refl _) (List.Perm.refl _) (s0 rfl)<|zC 0 rfl (zT rfl)<|zU kr ?_
 exact qL (i2,i3) trivial ((.c rfl .n)) oN (s0 rfl)
 refine zmE (k':=1) (L':=(lb 9 255)) kr kr kr kr kr kr kr ?_
 rintro ⟨a5,a6⟩ a7 ⟨a3,a4⟩ _
 refine jP (m':=[(4,.slice a5 (xx.length) a6),(5,Vp a7),(23,.slice a3 (yy.length) a4),(22,.slice pZ nZ cZ),(19,.slice pX nX cX),(3,.bool false),(2,Vp b1),(1,Vp bW)]) (OW':=[zK a7 62 [.slice none 0 0]]) (R':=[zI rQ a5 a6 xx,zI rQ a3 a4 yy,zI (rS rQ) pX cX X,zI (rS rQ) pZ cZ Z,qF true wl1 wl2 lo,qF true wh1 wh2 hi9,j8 bW 0 [.slice pW 9 cW],zI rQ pW cW W]) (mR rfl) (List.Perm.refl _) (List.Perm.refl _) ((.of [0,1,3,4,5,6,7,8] rfl))<|zt 8 (zH rfl rfl rfl rfl vC (.take .nil) ?_)
 refine zU kr<|zi<|qe ?_
 have e4:(.slice a5 (xx.length) a6:Value)= .slice a5 9 a6:=by rw [l2]
 rw [e4]
 have e5:(.slice a3 (yy.length) a4:Value)= .slice a3 9 a4:=by rw [l3]
 rw [e5]
 refine ji (X:=Unit) (fun x=>True) (fun x=>[(31,.bool false),(4,.slice a5 9 a6),(5,Vp a7),(3,.bool false),(2,Vp b1),(1,Vp bW)]) (fun x=>[zK a7 62 [.slice a3 9 a4],zK b1 98 [.slice pX nX cX,.slice pZ nZ cZ,wl1.b,wl1.l,wl2.b,wl2.l,wh1.b,wh1.l,wh2.b,wh2.l]]) (fun x=>[zI rQ a5 a6 xx,zI rQ a3 a4 yy,zI (rS rQ) pX cX X,zI (rS rQ) pZ cZ Z,qF true wl1 wl2 lo,qF true wh1 wh2 hi9,j8 bW 0 [.slice pW 9 cW],zI rQ pW cW W]) ?_ ?_
 refine vM 4 rfl<|zw (zc 0 vF rfl rfl rfl)<|qY 3 rfl ?_
 exact qL () Qn (mR rfl) ((.of [0,0] rfl):zJ _ _ _) ((.of [0,1,2,3,4,5,6,7] rfl))
 rintro ⟨⟩ -
 refine qW rfl<|vY<|k12 1 rfl<|zk<|z5 (X:=Nat) (fun x=>x≤9∧∀a b,a<x→b<9→Ro.D2 xx yy a b=0) (fun x=>[(32,Vi x)]) [4,5,2,1] (fun x=>[zK a7 62 [.slice a3 9 a4],zK b1 98 [.slice pX nX cX,.slice pZ nZ cZ,wl1.b,wl1.l,wl2.b,wl2.l,wh1.b,wh1.l,wh2.b,wh2.l]]) (fun x=>[]) [0,1,2,3,4,5,6,7] (fun x=>9 - x) 0 (by exact ⟨yO _,fun a b h=>by omega⟩) (.e rfl vA .n) ((.of [0,0] rfl):zJ _ _ _) sN ?_
 rintro i hI
 obtain ⟨hi,hall⟩:=hI
 refine jg 1 rfl<|zx rfl (fun h6=> ?_) (fun h6=> ?_)
 refine vY<|zk<|jS 2 rfl<|vZ 1 rfl<|zk<|z5 (X:=Nat) (fun x=>x≤9∧∀b,b<x→Ro.D2 xx yy i b=0) (fun x=>[(35,Vi x)]) [6,32,4,5,2,1] (fun x=>[zK a7 62 [.slice a3 9 a4],zK b1 98 [.slice pX nX cX,.slice pZ nZ cZ,wl1.b,wl1.l,wl2.b,wl2.l,wh1.b,wh1.l,wh2.b,wh2.l]]) (fun x=>[]) [0,1,2,3,4,5,6,7] (fun x=>9 - x) 0 (by exact ⟨yO _,fun b h=>by omega⟩) (.e rfl vA .n) ((.of [0,0] rfl):zJ _ _ _) sN ?_
 rintro j hJ
 obtain ⟨hj,hrow⟩:=hJ
 refine jg 1 rfl<|zx rfl (fun h7=> ?_) (fun h7=> ?_)
 refine vY<|zk<|jg 2 rfl ?_
 have o8:=hbx i
 have p0:=hbx j
 have p1:=hby i
 have m1:=hby j
 have p2:=hbW i
 have m2:=hbW j
 have p3:=Big.jB (xx.getD i 0) (yy.getD j 0)
 have p4:=Big.jB (xx.getD j 0) (yy.getD i 0)
 have p5:=Big.jB (W.getD i 0) (yy.getD j 0)
 have p6:=Big.jB (W.getD j 0) (yy.getD i 0)
 have p7:=Big.jB (xx.getD i 0) (W.getD j 0)
 have p8:=Big.jB (xx.getD j 0) (W.getD i 0)
 have p9:=Big.KO (xx.getD i 0*yy.getD j 0) (xx.getD j 0*yy.getD i 0)
 have r1:=Big.KO (W.getD i 0*yy.getD j 0) (W.getD j 0*yy.getD i 0)
 have r3:=Big.KO (xx.getD i 0*W.getD j 0) (xx.getD j 0*W.getD i 0)
 refine Jo 20<|zQ 0 rfl rfl<|zQ 1 rfl rfl<|jc 2 rfl (zM (x0:=(gQ xx i)) 0 i rfl yd qk rfl zL rfl rfl (gD (d:=(0:Rat)) om)) ?_
 rintro ⟨b8,o9,e6,e7⟩ -
 refine vi qR<|vE 3 rfl (zA (j:=0) 0 qp rfl rfl rfl (.t4 .nil))<|vE 4 rfl (zc 0 vF rfl rfl rfl)<|zQ 5 rfl rfl<|jc 6 rfl (zM (x0:=(gQ yy j)) 3 j rfl yd qk rfl zL rfl rfl (gD (d:=(0:Rat)) om)) ?_
 rintro ⟨b12,o13,e8,e9⟩ -
 refine vi qR<|vE 7 rfl (zA (j:=0) 0 qp rfl rfl rfl (.t4 .nil))<|zQ 9 rfl rfl<|zQ 10 rfl rfl<|jc 11 rfl (zM (x0:=(gQ xx j)) 4 j rfl yd qk rfl zL rfl rfl (gD (d:=(0:Rat)) om)) ?_
 rintro ⟨b16,o17,f0,f1⟩ -
 refine vi qR<|vE 12 rfl (zA (j:=0) 0 qp rfl rfl rfl (.t4 .nil))<|vE 13 rfl (zc 0 vF rfl rfl rfl)<|zQ 14 rfl rfl<|jc 15 rfl (zM (x0:=(gQ yy i)) 7 i rfl yd qk rfl zL rfl rfl (gD (d:=(0:Rat)) om)) ?_
 rintro ⟨b20,o21,f2,f3⟩ -
 refine vi qR<|vE 16 rfl (zA (j:=0) 0 qp rfl rfl rfl (.t4 .nil))<|jP (m':=[(54,.agg (cw [f2,f3]).toArray),(50,.agg (cw [f0,f1]).toArray),(45,.agg (cw [e8,e9]).toArray),(41,.agg (cw [e6,e7]).toArray),(7,Vi j),(35,Vi j),(6,Vi i),(32,Vi i),(4,.slice a5 9 a6),(5,Vp a7),(2,Vp b1),(1,Vp bW)]) (R':=[qF true f2 f3 (gQ yy i),qF true f0 f1 (gQ xx j),qF true e8 e9 (gQ yy j),qF true e6 e7 (gQ xx i),zI rQ a5 a6 xx,zI rQ a3 a4 yy,zI (rS rQ) pX cX X,zI (rS rQ) pZ cZ Z,qF true wl1 wl2 lo,qF true wh1 wh2 hi9,j8 bW 0 [.slice pW 9 cW],zI rQ pW cW W]) (mR rfl) (List.Perm.refl _) (List.Perm.refl _) ((.of [1,3,5,7,8,9,10,11,12,13,14,15] rfl))<|zeG<|Jc 8 rfl (fun x=> .agg #[x.1.b,x.1.l,x.2.b,x.2.l]) (fun x=>[]) (fun x=>[qF true x.1 x.2 ((gQ xx i)*(gQ yy j))]) [] kr kr kr kr (fun _=> ?_) (X:=Wd×Wd) ?_
 refine jP (m':=[(45,.agg (cw [e8,e9]).toArray),(41,.agg (cw [e6,e7]).toArray)]) (R':=[qF true e8 e9 (yy.getD j (0:Rat)),qF true e6 e7 (xx.getD i (0:Rat))]) ((.c rfl (.c rfl .n)):vQ _ _) (List.Perm.refl _) (List.Perm.refl _) ((.of [2,3] rfl):q9 _ _ _)<|zt 0 (zp rfl (.c rfl (.c rfl .n)) zP (jH zL) (vj 1 0 rfl rfl) ?_)
 rintro ⟨m3,m4⟩ -
 refine zU kr ?_
 exact qL (m3,m4) trivial ((.c rfl .n)) oN (s0 rfl)
 refine Jc 17 rfl (fun x=> .agg #[x.1.b,x.1.l,x.2.b,x.2.l]) (fun x=>[]) (fun x=>[qF true x.1 x.2 ((gQ xx j)*(gQ yy i))]) [] kr kr kr kr (fun _=> ?_) (X:=Wd×Wd) ?_
 refine jP (m':=[(54,.agg (cw [f2,f3]).toArray),(50,.agg (cw [f0,f1]).toArray)]) (R':=[qF true f2 f3 (yy.getD i (0:Rat)),qF true f0 f1 (xx.getD j (0:Rat))]) ((.c rfl (.c rfl .n)):vQ _ _) (List.Perm.refl _) (List.Perm.refl _) ((.of [0,1] rfl):q9 _ _ _)<|zt 0 (zp rfl (.c rfl (.c rfl .n)) zP (jH zL) (vj 1 0 rfl rfl) ?_)
 rintro ⟨m6,m7⟩ -
 refine zU kr ?_
 exact qL (m6,m7) trivial ((.c rfl .n)) oN (s0 rfl)
 refine Jc 18 rfl (fun x=> .agg #[x.1.b,x.1.l,x.2.b,x.2.l]) (fun x=>[]) (fun x=>[qF true x.1 x.2 (((gQ xx i)*(gQ yy j)) - ((gQ xx j)*(gQ yy i)))]) [0,1] kr kr kr kr (fun _=> ?_) (X:=Wd×Wd) ?_
 rintro ⟨k4,k5⟩
 rintro ⟨k6,k7⟩
 refine jP (m':=[(55,.agg (cw [k4,k5]).toArray),(46,.agg (cw [k6,k7]).toArray)]) (R':=[qF true k4 k5 ((xx.getD j (0:Rat))*(yy.getD i (0:Rat))),qF true k6 k7 ((xx.getD i (0:Rat))*(yy.getD j (0:Rat)))]) ((.c rfl (.c rfl .n)):vQ _ _) (List.Perm.refl _) (List.Perm.refl _) ((.of [0,1] rfl):q9 _ _ _)<|zt 0 (zp rfl (.c rfl (.c rfl .n)) zP (VZ zL) (vj 1 0 rfl rfl) ?_)
 rintro ⟨m8,m9⟩ -
 refine zU kr ?_
 exact qL (m8,m9) trivial ((.c rfl .n)) oN (s0 rfl)
 refine Jc 19 rfl (fun x=>Vp x) (fun x=>[zK x 32 [.bool false,.slice none 0 0,.bool false,.slice none 0 0]]) (fun x=>[]) [] kr kr kr kr (fun _=> ?_) (X:=Nat) ?_
 refine jP (m':=[]) (R':=[]) .n (List.Perm.refl _) (List.Perm.refl _) sN<|zt 0 (V5 rfl (zo vh rfl) (fun n0 _=> ?_))
 refine zU kr ?_
 exact qL n0 trivial ((.c rfl .n)) (o0 rfl) sN
 refine zmE (k':=1) (L':=(lb 21 1048575)) kr kr kr kr kr kr kr ?_
 rintro b5 ⟨a0,a1⟩ _ _
 refine jP (m':=[(8,Vp b5),(56,.agg (cw [a0,a1]).toArray),(54,.agg (cw [f2,f3]).toArray),(50,.agg (cw [f0,f1]).toArray),(45,.agg (cw [e8,e9]).toArray),(41,.agg (cw [e6,e7]).toArray),(7,Vi j),(35,Vi j),(6,Vi i),(32,Vi i),(4,.slice a5 9 a6),(5,Vp a7),(2,Vp b1),(1,Vp bW)]) (OW':=[zK b5 32 (cw [wz,wz])]) (R':=[qF true a0 a1 (((gQ xx i)*(gQ yy j)) - ((gQ xx j)*(gQ yy i))),qF true f2 f3 (gQ yy i),qF true f0 f1 (gQ xx j),qF true e8 e9 (gQ yy j),qF true e6 e7 (gQ xx i),zI rQ a5 a6 xx,zI rQ a3 a4 yy,zI (rS rQ) pX cX X,zI (rS rQ) pZ cZ Z,qF true wl1 wl2 lo,qF true wh1 wh2 hi9,j8 bW 0 [.slice pW 9 cW],zI rQ pW cW W]) (mR rfl) (List.Perm.refl _) (List.Perm.refl _) ((.of [0,3,4,5,6,7,8,9,10,11,12,13,14] rfl))<|zt 20 (zH rfl rfl rfl rfl qk (.t4 .nil) ?_)
 refine zU kr<|zi<|qe<|qe<|zv<|zw (za 0 qp rfl rfl (.t4 .nil))<|qg (.c rfl .n) zP (Ke (k1:=true) (u1:=a0) (v1:=a1) (q1:=((xx.getD i (0:Rat))*(yy.getD j (0:Rat))) - ((xx.getD j (0:Rat))*(yy.getD i (0:Rat)))) om) (qX 0) ?_
 refine vZ 1 rfl<|zx rfl (fun i4=> ?_) (fun i4=> ?_)
 refine z7<|ze<|zn<|zi<|zv<|zE (qj rfl rfl)<|qY 1 rfl<|zW (j+1) (by refine ⟨Oo,fun b hb=> ?_⟩;by_cases e:b=j;rw [e];exact Td.zn7 i4;exact hrow b om) om (mR rfl) ((.of [1,1] rfl):zJ _ _ _) ((.of [5,6,7,8,9,10,11,12] rfl))
 have hD:(xx.getD i 0*yy.getD j 0 - xx.getD j 0*yy.getD i 0)≠0:=fun z=>i4 (by rw [z];rfl)
 have r4:=Big.Qs (W.getD i 0*yy.getD j 0 - W.getD j 0*yy.getD i 0) hD
 have r5:=Big.Qs (xx.getD i 0*W.getD j 0 - xx.getD j 0*W.getD i 0) hD
 refine vY<|Jo 25<|vE 0 rfl (zf (j:=0) 11 vF rfl rfl rfl rfl)<|zQ 1 rfl rfl<|jc 2 rfl (zM (x0:=(gQ W i)) 12 i rfl yd qk rfl zL rfl rfl (gD (d:=(0:Rat)) om)) ?_
 rintro ⟨b24,o25,f4,f5⟩ -
 refine vi qR<|vE 3 rfl (zA (j:=0) 0 qp rfl rfl rfl (.t4 .nil))<|vE 4 rfl (zc 1 vF rfl rfl rfl)<|zQ 5 rfl rfl<|jc 6 rfl (zM (x0:=(gQ yy j)) 8 j rfl yd qk rfl zL rfl rfl (gD (d:=(0:Rat)) om)) ?_
 rintro ⟨b28,o29,f6,f7⟩ -
 refine vi qR<|vE 7 rfl (zA (j:=0) 0 qp rfl rfl rfl (.t4 .nil))<|vE 9 rfl (zf (j:=0) 15 vF rfl rfl rfl rfl)<|zQ 10 rfl rfl<|jc 11 rfl (zM (x0:=(gQ W j)) 16 j rfl yd qk rfl zL rfl rfl (gD (d:=(0:Rat)) om)) ?_
 rintro ⟨b32,o33,d4,d5⟩ -
 refine vi qR<|vE 12 rfl (zA (j:=0) 0 qp rfl rfl rfl (.t4 .nil))<|vE 13 rfl (zc 1 vF rfl rfl rfl)<|zQ 14 rfl rfl<|jc 15 rfl (zM (x0:=(gQ yy i)) 12 i rfl yd qk rfl zL rfl rfl (gD (d:=(0:Rat)) om)) ?_
 rintro ⟨b36,o37,d6,d7⟩ -
 refine vi qR<|vE 16 rfl (zA (j:=0) 0 qp rfl rfl rfl (.t4 .nil))<|vE 19 rfl (za 0 qp rfl rfl (.t4 .nil))<|jP (m':=[(80,.agg (cw [a0,a1]).toArray),(77,.agg (cw [d6,d7]).toArray),(73,.agg (cw [d4,d5]).toArray),(68,.agg (cw [f6,f7]).toArray),(64,.agg (cw [f4,f5]).toArray),(8,Vp b5),(7,Vi j),(35,Vi j),(6,Vi i),(32,Vi i),(4,.slice a5 9 a6),(5,Vp a7),(2,Vp b1),(1,Vp bW)]) (R':=[qF true d6 d7 (gQ yy i),qF true d4 d5 (gQ W j),qF true f6 f7 (gQ yy j),qF true f4 f5 (gQ W i),qF true a0 a1 (((gQ xx i)*(gQ yy j)) - ((gQ xx j)*(gQ yy i))),qF true f2 f3 (gQ yy i),qF true f0 f1 (gQ xx j),qF true e8 e9 (gQ yy j),qF true e6 e7 (gQ xx i),zI rQ a5 a6 xx,zI rQ a3 a4 yy,zI (rS rQ) pX cX X,zI (rS rQ) pZ cZ Z,qF true wl1 wl2 lo,qF true wh1 wh2 hi9,j8 bW 0 [.slice pW 9 cW],zI rQ pW cW W]) (mR rfl) (List.Perm.refl _) (List.Perm.refl _) ((.of [1,3,5,7,8,9,10,11,12,13,14,15,16,17,18,19,20] rfl))<|q6 (X:=Wd×Wd×Nat) (k':=0) (L':=(lb 27 134217727)) (fun (a8,a9,a2)=>([(9,Vp a2),(8,Vp b5),(7,Vi j),(35,Vi j),(6,Vi i),(32,Vi i),(4,.slice a5 9 a6),(5,Vp a7),(2,Vp b1),(1,Vp bW)],[zK a2 32 (cw [a8,a9])],[zK b5 32 (cw [a0,a1]),zK a7 62 [.slice a3 9 a4],zK b1 98 [.slice pX nX cX,.slice pZ nZ cZ,wl1.b,wl1.l,wl2.b,wl2.l,wh1.b,wh1.l,wh2.b,wh2.l]],[qF true a8 a9 ((((gQ W i)*(gQ yy j)) - ((gQ W j)*(gQ yy i))) / (((gQ xx i)*(gQ yy j)) - ((gQ xx j)*(gQ yy i)))),qF true a0 a1 (((gQ xx i)*(gQ yy j)) - ((gQ xx j)*(gQ yy i))),zI rQ a5 a6 xx,zI rQ a3 a4 yy,zI (rS rQ) pX cX X,zI (rS rQ) pZ cZ Z,qF true wl1 wl2 lo,qF true wh1 wh2 hi9,j8 bW 0 [.slice pW 9 cW],zI rQ pW cW W])) ?_ (fun i5=> ?_)
 rintro ⟨a8,a9,a2⟩
 refine zU kr<|zi<|qe<|Jo 25<|zQ 0 rfl rfl<|zQ 1 rfl rfl<|jc 2 rfl (zM (x0:=(gQ xx i)) 2 i rfl yd qk rfl zL rfl rfl (gD (d:=(0:Rat)) om)) ?_
 rintro ⟨b40,o41,f8,f9⟩ -
 refine vi qR<|vE 3 rfl (zA (j:=0) 0 qp rfl rfl rfl (.t4 .nil))<|vE 4 rfl (zf (j:=0) 10 vF rfl rfl rfl rfl)<|zQ 5 rfl rfl<|jc 6 rfl (zM (x0:=(gQ W j)) 11 j rfl yd qk rfl zL rfl rfl (gD (d:=(0:Rat)) om)) ?_
 rintro ⟨b44,o45,g0,g1⟩ -
 refine vi qR<|vE 7 rfl (zA (j:=0) 0 qp rfl rfl rfl (.t4 .nil))<|zQ 9 rfl rfl<|zQ 10 rfl rfl<|jc 11 rfl (zM (x0:=(gQ xx j)) 6 j rfl yd qk rfl zL rfl rfl (gD (d:=(0:Rat)) om)) ?_
 rintro ⟨b48,o49,d8,d9⟩ -
 refine vi qR<|vE 12 rfl (zA (j:=0) 0 qp rfl rfl rfl (.t4 .nil))<|vE 13 rfl (zf (j:=0) 14 vF rfl rfl rfl rfl)<|zQ 14 rfl rfl<|jc 15 rfl (zM (x0:=(gQ W i)) 15 i rfl yd qk rfl zL rfl rfl (gD (d:=(0:Rat)) om)) ?_
 rintro ⟨b52,o53,e0,e3⟩ -
 refine vi qR<|vE 16 rfl (zA (j:=0) 0 qp rfl rfl rfl (.t4 .nil))<|vE 19 rfl (za 1 qp rfl rfl (.t4 .nil))<|jP (m':=[(104,.agg (cw [a0,a1]).toArray),(101,.agg (cw [e0,e3]).toArray),(97,.agg (cw [d8,d9]).toArray),(92,.agg (cw [g0,g1]).toArray),(88,.agg (cw [f8,f9]).toArray),(9,Vp a2),(35,Vi j),(6,Vi i),(32,Vi i),(4,.slice a5 9 a6),(5,Vp a7),(2,Vp b1),(1,Vp bW)]) (R':=[qF true e0 e3 (gQ W i),qF true d8 d9 (gQ xx j),qF true g0 g1 (gQ W j),qF true f8 f9 (gQ xx i),qF true a8 a9 ((((gQ W i)*(gQ yy j)) - ((gQ W j)*(gQ yy i))) / (((gQ xx i)*(gQ yy j)) - ((gQ xx j)*(gQ yy i)))),qF true a0 a1 (((gQ xx i)*(gQ yy j)) - ((gQ xx j)*(gQ yy i))),zI rQ a5 a6 xx,zI rQ a3 a4 yy,zI (rS rQ) pX cX X,zI (rS rQ) pZ cZ Z,qF true wl1 wl2 lo,qF true wh1 wh2 hi9,j8 bW 0 [.slice pW 9 cW],zI rQ pW cW W]) (mR rfl) (List.Perm.refl _) (List.Perm.refl _) ((.of [1,3,5,7,8,9,10,11,12,13,14,15,16,17] rfl))<|q6 (X:=Wd×Wd×Nat) (k':=0) (L':=(lb 27 134217727)) (fun (c2,c3,b4)=>([(11,Vp b4),(9,Vp a2),(35,Vi j),(6,Vi i),(32,Vi i),(4,.slice a5 9 a6),(5,Vp a7),(2,Vp b1),(1,Vp bW)],[zK b4 32 (cw [c2,c3])],[zK a2 32 (cw [a8,a9]),zK b5 32 (cw [a0,a1]),zK a7 62 [.slice a3 9 a4],zK b1 98 [.slice pX nX cX,.slice pZ nZ cZ,wl1.b,wl1.l,wl2.b,wl2.l,wh1.b,wh1.l,wh2.b,wh2.l]],[qF true c2 c3 ((((gQ xx i)*(gQ W j)) - ((gQ xx j)*(gQ W i))) / (((gQ xx i)*(gQ yy j)) - ((gQ xx j)*(gQ yy i)))),qF true a8 a9 ((((gQ W i)*(gQ yy j)) - ((gQ W j)*(gQ yy i))) / (((gQ xx i)*(gQ yy j)) - ((gQ xx j)*(gQ yy i)))),qF true a0 a1 (((gQ xx i)*(gQ yy j)) - ((gQ xx j)*(gQ yy i))),zI rQ a5 a6 xx,zI rQ a3 a4 yy,zI (rS rQ) pX cX X,zI (rS rQ) pZ cZ Z,qF true wl1 wl2 lo,qF true wh1 wh2 hi9,j8 bW 0 [.slice pW 9 cW],zI rQ pW cW W])) ?_ (fun i5=> ?_)
 rintro ⟨c2,c3,b4⟩
 dsimp only [cw]
 refine zU kr<|zi<|qe<|zv<|zw (za 1 qp rfl rfl (.t4 .nil))<|zw (za 0 qp rfl rfl (.t4 .nil))<|zm (.c rfl (.c rfl .n)) zP (zay (k1:=true) (u1:=a8) (v1:=a9) (q1:=(((W.getD i (0:Rat))*(yy.getD j (0:Rat))) - ((W.getD j (0:Rat))*(yy.getD i (0:Rat)))) / (((xx.getD i (0:Rat))*(yy.getD j (0:Rat))) - ((xx.getD j (0:Rat))*(yy.getD i (0:Rat))))) (k2:=true) (u2:=c2) (v2:=c3) (q2:=(((xx.getD i (0:Rat))*(W.getD j (0:Rat))) - ((xx.getD j (0:Rat))*(W.getD i (0:Rat)))) / (((xx.getD i (0:Rat))*(yy.getD j (0:Rat))) - ((xx.getD j (0:Rat))*(yy.getD i (0:Rat))))) zL) (vj 1 0) ?_
 rintro ⟨k8,k9⟩ -
 refine kS 3 rfl<|zB (zo vh rfl) (fun n1=> ?_)
 refine zh 0 rfl rfl rfl rfl qk (.t4 .nil) .z<|vZ 1 rfl<|ji (X:=Bool) (fun x=>(Ro.ztp xx yy W lo hi9→x=true)) (fun x=>[(3,.bool x),(35,Vi j),(6,Vi i),(32,Vi i),(4,.slice a5 9 a6),(5,Vp a7),(2,Vp b1),(1,Vp bW)]) (fun x=>[zK n1 32 (cw [k8,k9]),zK b4 32 (cw [c2,c3]),zK a2 32 (cw [a8,a9]),zK b5 32 (cw [a0,a1]),zK a7 62 [.slice a3 9 a4],zK b1 98 [.slice pX nX cX,.slice pZ nZ cZ,wl1.b,wl1.l,wl2.b,wl2.l,wh1.b,wh1.l,wh2.b,wh2.l]]) (fun x=>[qF (decide (((((gQ xx i)*(gQ W j)) - ((gQ xx j)*(gQ W i))) / (((gQ xx i)*(gQ yy j)) - ((gQ xx j)*(gQ yy i))))≠0)) k8 k9 (((((gQ W i)*(gQ yy j)) - ((gQ W j)*(gQ yy i))) / (((gQ xx i)*(gQ yy j)) - ((gQ xx j)*(gQ yy i)))) / ((((gQ xx i)*(gQ W j)) - ((gQ xx j)*(gQ W i))) / (((gQ xx i)*(gQ yy j)) - ((gQ xx j)*(gQ yy i))))),qF true c2 c3 ((((gQ xx i)*(gQ W j)) - ((gQ xx j)*(gQ W i))) / (((gQ xx i)*(gQ yy j)) - ((gQ xx j)*(gQ yy i)))),qF true a8 a9 ((((gQ W i)*(gQ yy j)) - ((gQ W j)*(gQ yy i))) / (((gQ xx i)*(gQ yy j)) - ((gQ xx j)*(gQ yy i)))),qF true a0 a1 (((gQ xx i)*(gQ yy j)) - ((gQ xx j)*(gQ yy i))),zI rQ a5 a6 xx,zI rQ a3 a4 yy,zI (rS rQ) pX cX X,zI (rS rQ) pZ cZ Z,qF true wl1 wl2 lo,qF true wh1 wh2 hi9,j8 bW 0 [.slice pW 9 cW],zI rQ pW cW W]) ?_ ?_
 refine vM 2 rfl<|q8 (qU rfl) (fun g2=> ?_) (fun g2=> ?_)
 have n2:(xx.getD i 0*W.getD j 0 - xx.getD j 0*W.getD i 0) / (xx.getD i 0*yy.getD j 0 - xx.getD j 0*yy.getD i 0)≠0:=fun z=>by rw [if_pos z] at g2;cases g2
 have r7:=Big.Qs ((W.getD i 0*yy.getD j 0 - W.getD j 0*yy.getD i 0) / (xx.getD i 0*yy.getD j 0 - xx.getD j 0*yy.getD i 0)) n2
 refine zE (zb yp rfl zkM rfl rfl)<|zE (zb yt rfl qk rfl rfl)<|zw (za 5 qp rfl rfl (.s2 (.t4 .nil)))<|zw (za 0 qp rfl rfl (.t4 .nil))<|qg (.c rfl (.c rfl .n)) zP (JK zL) (vj 8 0 rfl rfl) ?_
 refine kS 2 rfl<|q8 (qU rfl) (fun h5=> ?_) (fun h5=> ?_)
 refine zw (za 0 qp rfl rfl (.t4 .nil))<|zE (zb yp rfl zkM rfl rfl)<|zE (zb yt rfl qk rfl rfl)<|zw (za 5 qp rfl rfl (.s4 (.s2 (.t4 .nil))))<|qg (.c rfl (.c rfl .n)) zP (JK zL) (vj 0 9 rfl rfl) ?_
 refine qY 3 rfl ?_
 exact qL (decide (Big.Zv ((((((gQ W i)*(gQ yy j)) - ((gQ W j)*(gQ yy i))) / (((gQ xx i)*(gQ yy j)) - ((gQ xx j)*(gQ yy i)))) / ((((gQ xx i)*(gQ W j)) - ((gQ xx j)*(gQ W i))) / (((gQ xx i)*(gQ yy j)) - ((gQ xx j)*(gQ yy i))))) - hi9)≤0)) (by intro hh;obtain ⟨t1,t2,t3⟩:=hh.2 i j om om hD;first|exact absurd (if_neg t1) g2|exact absurd (Ro.cle t2) h5|exact decide_eq_true (Ro.cle t3)) (mR rfl) ((.of [0,0,0,0,0,0] rfl):zJ _ _ _) ((.of [0,1,2,3,4,5,6,7,8,9,10,11] rfl))
 refine qY 8 rfl ?_
 exact qL false (by intro hh;obtain ⟨t1,t2,t3⟩:=hh.2 i j om om hD;first|exact absurd (if_neg t1) g2|exact absurd (Ro.cle t2) h5|exact decide_eq_true (Ro.cle t3)) ((.e rfl (congrArg Value.bool JS) (.of rfl))) ((.of [0,0,0,0,0,0] rfl):zJ _ _ _) ((.of [0,1,2,3,4,5,6,7,8,9,10,11] rfl))
 refine qY 16 rfl ?_
 exact qL false (by intro hh;obtain ⟨t1,t2,t3⟩:=hh.2 i j om om hD;first|exact absurd (if_neg t1) g2|exact absurd (Ro.cle t2) h5|exact decide_eq_true (Ro.cle t3)) ((.e rfl (congrArg Value.bool JS) (.of rfl))) ((.of [0,0,0,0,0,0] rfl):zJ _ _ _) ((.of [0,1,2,3,4,5,6,7,8,9,10,11] rfl))
 rintro g9 n4
 refine vv<|qz<|zD<|zD<|qz<|qz<|zD<|zD<|qz<|zD ?_
 exact zq rfl g9 (fun k=>k.elim n4 (fun z=>absurd (z.1 i j om om) hD)) (zj rfl) rfl oN sN
 refine q6 (X:=Wd×Wd×Nat) (k':=2) (L':=(lb 27 33554431)) (fun (c2,c3,b4)=>([(11,Vp b4),(107,.int .i64 0),(106,.agg (cw [c2,c3]).toArray),(9,Vp a2),(35,Vi j),(6,Vi i),(32,Vi i),(4,.slice a5 9 a6),(5,Vp a7),(2,Vp b1),(1,Vp bW)],[zK b4 32 (cw [wz,wz])],[zK a2 32 (cw [a8,a9]),zK b5 32 (cw [a0,a1]),zK a7 62 [.slice a3 9 a4],zK b1 98 [.slice pX nX cX,.slice pZ nZ cZ,wl1.b,wl1.l,wl2.b,wl2.l,wh1.b,wh1.l,wh2.b,wh2.l]],[qF true c2 c3 ((((gQ xx i)*(gQ W j)) - ((gQ xx j)*(gQ W i))) / (((gQ xx i)*(gQ yy j)) - ((gQ xx j)*(gQ yy i)))),qF true a8 a9 ((((gQ W i)*(gQ yy j)) - ((gQ W j)*(gQ yy i))) / (((gQ xx i)*(gQ yy j)) - ((gQ xx j)*(gQ yy i)))),qF true a0 a1 (((gQ xx i)*(gQ yy j)) - ((gQ xx j)*(gQ yy i))),zI rQ a5 a6 xx,zI rQ a3 a4 yy,zI (rS rQ) pX cX X,zI (rS rQ) pZ cZ Z,qF true wl1 wl2 lo,qF true wh1 wh2 hi9,j8 bW 0 [.slice pW 9 cW],zI rQ pW cW W])) ?_ (fun g3=> ?_)
 rintro ⟨c2,c3,b4⟩
 refine jt 25 kr<|zH rfl rfl rfl rfl qk (.t4 .nil)<|zC 26 rfl (zT rfl) ?_
 exact qn (i5 (c2,c3,b4)) kr (mR rfl) .rfl .rfl ((.of [0,1,2,3,4,5,6,7,8,9,10] rfl))
 refine q6 (X:=Wd×Wd) (k':=3) (L':=(lb 27 16777215)) (fun (c2,c3)=>([(107,.int .i64 0),(106,.agg (cw [c2,c3]).toArray),(9,Vp a2),(35,Vi j),(6,Vi i),(32,Vi i),(4,.slice a5 9 a6),(5,Vp a7),(2,Vp b1),(1,Vp bW)],[],[zK a2 32 (cw [a8,a9]),zK b5 32 (cw [a0,a1]),zK a7 62 [.slice a3 9 a4],zK b1 98 [.slice pX nX cX,.slice pZ nZ cZ,wl1.b,wl1.l,wl2.b,wl2.l,wh1.b,wh1.l,wh2.b,wh2.l]],[qF true c2 c3 ((((gQ xx i)*(gQ W j)) - ((gQ xx j)*(gQ W i))) / (((gQ xx i)*(gQ yy j)) - ((gQ xx j)*(gQ yy i)))),qF true a8 a9 ((((gQ W i)*(gQ yy j)) - ((gQ W j)*(gQ yy i))) / (((gQ xx i)*(gQ yy j)) - ((gQ xx j)*(gQ yy i)))),qF true a0 a1 (((gQ xx i)*(gQ yy j)) - ((gQ xx j)*(gQ yy i))),zI rQ a5 a6 xx,zI rQ a3 a4 yy,zI (rS rQ) pX cX X,zI (rS rQ) pZ cZ Z,qF true wl1 wl2 lo,qF true wh1 wh2 hi9,j8 bW 0 [.slice pW 9 cW],zI rQ pW cW W])) ?_ (fun i6=> ?_)
 rintro ⟨c2,c3⟩
 refine jt 24 kr<|jr rfl (zo vh rfl) (fun b4 _=> ?_)
 exact qn (g3 (c2,c3,b4)) kr (mR rfl) .rfl .rfl ((.of [0,1,2,3,4,5,6,7,8,9,10] rfl))
 refine q6 (X:=Wd×Wd×Nat) (k':=6) (L':=(lb 27 17825791)) (fun (c4,c5,b4)=>([(11,Vp b4),(103,.agg (cw [c4,c5]).toArray),(104,.agg (cw [a0,a1]).toArray),(9,Vp a2),(35,Vi j),(6,Vi i),(32,Vi i),(4,.slice a5 9 a6),(5,Vp a7),(2,Vp b1),(1,Vp bW)],[zK b4 32 (cw [wz,wz])],[zK a2 32 (cw [a8,a9]),zK b5 32 (cw [a0,a1]),zK a7 62 [.slice a3 9 a4],zK b1 98 [.slice pX nX cX,.slice pZ nZ cZ,wl1.b,wl1.l,wl2.b,wl2.l,wh1.b,wh1.l,wh2.b,wh2.l]],[qF true c4 c5 (((gQ xx i)*(gQ W j)) - ((gQ xx j)*(gQ W i))),qF true a8 a9 ((((gQ W i)*(gQ yy j)) - ((gQ W j)*(gQ yy i))) / (((gQ xx i)*(gQ yy j)) - ((gQ xx j)*(gQ yy i)))),qF true a0 a1 (((gQ xx i)*(gQ yy j)) - ((gQ xx j)*(gQ yy i))),zI rQ a5 a6 xx,zI rQ a3 a4 yy,zI (rS rQ) pX cX X,zI (rS rQ) pZ cZ Z,qF true wl1 wl2 lo,qF true wh1 wh2 hi9,j8 bW 0 [.slice pW 9 cW],zI rQ pW cW W])) ?_ (fun g4=> ?_)
 rintro ⟨c4,c5,b4⟩
 dsimp only [cw]
 refine jt 20 kr<|zp rfl (.c rfl (.c rfl .n)) zP (jX (k1:=true) (u1:=c4) (v1:=c5) (q1:=((xx.getD i (0:Rat))*(W.getD j (0:Rat))) - ((xx.getD j (0:Rat))*(W.getD i (0:Rat)))) (k2:=true) (u2:=a0) (v2:=a1) (q2:=((xx.getD i (0:Rat))*(yy.getD j (0:Rat))) - ((xx.getD j (0:Rat))*(yy.getD i (0:Rat)))) om (by exact hD)) (vj 0 2) ?_
 rintro ⟨c2,c3⟩ -
 refine zQ 21 rfl rfl<|zC 22 rfl (qD rfl rfl)<|zC 23 rfl (qD rfl rfl) ?_
 exact qn (g3 (c2,c3,b4)) kr (mR rfl) .rfl .rfl ((.of [0,2,3,4,5,6,7,8,9,10,11] rfl))
 refine q6 (X:=Wd×Wd) (k':=7) (L':=(lb 27 1048575)) (fun (c4,c5)=>([(103,.agg (cw [c4,c5]).toArray),(104,.agg (cw [a0,a1]).toArray),(9,Vp a2),(35,Vi j),(6,Vi i),(32,Vi i),(4,.slice a5 9 a6),(5,Vp a7),(2,Vp b1),(1,Vp bW)],[],[zK a2 32 (cw [a8,a9]),zK b5 32 (cw [a0,a1]),zK a7 62 [.slice a3 9 a4],zK b1 98 [.slice pX nX cX,.slice pZ nZ cZ,wl1.b,wl1.l,wl2.b,wl2.l,wh1.b,wh1.l,wh2.b,wh2.l]],[qF true c4 c5 (((gQ xx i)*(gQ W j)) - ((gQ xx j)*(gQ W i))),qF true a8 a9 ((((gQ W i)*(gQ yy j)) - ((gQ W j)*(gQ yy i))) / (((gQ xx i)*(gQ yy j)) - ((gQ xx j)*(gQ yy i)))),qF true a0 a1 (((gQ xx i)*(gQ yy j)) - ((gQ xx j)*(gQ yy i))),zI rQ a5 a6 xx,zI rQ a3 a4 yy,zI (rS rQ) pX cX X,zI (rS rQ) pZ cZ Z,qF true wl1 wl2 lo,qF true wh1 wh2 hi9,j8 bW 0 [.slice pW 9 cW],zI rQ pW cW W])) ?_ (fun i7=> ?_)
 rintro ⟨c4,c5⟩
 refine Qq 20 24 kr ?_ ?_
 refine zp rfl (.c rfl (.c rfl .n)) zP (jX (k1:=true) (u1:=c4) (v1:=c5) (q1:=((xx.getD i (0:Rat))*(W.getD j (0:Rat))) - ((xx.getD j (0:Rat))*(W.getD i (0:Rat)))) (k2:=true) (u2:=a0) (v2:=a1) (q2:=((xx.getD i (0:Rat))*(yy.getD j (0:Rat))) - ((xx.getD j (0:Rat))*(yy.getD i (0:Rat)))) om (by exact hD)) (vj 0 2) ?_
 rintro ⟨c2,c3⟩ -
 refine zQ 21 rfl rfl<|zC 22 rfl (qD rfl rfl)<|zC 23 rfl (qD rfl rfl) ?_
 exact qn (i6 (c2,c3)) kr (mR rfl) .rfl .rfl ((.of [0,2,3,4,5,6,7,8,9,10,11] rfl))
 refine jr rfl (zo vh rfl) (fun b4 _=> ?_)
 exact qn (g4 (c4,c5,b4)) kr (mR rfl) .rfl .rfl ((.of [0,1,2,3,4,5,6,7,8,9,10] rfl))
 refine q6 (X:=Wd×Wd×Wd×Wd×Nat) (k':=7) (L':=(lb 27 17563647)) (fun (b6,b7,c6,c7,b4)=>([(11,Vp b4),(102,.agg (cw [c6,c7]).toArray),(93,.agg (cw [b6,b7]).toArray),(104,.agg (cw [a0,a1]).toArray),(9,Vp a2),(35,Vi j),(6,Vi i),(32,Vi i),(4,.slice a5 9 a6),(5,Vp a7),(2,Vp b1),(1,Vp bW)],[zK b4 32 (cw [wz,wz])],[zK a2 32 (cw [a8,a9]),zK b5 32 (cw [a0,a1]),zK a7 62 [.slice a3 9 a4],zK b1 98 [.slice pX nX cX,.slice pZ nZ cZ,wl1.b,wl1.l,wl2.b,wl2.l,wh1.b,wh1.l,wh2.b,wh2.l]],[qF true c6 c7 ((gQ xx j)*(gQ W i)),qF true b6 b7 ((gQ xx i)*(gQ W j)),qF true a8 a9 ((((gQ W i)*(gQ yy j)) - ((gQ W j)*(gQ yy i))) / (((gQ xx i)*(gQ yy j)) - ((gQ xx j)*(gQ yy i)))),qF true a0 a1 (((gQ xx i)*(gQ yy j)) - ((gQ xx j)*(gQ yy i))),zI rQ a5 a6 xx,zI rQ a3 a4 yy,zI (rS rQ) pX cX X,zI (rS rQ) pZ cZ Z,qF true wl1 wl2 lo,qF true wh1 wh2 hi9,j8 bW 0 [.slice pW 9 cW],zI rQ pW cW W])) ?_ (fun g5=> ?_)
 rintro ⟨b6,b7,c6,c7,b4⟩
 dsimp only [cw]
 refine jt 18 kr<|zp rfl (.c rfl (.c rfl .n)) zP (VZ (k1:=true) (u1:=b6) (v1:=b7) (q1:=(xx.getD i (0:Rat))*(W.getD j (0:Rat))) (k2:=true) (u2:=c6) (v2:=c7) (q2:=(xx.getD j (0:Rat))*(W.getD i (0:Rat))) (hl:=zL)) (vj 1 0) ?_
 rintro ⟨c4,c5⟩ -
 exact qn (g4 (c4,c5,b4)) kr (mR rfl) .rfl .rfl ((.of [0,3,4,5,6,7,8,9,10,11,12] rfl))
 refine q6 (X:=Wd×Wd×Wd×Wd) (k':=8) (L':=(lb 27 786431)) (fun (b6,b7,c6,c7)=>([(102,.agg (cw [c6,c7]).toArray),(93,.agg (cw [b6,b7]).toArray),(104,.agg (cw [a0,a1]).toArray),(9,Vp a2),(35,Vi j),(6,Vi i),(32,Vi i),(4,.slice a5 9 a6),(5,Vp a7),(2,Vp b1),(1,Vp bW)],[],[zK a2 32 (cw [a8,a9]),zK b5 32 (cw [a0,a1]),zK a7 62 [.slice a3 9 a4],zK b1 98 [.slice pX nX cX,.slice pZ nZ cZ,wl1.b,wl1.l,wl2.b,wl2.l,wh1.b,wh1.l,wh2.b,wh2.l]],[qF true c6 c7 ((gQ xx j)*(gQ W i)),qF true b6 b7 ((gQ xx i)*(gQ W j)),qF true a8 a9 ((((gQ W i)*(gQ yy j)) - ((gQ W j)*(gQ yy i))) / (((gQ xx i)*(gQ yy j)) - ((gQ xx j)*(gQ yy i)))),qF true a0 a1 (((gQ xx i)*(gQ yy j)) - ((gQ xx j)*(gQ yy i))),zI rQ a5 a6 xx,zI rQ a3 a4 yy,zI (rS rQ) pX cX X,zI (rS rQ) pZ cZ Z,qF true wl1 wl2 lo,qF true wh1 wh2 hi9,j8 bW 0 [.slice pW 9 cW],zI rQ pW cW W])) ?_ (fun i8=> ?_)
 rintro ⟨b6,b7,c6,c7⟩
 refine Qq 18 24 kr ?_ ?_
 refine zp rfl (.c rfl (.c rfl .n)) zP (VZ (k1:=true) (u1:=b6) (v1:=b7) (q1:=(xx.getD i (0:Rat))*(W.getD j (0:Rat))) (k2:=true) (u2:=c6) (v2:=c7) (q2:=(xx.getD j (0:Rat))*(W.getD i (0:Rat))) (hl:=zL)) (vj 1 0) ?_
 rintro ⟨c4,c5⟩ -
 exact qn (i7 (c4,c5)) kr (mR rfl) .rfl .rfl ((.of [0,3,4,5,6,7,8,9,10,11,12] rfl))
 refine jr rfl (zo vh rfl) (fun b4 _=> ?_)
 exact qn (g5 (b6,b7,c6,c7,b4)) kr (mR rfl) .rfl .rfl ((.of [0,1,2,3,4,5,6,7,8,9,10,11] rfl))
 refine q6 (X:=Wd×Wd×Nat) (k':=8) (L':=(lb 27 17432575)) (fun (b6,b7,b4)=>([(11,Vp b4),(93,.agg (cw [b6,b7]).toArray),(104,.agg (cw [a0,a1]).toArray),(101,.agg (cw [e0,e3]).toArray),(97,.agg (cw [d8,d9]).toArray),(9,Vp a2),(35,Vi j),(6,Vi i),(32,Vi i),(4,.slice a5 9 a6),(5,Vp a7),(2,Vp b1),(1,Vp bW)],[zK b4 32 (cw [wz,wz])],[zK a2 32 (cw [a8,a9]),zK b5 32 (cw [a0,a1]),zK a7 62 [.slice a3 9 a4],zK b1 98 [.slice pX nX cX,.slice pZ nZ cZ,wl1.b,wl1.l,wl2.b,wl2.l,wh1.b,wh1.l,wh2.b,wh2.l]],[qF true b6 b7 ((gQ xx i)*(gQ W j)),qF true e0 e3 (gQ W i),qF true d8 d9 (gQ xx j),qF true a8 a9 ((((gQ W i)*(gQ yy j)) - ((gQ W j)*(gQ yy i))) / (((gQ xx i)*(gQ yy j)) - ((gQ xx j)*(gQ yy i)))),qF true a0 a1 (((gQ xx i)*(gQ yy j)) - ((gQ xx j)*(gQ yy i))),zI rQ a5 a6 xx,zI rQ a3 a4 yy,zI (rS rQ) pX cX X,zI (rS rQ) pZ cZ Z,qF true wl1 wl2 lo,qF true wh1 wh2 hi9,j8 bW 0 [.slice pW 9 cW],zI rQ pW cW W])) ?_ (fun g8=> ?_)
 rintro ⟨b6,b7,b4⟩
 dsimp only [cw]
 refine jt 17 kr<|zp rfl (.c rfl (.c rfl .n)) zP (jH (k1:=true) (u1:=d8) (v1:=d9) (q1:=(xx.getD j (0:Rat))) (k2:=true) (u2:=e0) (v2:=e3) (q2:=(W.getD i (0:Rat))) (hl:=zL)) (vj 2 1) ?_
 rintro ⟨c6,c7⟩ -
 exact qn (g5 (b6,b7,c6,c7,b4)) kr (mR rfl) .rfl .rfl ((.of [0,1,4,5,6,7,8,9,10,11,12,13] rfl))
 refine q6 (X:=Wd×Wd) (k':=9) (L':=(lb 27 655359)) (fun (b6,b7)=>([(93,.agg (cw [b6,b7]).toArray),(104,.agg (cw [a0,a1]).toArray),(101,.agg (cw [e0,e3]).toArray),(97,.agg (cw [d8,d9]).toArray),(9,Vp a2),(35,Vi j),(6,Vi i),(32,Vi i),(4,.slice a5 9 a6),(5,Vp a7),(2,Vp b1),(1,Vp bW)],[],[zK a2 32 (cw [a8,a9]),zK b5 32 (cw [a0,a1]),zK a7 62 [.slice a3 9 a4],zK b1 98 [.slice pX nX cX,.slice pZ nZ cZ,wl1.b,wl1.l,wl2.b,wl2.l,wh1.b,wh1.l,wh2.b,wh2.l]],[qF true b6 b7 ((gQ xx i)*(gQ W j)),qF true e0 e3 (gQ W i),qF true d8 d9 (gQ xx j),qF true a8 a9 ((((gQ W i)*(gQ yy j)) - ((gQ W j)*(gQ yy i))) / (((gQ xx i)*(gQ yy j)) - ((gQ xx j)*(gQ yy i)))),qF true a0 a1 (((gQ xx i)*(gQ yy j)) - ((gQ xx j)*(gQ yy i))),zI rQ a5 a6 xx,zI rQ a3 a4 yy,zI (rS rQ) pX cX X,zI (rS rQ) pZ cZ Z,qF true wl1 wl2 lo,qF true wh1 wh2 hi9,j8 bW 0 [.slice pW 9 cW],zI rQ pW cW W])) ?_ (fun i9=> ?_)
 rintro ⟨b6,b7⟩
 refine Qq 17 24 kr ?_ ?_
 refine zp rfl (.c rfl (.c rfl .n)) zP (jH (k1:=true) (u1:=d8) (v1:=d9) (q1:=(xx.getD j (0:Rat))) (k2:=true) (u2:=e0) (v2:=e3) (q2:=(W.getD i (0:Rat))) (hl:=zL)) (vj 2 1) ?_
 rintro ⟨c6,c7⟩ -
 exact qn (i8 (b6,b7,c6,c7)) kr (mR rfl) .rfl .rfl ((.of [0,1,4,5,6,7,8,9,10,11,12,13] rfl))
 refine jr rfl (zo vh rfl) (fun b4 _=> ?_)
 exact qn (g8 (b6,b7,b4)) kr (mR rfl) .rfl .rfl ((.of [0,1,2,3,4,5,6,7,8,9,10,11,12] rfl))
 refine q6 (X:=Nat) (k':=9) (L':=(lb 27 17432319)) (fun b4=>([(11,Vp b4),(104,.agg (cw [a0,a1]).toArray),(101,.agg (cw [e0,e3]).toArray),(97,.agg (cw [d8,d9]).toArray),(92,.agg (cw [g0,g1]).toArray),(88,.agg (cw [f8,f9]).toArray),(9,Vp a2),(35,Vi j),(6,Vi i),(32,Vi i),(4,.slice a5 9 a6),(5,Vp a7),(2,Vp b1),(1,Vp bW)],[zK b4 32 (cw [wz,wz])],[zK a2 32 (cw [a8,a9]),zK b5 32 (cw [a0,a1]),zK a7 62 [.slice a3 9 a4],zK b1 98 [.slice pX nX cX,.slice pZ nZ cZ,wl1.b,wl1.l,wl2.b,wl2.l,wh1.b,wh1.l,wh2.b,wh2.l]],[qF true e0 e3 (gQ W i),qF true d8 d9 (gQ xx j),qF true g0 g1 (gQ W j),qF true f8 f9 (gQ xx i),qF true a8 a9 ((((gQ W i)*(gQ yy j)) - ((gQ W j)*(gQ yy i))) / (((gQ xx i)*(gQ yy j)) - ((gQ xx j)*(gQ yy i)))),qF true a0 a1 (((gQ xx i)*(gQ yy j)) - ((gQ xx j)*(gQ yy i))),zI rQ a5 a6 xx,zI rQ a3 a4 yy,zI (rS rQ) pX cX X,zI (rS rQ) pZ cZ Z,qF true wl1 wl2 lo,qF true wh1 wh2 hi9,j8 bW 0 [.slice pW 9 cW],zI rQ pW cW W])) ?_ (fun k0=> ?_)
 rintro b4
 dsimp only [cw]
 refine jt 8 kr<|zp rfl (.c rfl (.c rfl .n)) zP (jH (k1:=true) (u1:=f8) (v1:=f9) (q1:=(xx.getD i (0:Rat))) (k2:=true) (u2:=g0) (v2:=g1) (q2:=(W.getD j (0:Rat))) (hl:=zL)) (vj 3 2) ?_
 rintro ⟨b6,b7⟩ -
 exact qn (g8 (b6,b7,b4)) kr (mR rfl) .rfl .rfl ((.of [0,1,2,5,6,7,8,9,10,11,12,13,14] rfl))
 refine Qq 8 24 kr ?_ ?_
 refine zp rfl (.c rfl (.c rfl .n)) zP (jH (k1:=true) (u1:=f8) (v1:=f9) (q1:=(xx.getD i (0:Rat))) (k2:=true) (u2:=g0) (v2:=g1) (q2:=(W.getD j (0:Rat))) (hl:=zL)) (vj 3 2) ?_
 rintro ⟨b6,b7⟩ -
 exact qn (i9 (b6,b7)) kr (mR rfl) .rfl .rfl ((.of [0,1,2,5,6,7,8,9,10,11,12,13,14] rfl))
 refine jr rfl (zo vh rfl) (fun b4 _=> ?_)
 exact qn (k0 b4) kr (mR rfl) .rfl .rfl ((.of [0,1,2,3,4,5,6,7,8,9,10,11,12,13] rfl))
 refine q6 (X:=Wd×Wd×Nat) (k':=2) (L':=(lb 27 33554431)) (fun (a8,a9,a2)=>([(9,Vp a2),(83,.int .i64 0),(82,.agg (cw [a8,a9]).toArray),(8,Vp b5),(7,Vi j),(35,Vi j),(6,Vi i),(32,Vi i),(4,.slice a5 9 a6),(5,Vp a7),(2,Vp b1),(1,Vp bW)],[zK a2 32 (cw [wz,wz])],[zK b5 32 (cw [a0,a1]),zK a7 62 [.slice a3 9 a4],zK b1 98 [.slice pX nX cX,.slice pZ nZ cZ,wl1.b,wl1.l,wl2.b,wl2.l,wh1.b,wh1.l,wh2.b,wh2.l]],[qF true a8 a9 ((((gQ W i)*(gQ yy j)) - ((gQ W j)*(gQ yy i))) / (((gQ xx i)*(gQ yy j)) - ((gQ xx j)*(gQ yy i)))),qF true a0 a1 (((gQ xx i)*(gQ yy j)) - ((gQ xx j)*(gQ yy i))),zI rQ a5 a6 xx,zI rQ a3 a4 yy,zI (rS rQ) pX cX X,zI (rS rQ) pZ cZ Z,qF true wl1 wl2 lo,qF true wh1 wh2 hi9,j8 bW 0 [.slice pW 9 cW],zI rQ pW cW W])) ?_ (fun g3=> ?_)
 rintro ⟨a8,a9,a2⟩
 refine jt 25 kr<|zH rfl rfl rfl rfl qk (.t4 .nil)<|zC 26 rfl (zT rfl) ?_
 exact qn (i5 (a8,a9,a2)) kr (mR rfl) .rfl .rfl ((.of [0,1,2,3,4,5,6,7,8,9] rfl))
 refine q6 (X:=Wd×Wd) (k':=3) (L':=(lb 27 16777215)) (fun (a8,a9)=>([(83,.int .i64 0),(82,.agg (cw [a8,a9]).toArray),(8,Vp b5),(7,Vi j),(35,Vi j),(6,Vi i),(32,Vi i),(4,.slice a5 9 a6),(5,Vp a7),(2,Vp b1),(1,Vp bW)],[],[zK b5 32 (cw [a0,a1]),zK a7 62 [.slice a3 9 a4],zK b1 98 [.slice pX nX cX,.slice pZ nZ cZ,wl1.b,wl1.l,wl2.b,wl2.l,wh1.b,wh1.l,wh2.b,wh2.l]],[qF true a8 a9 ((((gQ W i)*(gQ yy j)) - ((gQ W j)*(gQ yy i))) / (((gQ xx i)*(gQ yy j)) - ((gQ xx j)*(gQ yy i)))),qF true a0 a1 (((gQ xx i)*(gQ yy j)) - ((gQ xx j)*(gQ yy i))),zI rQ a5 a6 xx,zI rQ a3 a4 yy,zI (rS rQ) pX cX X,zI (rS rQ) pZ cZ Z,qF true wl1 wl2 lo,qF true wh1 wh2 hi9,j8 bW 0 [.slice pW 9 cW],zI rQ pW cW W])) ?_ (fun i6=> ?_)
 rintro ⟨a8,a9⟩
 refine jt 24 kr<|jr rfl (zo vh rfl) (fun a2 _=> ?_)
 exact qn (g3 (a8,a9,a2)) kr (mR rfl) .rfl .rfl ((.of [0,1,2,3,4,5,6,7,8,9] rfl))
 refine q6 (X:=Wd×Wd×Nat) (k':=6) (L':=(lb 27 17825791)) (fun (c8,c9,a2)=>([(9,Vp a2),(79,.agg (cw [c8,c9]).toArray),(80,.agg (cw [a0,a1]).toArray),(8,Vp b5),(7,Vi j),(35,Vi j),(6,Vi i),(32,Vi i),(4,.slice a5 9 a6),(5,Vp a7),(2,Vp b1),(1,Vp bW)],[zK a2 32 (cw [wz,wz])],[zK b5 32 (cw [a0,a1]),zK a7 62 [.slice a3 9 a4],zK b1 98 [.slice pX nX cX,.slice pZ nZ cZ,wl1.b,wl1.l,wl2.b,wl2.l,wh1.b,wh1.l,wh2.b,wh2.l]],[qF true c8 c9 (((gQ W i)*(gQ yy j)) - ((gQ W j)*(gQ yy i))),qF true a0 a1 (((gQ xx i)*(gQ yy j)) - ((gQ xx j)*(gQ yy i))),zI rQ a5 a6 xx,zI rQ a3 a4 yy,zI (rS rQ) pX cX X,zI (rS rQ) pZ cZ Z,qF true wl1 wl2 lo,qF true wh1 wh2 hi9,j8 bW 0 [.slice pW 9 cW],zI rQ pW cW W])) ?_ (fun g4=> ?_)
 rintro ⟨c8,c9,a2⟩
 dsimp only [cw]
 refine jt 20 kr<|zp rfl (.c rfl (.c rfl .n)) zP (jX (k1:=true) (u1:=c8) (v1:=c9) (q1:=((W.getD i (0:Rat))*(yy.getD j (0:Rat))) - ((W.getD j (0:Rat))*(yy.getD i (0:Rat)))) (k2:=true) (u2:=a0) (v2:=a1) (q2:=((xx.getD i (0:Rat))*(yy.getD j (0:Rat))) - ((xx.getD j (0:Rat))*(yy.getD i (0:Rat)))) (hl:=om) (hy:=by exact hD)) (vj 0 1) ?_
 rintro ⟨a8,a9⟩ -
 refine zQ 21 rfl rfl<|zC 22 rfl (qD rfl rfl)<|zC 23 rfl (qD rfl rfl) ?_
 exact qn (g3 (a8,a9,a2)) kr (mR rfl) .rfl .rfl ((.of [0,2,3,4,5,6,7,8,9,10] rfl))
 refine q6 (X:=Wd×Wd) (k':=7) (L':=(lb 27 1048575)) (fun (c8,c9)=>([(79,.agg (cw [c8,c9]).toArray),(80,.agg (cw [a0,a1]).toArray),(8,Vp b5),(7,Vi j),(35,Vi j),(6,Vi i),(32,Vi i),(4,.slice a5 9 a6),(5,Vp a7),(2,Vp b1),(1,Vp bW)],[],[zK b5 32 (cw [a0,a1]),zK a7 62 [.slice a3 9 a4],zK b1 98 [.slice pX nX cX,.slice pZ nZ cZ,wl1.b,wl1.l,wl2.b,wl2.l,wh1.b,wh1.l,wh2.b,wh2.l]],[qF true c8 c9 (((gQ W i)*(gQ yy j)) - ((gQ W j)*(gQ yy i))),qF true a0 a1 (((gQ xx i)*(gQ yy j)) - ((gQ xx j)*(gQ yy i))),zI rQ a5 a6 xx,zI rQ a3 a4 yy,zI (rS rQ) pX cX X,zI (rS rQ) pZ cZ Z,qF true wl1 wl2 lo,qF true wh1 wh2 hi9,j8 bW 0 [.slice pW 9 cW],zI rQ pW cW W])) ?_ (fun i7=> ?_)
 rintro ⟨c8,c9⟩
 refine Qq 20 24 kr ?_ ?_
 refine zp rfl (.c rfl (.c rfl .n)) zP (jX (k1:=true) (u1:=c8) (v1:=c9) (q1:=((W.getD i (0:Rat))*(yy.getD j (0:Rat))) - ((W.getD j (0:Rat))*(yy.getD i (0:Rat)))) (k2:=true) (u2:=a0) (v2:=a1) (q2:=((xx.getD i (0:Rat))*(yy.getD j (0:Rat))) - ((xx.getD j (0:Rat))*(yy.getD i (0:Rat)))) (hl:=om) (hy:=by exact hD)) (vj 0 1) ?_
 rintro ⟨a8,a9⟩ -
 refine zQ 21 rfl rfl<|zC 22 rfl (qD rfl rfl)<|zC 23 rfl (qD rfl rfl) ?_
 exact qn (i6 (a8,a9)) kr (mR rfl) .rfl .rfl ((.of [0,2,3,4,5,6,7,8,9,10] rfl))
 refine jr rfl (zo vh rfl) (fun a2 _=> ?_)
 exact qn (g4 (c8,c9,a2)) kr (mR rfl) .rfl .rfl ((.of [0,1,2,3,4,5,6,7,8,9] rfl))
 refine q6 (X:=Wd×Wd×Wd×Wd×Nat) (k':=7) (L':=(lb 27 17563647)) (fun (b9,c1,d0,d1,a2)=>([(9,Vp a2),(78,.agg (cw [d0,d1]).toArray),(69,.agg (cw [b9,c1]).toArray),(80,.agg (cw [a0,a1]).toArray),(8,Vp b5),(7,Vi j),(35,Vi j),(6,Vi i),(32,Vi i),(4,.slice a5 9 a6),(5,Vp a7),(2,Vp b1),(1,Vp bW)],[zK a2 32 (cw [wz,wz])],[zK b5 32 (cw [a0,a1]),zK a7 62 [.slice a3 9 a4],zK b1 98 [.slice pX nX cX,.slice pZ nZ cZ,wl1.b,wl1.l,wl2.b,wl2.l,wh1.b,wh1.l,wh2.b,wh2.l]],[qF true d0 d1 ((gQ W j)*(gQ yy i)),qF true b9 c1 ((gQ W i)*(gQ yy j)),qF true a0 a1 (((gQ xx i)*(gQ yy j)) - ((gQ xx j)*(gQ yy i))),zI rQ a5 a6 xx,zI rQ a3 a4 yy,zI (rS rQ) pX cX X,zI (rS rQ) pZ cZ Z,qF true wl1 wl2 lo,qF true wh1 wh2 hi9,j8 bW 0 [.slice pW 9 cW],zI rQ pW cW W])) ?_ (fun g5=> ?_)
 rintro ⟨b9,c1,d0,d1,a2⟩
 dsimp only [cw]
 refine jt 18 kr<|zp rfl (.c rfl (.c rfl .n)) zP (VZ (k1:=true) (u1:=b9) (v1:=c1) (q1:=(W.getD i (0:Rat))*(yy.getD j (0:Rat))) (k2:=true) (u2:=d0) (v2:=d1) (q2:=(W.getD j (0:Rat))*(yy.getD i (0:Rat))) (hl:=zL)) (vj 1 0) ?_
 rintro ⟨c8,c9⟩ -
 exact qn (g4 (c8,c9,a2)) kr (mR rfl) .rfl .rfl ((.of [0,3,4,5,6,7,8,9,10,11] rfl))
 refine q6 (X:=Wd×Wd×Wd×Wd) (k':=8) (L':=(lb 27 786431)) (fun (b9,c1,d0,d1)=>([(78,.agg (cw [d0,d1]).toArray),(69,.agg (cw [b9,c1]).toArray),(80,.agg (cw [a0,a1]).toArray),(8,Vp b5),(7,Vi j),(35,Vi j),(6,Vi i),(32,Vi i),(4,.slice a5 9 a6),(5,Vp a7),(2,Vp b1),(1,Vp bW)],[],[zK b5 32 (cw [a0,a1]),zK a7 62 [.slice a3 9 a4],zK b1 98 [.slice pX nX cX,.slice pZ nZ cZ,wl1.b,wl1.l,wl2.b,wl2.l,wh1.b,wh1.l,wh2.b,wh2.l]],[qF true d0 d1 ((gQ W j)*(gQ yy i)),qF true b9 c1 ((gQ W i)*(gQ yy j)),qF true a0 a1 (((gQ xx i)*(gQ yy j)) - ((gQ xx j)*(gQ yy i))),zI rQ a5 a6 xx,zI rQ a3 a4 yy,zI (rS rQ) pX cX X,zI (rS rQ) pZ cZ Z,qF true wl1 wl2 lo,qF true wh1 wh2 hi9,j8 bW 0 [.slice pW 9 cW],zI rQ pW cW W])) ?_ (fun i8=> ?_)
 rintro ⟨b9,c1,d0,d1⟩
 refine Qq 18 24 kr ?_ ?_
 refine zp rfl (.c rfl (.c rfl .n)) zP (VZ (k1:=true) (u1:=b9) (v1:=c1) (q1:=(W.getD i (0:Rat))*(yy.getD j (0:Rat))) (k2:=true) (u2:=d0) (v2:=d1) (q2:=(W.getD j (0:Rat))*(yy.getD i (0:Rat))) (hl:=zL)) (vj 1 0) ?_
 rintro ⟨c8,c9⟩ -
 exact qn (i7 (c8,c9)) kr (mR rfl) .rfl .rfl ((.of [0,3,4,5,6,7,8,9,10,11] rfl))
 refine jr rfl (zo vh rfl) (fun a2 _=> ?_)
 exact qn (g5 (b9,c1,d0,d1,a2)) kr (mR rfl) .rfl .rfl ((.of [0,1,2,3,4,5,6,7,8,9,10] rfl))
 refine q6 (X:=Wd×Wd×Nat) (k':=8) (L':=(lb 27 17432575)) (fun (b9,c1,a2)=>([(9,Vp a2),(69,.agg (cw [b9,c1]).toArray),(80,.agg (cw [a0,a1]).toArray),(77,.agg (cw [d6,d7]).toArray),(73,.agg (cw [d4,d5]).toArray),(8,Vp b5),(7,Vi j),(35,Vi j),(6,Vi i),(32,Vi i),(4,.slice a5 9 a6),(5,Vp a7),(2,Vp b1),(1,Vp bW)],[zK a2 32 (cw [wz,wz])],[zK b5 32 (cw [a0,a1]),zK a7 62 [.slice a3 9 a4],zK b1 98 [.slice pX nX cX,.slice pZ nZ cZ,wl1.b,wl1.l,wl2.b,wl2.l,wh1.b,wh1.l,wh2.b,wh2.l]],[qF true b9 c1 ((gQ W i)*(gQ yy j)),qF true d6 d7 (gQ yy i),qF true d4 d5 (gQ W j),qF true a0 a1 (((gQ xx i)*(gQ yy j)) - ((gQ xx j)*(gQ yy i))),zI rQ a5 a6 xx,zI rQ a3 a4 yy,zI (rS rQ) pX cX X,zI (rS rQ) pZ cZ Z,qF true wl1 wl2 lo,qF true wh1 wh2 hi9,j8 bW 0 [.slice pW 9 cW],zI rQ pW cW W])) ?_ (fun g8=> ?_)
 rintro ⟨b9,c1,a2⟩
 dsimp only [cw]
 refine jt 17 kr<|zp rfl (.c rfl (.c rfl .n)) zP (jH (k1:=true) (u1:=d4) (v1:=d5) (q1:=(W.getD j (0:Rat))) (k2:=true) (u2:=d6) (v2:=d7) (q2:=(yy.getD i (0:Rat))) (hl:=zL)) (vj 2 1) ?_
 rintro ⟨d0,d1⟩ -
 exact qn (g5 (b9,c1,d0,d1,a2)) kr (mR rfl) .rfl .rfl ((.of [0,1,4,5,6,7,8,9,10,11,12] rfl))
 refine q6 (X:=Wd×Wd) (k':=9) (L':=(lb 27 655359)) (fun (b9,c1)=>([(69,.agg (cw [b9,c1]).toArray),(80,.agg (cw [a0,a1]).toArray),(77,.agg (cw [d6,d7]).toArray),(73,.agg (cw [d4,d5]).toArray),(8,Vp b5),(7,Vi j),(35,Vi j),(6,Vi i),(32,Vi i),(4,.slice a5 9 a6),(5,Vp a7),(2,Vp b1),(1,Vp bW)],[],[zK b5 32 (cw [a0,a1]),zK a7 62 [.slice a3 9 a4],zK b1 98 [.slice pX nX cX,.slice pZ nZ cZ,wl1.b,wl1.l,wl2.b,wl2.l,wh1.b,wh1.l,wh2.b,wh2.l]],[qF true b9 c1 ((gQ W i)*(gQ yy j)),qF true d6 d7 (gQ yy i),qF true d4 d5 (gQ W j),qF true a0 a1 (((gQ xx i)*(gQ yy j)) - ((gQ xx j)*(gQ yy i))),zI rQ a5 a6 xx,zI rQ a3 a4 yy,zI (rS rQ) pX cX X,zI (rS rQ) pZ cZ Z,qF true wl1 wl2 lo,qF true wh1 wh2 hi9,j8 bW 0 [.slice pW 9 cW],zI rQ pW cW W])) ?_ (fun i9=> ?_)
 rintro ⟨b9,c1⟩
 refine Qq 17 24 kr ?_ ?_
 refine zp rfl (.c rfl (.c rfl .n)) zP (jH (k1:=true) (u1:=d4) (v1:=d5) (q1:=(W.getD j (0:Rat))) (k2:=true) (u2:=d6) (v2:=d7) (q2:=(yy.getD i (0:Rat))) (hl:=zL)) (vj 2 1) ?_
 rintro ⟨d0,d1⟩ -
 exact qn (i8 (b9,c1,d0,d1)) kr (mR rfl) .rfl .rfl ((.of [0,1,4,5,6,7,8,9,10,11,12] rfl))
 refine jr rfl (zo vh rfl) (fun a2 _=> ?_)
 exact qn (g8 (b9,c1,a2)) kr (mR rfl) .rfl .rfl ((.of [0,1,2,3,4,5,6,7,8,9,10,11] rfl))
 refine q6 (X:=Nat) (k':=9) (L':=(lb 27 17432319)) (fun a2=>([(9,Vp a2),(80,.agg (cw [a0,a1]).toArray),(77,.agg (cw [d6,d7]).toArray),(73,.agg (cw [d4,d5]).toArray),(68,.agg (cw [f6,f7]).toArray),(64,.agg (cw [f4,f5]).toArray),(8,Vp b5),(7,Vi j),(35,Vi j),(6,Vi i),(32,Vi i),(4,.slice a5 9 a6),(5,Vp a7),(2,Vp b1),(1,Vp bW)],[zK a2 32 (cw [wz,wz])],[zK b5 32 (cw [a0,a1]),zK a7 62 [.slice a3 9 a4],zK b1 98 [.slice pX nX cX,.slice pZ nZ cZ,wl1.b,wl1.l,wl2.b,wl2.l,wh1.b,wh1.l,wh2.b,wh2.l]],[qF true d6 d7 (gQ yy i),qF true d4 d5 (gQ W j),qF true f6 f7 (gQ yy j),qF true f4 f5 (gQ W i),qF true a0 a1 (((gQ xx i)*(gQ yy j)) - ((gQ xx j)*(gQ yy i))),zI rQ a5 a6 xx,zI rQ a3 a4 yy,zI (rS rQ) pX cX X,zI (rS rQ) pZ cZ Z,qF true wl1 wl2 lo,qF true wh1 wh2 hi9,j8 bW 0 [.slice pW 9 cW],zI rQ pW cW W])) ?_ (fun k0=> ?_)
 rintro a2
 dsimp only [cw]
 refine jt 8 kr<|zp rfl (.c rfl (.c rfl .n)) zP (jH (k1:=true) (u1:=f4) (v1:=f5) (q1:=(W.getD i (0:Rat))) (k2:=true) (u2:=f6) (v2:=f7) (q2:=(yy.getD j (0:Rat))) (hl:=zL)) (vj 3 2) ?_
 rintro ⟨b9,c1⟩ -
 exact qn (g8 (b9,c1,a2)) kr (mR rfl) .rfl .rfl ((.of [0,1,2,5,6,7,8,9,10,11,12,13] rfl))
 refine Qq 8 24 kr ?_ ?_
 refine zp rfl (.c rfl (.c rfl .n)) zP (jH (k1:=true) (u1:=f4) (v1:=f5) (q1:=(W.getD i (0:Rat))) (k2:=true) (u2:=f6) (v2:=f7) (q2:=(yy.getD j (0:Rat))) (hl:=zL)) (vj 3 2) ?_
 rintro ⟨b9,c1⟩ -
 exact qn (i9 (b9,c1)) kr (mR rfl) .rfl .rfl ((.of [0,1,2,5,10,11,12,13,14,15,16,17] rfl))
 refine jr rfl (zo vh rfl) (fun a2 _=> ?_)
 exact qn (k0 a2) kr (mR rfl) .rfl .rfl ((.of [0,1,2,3,4,9,10,11,12,13,14,15,16] rfl))
 refine z7<|ze<|ze<|zn<|zG<|zi<|zv<|zE (qj rfl rfl)<|qY 1 rfl<|zW (i+1) (by refine ⟨Oo,fun a b ha hb=> ?_⟩;by_cases e:a=i;rw [e];exact hrow b om;exact hall a b om hb) om (mR rfl) ((.of [0,0] rfl):zJ _ _ _) ((.of [0,1,2,3,4,5,6,7] rfl))
 refine z7<|ze<|ze<|zn<|zi<|qe ?_
 have hall9:∀a b,a<9→b<9→Ro.D2 xx yy a b=0:=fun a b ha hb=>hall a b om hb
 refine zv<|zE (qr vh rfl Tryz.underlying32 (.c z8 (.c z8 .n)) .n .n)<|zB (zo vh rfl) (fun h9=> ?_)
 refine zh 0 rfl rfl rfl rfl qk (.t4 .nil) .z<|jn 1 rfl<|qe<|zey (qF false wz wz 0) (fun g _=>zbU g)<|k22 1 rfl<|zk<|z5 (X:=Nat×Wd×Wd×Rat×Bool×Int) (fun x=>x.1≤9∧Ro.Quo yy W x.1 x.2.2.2.2.1 x.2.2.2.2.2 x.2.2.2.1) (fun x=>[(16,.int .i64 (x.2.2.2.2.2)),(135,Vi x.1)]) [15,5,1] (fun x=>[zK h9 32 (cw [x.2.1,x.2.2.1]),zK a7 62 [.slice a3 9 a4],zK b1 98 [.slice pX nX cX,.slice pZ nZ cZ,wl1.b,wl1.l,wl2.b,wl2.l,wh1.b,wh1.l,wh2.b,wh2.l]]) (fun x=>[qF x.2.2.2.2.1 x.2.1 x.2.2.1 (x.2.2.2.1)]) [2,3,4,5,6,7,8] (fun x=>9 - x.1) (0,wz,wz,(0:Rat),false,14) (by exact ⟨yO _,Ro.Quo.start _ _ _⟩) (.c rfl (.e rfl vA .n)) ((.e (i:=0) rfl vA (.of [0,0] rfl)):zJ _ _ _) ((.of [0] rfl)) ?_
 rintro ⟨i,wa,wb,qq,kb,kc⟩ l0
 dsimp only at l0
 obtain ⟨hi,hQ⟩:=l0
 refine jg 1 rfl<|zx rfl (fun n5=> ?_) (fun n5=> ?_)
 refine vY<|zk<|k12 2 rfl<|ji (X:=Bool) (fun x=>(x=true↔(yy.getD i 0≠0∧kc≠0))) (fun x=>[(147,.bool x),(17,Vi i),(16,.int .i64 kc),(135,Vi i),(15,Vp h9),(5,Vp a7),(1,Vp bW)]) (fun x=>[zK h9 32 (cw [wa,wb]),zK a7 62 [.slice a3 9 a4],zK b1 98 [.slice pX nX cX,.slice pZ nZ cZ,wl1.b,wl1.l,wl2.b,wl2.l,wh1.b,wh1.l,wh2.b,wh2.l]]) (fun x=>[qF kb wa wb qq,zI rQ a3 a4 yy,zI (rS rQ) pX cX X,zI (rS rQ) pZ cZ Z,qF true wl1 wl2 lo,qF true wh1 wh2 hi9,j8 bW 0 [.slice pW 9 cW],zI rQ pW cW W]) ?_ ?_
 have hxb:=hby i
 refine zv<|zw (zc 1 vF rfl rfl rfl)<|qJ rfl<|vX (zM (x0:=(gQ yy i)) 1 i rfl yd qk rfl zL rfl rfl (gD (d:=(0:Rat)) om)) ?_
 rintro ⟨b61,o62,n6,n7⟩ -
 dsimp only [aq,nq,cq]
 refine vd qR<|zw (zA (j:=0) 0 qp rfl rfl rfl (.t4 .nil))<|qg (.c rfl .n) zP (Ke (k1:=true) (u1:=n6) (v1:=n7) (q1:=(yy.getD i (0:Rat))) (hl:=zL)) (qX 1) ?_
 refine zE (zhs rfl rfl)<|q8 (qU rfl) (fun h0=> ?_) (fun h0=> ?_)
 refine qY 3 rfl ?_
 exact qL (decide (kc≠0)) (show ((decide (kc≠0))=true↔(yy.getD i 0≠0∧kc≠0)) from by first|exact ⟨fun e=>absurd e dd,fun z=>absurd (Td.zn7 (Decidable.not_not.1 h0)) z.1⟩|exact ⟨fun e=>⟨fun z=>h0 (by rw [z];rfl),of_decide_eq_true e⟩,fun z=>decide_eq_true z.2⟩) (mR rfl) (ho:=((.of [0,0,0] rfl):zJ _ _ _)) ((.of [2,3,4,5,6,7,8,9] rfl):q9 _ _ _)
 refine qY 3 rfl ?_
 exact qL false (show (false=true↔(yy.getD i 0≠0∧kc≠0)) from by first|exact ⟨fun e=>absurd e dd,fun z=>absurd (Td.zn7 (Decidable.not_not.1 h0)) z.1⟩|exact ⟨fun e=>⟨fun z=>h0 (by rw [z];rfl),of_decide_eq_true e⟩,fun z=>decide_eq_true z.2⟩) ((.e rfl (congrArg Value.bool JS) (.of rfl)):vQ _ _) (ho:=((.of [0,0,0] rfl):zJ _ _ _)) ((.of [2,3,4,5,6,7,8,9] rfl):q9 _ _ _)
 rintro g7 l1
 refine ZN rfl (fun h3=> ?_) (fun h3=> ?_)
 have k3:yy.getD i 0≠0:=(l1.1 (by first|exact h3|simpa using h3)).1
 have m1:=hby i
 have m2:=hbW i
 have r8:=Big.Qs (W.getD i 0) k3
 refine Vk 12<|vE 0 rfl (zf (j:=0) 6 vF rfl rfl rfl rfl)<|zQ 1 rfl rfl<|jc 2 rfl (zM (x0:=(gQ W i)) 7 i rfl yd qk rfl zL rfl rfl (gD (d:=(0:Rat)) om)) ?_
 rintro ⟨b66,o67,n8,n9⟩ -
 refine vi qR<|vE 3 rfl (zA (j:=0) 0 qp rfl rfl rfl (.t4 .nil))<|qy 4 rfl (zc 1 vF rfl rfl rfl)<|zQ 5 rfl rfl<|jc 6 rfl (zM (x0:=(gQ yy i)) 3 i rfl yd qk rfl zL rfl rfl (gD (d:=(0:Rat)) om)) ?_
 rintro ⟨b70,o71,o1,o2⟩ -
 dsimp only [aq,nq,cq]
 refine vi qR<|vE 7 rfl (zA (j:=0) 0 qp rfl rfl rfl (.t4 .nil)) ?_
 refine zt 8 (zp rfl (.c rfl (.c rfl .n)) zP (jX (k1:=true) (u1:=n8) (v1:=n9) (q1:=(W.getD i (0:Rat))) (k2:=true) (u2:=o1) (v2:=o2) (q2:=(yy.getD i (0:Rat))) (hl:=zL) (hy:=by exact k3)) (vj 3 1) ?_)
 rintro ⟨o3,o4⟩ -
 refine zQ 9 rfl rfl<|zC 10 rfl (qD rfl rfl)<|zC 11 rfl (qD rfl rfl)<|zt 12 (zH rfl rfl rfl rfl qk (.t4 .nil) ?_)
 refine zC 13 rfl (zT rfl)<|zU kr<|zG<|zi<|zv<|zE (qj rfl rfl)<|qY 1 rfl<|zW ((i+1),o3,o4,(W.getD i 0 / yy.getD i 0),true,0) (by exact ⟨Oo,Ro.Quo.found om k3 rfl⟩) om (mR rfl) ((.of [0,0,0] rfl):zJ _ _ _) ((.e (j:=0) rfl (by first|rfl|simp_all) (.of [6,7,8,9,10,11,12] rfl)))
 refine qN<|zG<|zi<|zv<|zE (qm (z:=(((i+1):Nat):Int)) rfl rfl (Q9 om))<|qJ rfl<|jq<|zW ((i+1),wa,wb,qq,kb,kc) (by exact ⟨Oo,hQ.skip (fun z=>absurd (l1.2 z) (by first|exact h3|simpa using h3))⟩) om (mR rfl) ((.of [0,0,0] rfl):zJ _ _ _) ((.of [0,1,2,3,4,5,6,7] rfl))
 refine z7<|ze<|ze<|zn<|zi<|vU 0 rfl .z<|vU 1 rfl (.s .z) ?_
 have i0:Ro.Quo yy W 9 kb kc qq:=by rw [show 9=i by omega];exact hQ
 refine ji (X:=Bool) (fun x=>(Ro.ztq xx yy W→x=true)) (fun x=>[(3,.bool x)]) (fun x=>[zK b1 98 [.slice pX nX cX,.slice pZ nZ cZ,wl1.b,wl1.l,wl2.b,wl2.l,wh1.b,wh1.l,wh2.b,wh2.l]]) (fun x=>[j8 a7 0 [.slice a3 9 a4],j8 h9 0 [wa.b,wa.l,wb.b,wb.l],qF kb wa wb qq,zI rQ a3 a4 yy,zI (rS rQ) pX cX X,zI (rS rQ) pZ cZ Z,qF true wl1 wl2 lo,qF true wh1 wh2 hi9,j8 bW 0 [.slice pW 9 cW],zI rQ pW cW W]) ?_ ?_
 refine vM 2 rfl<|q8 (qU rfl) (fun h4=> ?_) (fun h4=> ?_)
 have hqt:yh qq≤10000000:=i0.hq h4 hbW hby
 have o5:(kb:Bool)=true:=by exact i0.flag h4
 rw [o5]
 refine qZ (z6 (enc:=fun z:Int=>[.int .i64 z]) (ok:=Vb .i64) (h1:=fun _=>rfl) (h2:=fun _=>rfl) (k:=9) yB Ky rfl dd dd dd (.c (x:=0) rfl rfl (fun _ _=>by exact zu.2 om) (.c (x:=1) rfl rfl (fun _ _=>by exact zu.2 om) (.c (x:=2) rfl rfl (fun _ _=>by exact zu.2 om) (.c (x:=3) rfl rfl (fun _ _=>by exact zu.2 om) (.c (x:=4) rfl rfl (fun _ _=>by exact zu.2 om) (.c (x:=5) rfl rfl (fun _ _=>by exact zu.2 om) (.c (x:=6) rfl rfl (fun _ _=>by exact zu.2 om) (.c (x:=7) rfl rfl (fun _ _=>by exact zu.2 om) (.c (x:=8) rfl rfl (fun _ _=>by exact zu.2 om) .n)))))))))) (fun b77 _=> ?_)
 refine zE (v6 .n (.c rfl (.c rfl (.c rfl .n))))<|qt 0 rfl .z<|zm (q7 rfl rfl) zP (zi0 qB zL qB qB zL) (.c (j:=0) rfl (.c (j:=9) rfl (.c (j:=10) rfl (.c (j:=2) rfl (.c (j:=3) rfl (.c (j:=1) rfl (.c (j:=4) rfl .n))))))) ?_
 rintro o6 hcf
 refine zE (Zo rfl)<|qY 2 rfl ?_
 exact qL (!o6) (by intro hh;obtain ⟨u1,u2⟩:=i0.hit hh.2.1 hh.2.2;first|exact absurd u1 h4|(rw [hcf u2];rfl)) ((.c rfl .n)) ((.c (i:=3) rfl .n):zJ _ _ _) ((.c (j:=1) rfl (.c (j:=2) rfl (.e (j:=3) rfl zL (.of [4,5,6,7,8,9,10] rfl)))))
 refine qY 6 rfl ?_
 exact qL false (by intro hh;obtain ⟨u1,u2⟩:=i0.hit hh.2.1 hh.2.2;first|exact absurd u1 h4|(rw [hcf u2];rfl)) ((.e rfl (congrArg Value.bool JS) .n)) ((.c (i:=2) rfl .n):zJ _ _ _) ((.of [0,1,2,3,4,5,6,7,8,9] rfl))
 rintro g6 o7
 refine vv ?_
 exact zq rfl g6 (fun k=>k.elim (fun z=>by obtain ⟨a,b,ha,hb,hd⟩:=z.1;exact absurd (hall9 a b ha hb) hd) o7) (zj rfl) rfl oN sN
theorem zlD {p:Option Addr} {n:Nat} {cap:Nat} {L:List Ro.Pc} {bW:Nat} {pW:Option Addr} {cW:Nat} {W:List Rat} (hn:L.length=n) (hall:∀i,i<n→Ro.okP (L.getD i pn0)) (hW9:W.length=9) (hbW:∀i,yh (W.getD i 0)≤3000000):CC 125 [.slice p n cap,.func (.func 41) #[] #[Vp bW]] [zI rPn p cap L,j8 bW 0 [.slice pW 9 cW],zI rQ pW cW W] (Y:=Int) (fun y=>((∃k,k<n∧Ro.zq4 W (L.getD k pn0))→0≤y)) (fun y=> .int .i64 y) (fun y=>[]):=by
 refine zg Tryz.func125 rfl rfl (fun c=> ?_)
 refine zN 0 rfl (fun hL0=> ?_)
 refine zN 2 rfl (fun hL2=> ?_)
 refine jg 1 rfl<|jK 1 rfl<|zE (vL yq rfl)<|vZ 1 rfl<|zk<|z5 (X:=Nat) (fun x=>x≤n∧∀k,k<x→¬Ro.zq4 W (L.getD k pn0)) (fun x=>[(8,Vi x)]) [7,0,1] (fun x=>[]) (fun x=>[]) [0,1,2] (fun x=>n - x) 0 (by exact ⟨yO _,fun j h=>by omega⟩) (.e rfl vA .n) oN sN ?_
 rintro i hI
 obtain ⟨hi,hno⟩:=hI
 refine jg 1 rfl<|zx rfl (fun h1=> ?_) (fun h1=> ?_)
 refine vY<|zk<|jS 2 rfl<|kS 3 rfl<|vX (zM (x0:=(L.getD i pn0)) 0 i rfl yq sz98 rfl zL rfl rfl (gD (d:=pn0) om)) ?_
 rintro ⟨b2,o3,w4,w5,w6,w7,w9,w10,w11,w12⟩ -
 refine vd zmQ<|zw (zA (j:=0) 0 ty98 rfl rfl rfl (.t8 (.t2 .nil)))<|ZP rfl (.c rfl .n) zP (zi2 (xx:=((L.getD i pn0).1.flatten)) (yy:=((L.getD i pn0).2.1.flatten)) (by rfl) (by exact (hall i om).m1) (by rfl) (by exact (hall i om).m2) (by rfl) (by rfl) (by exact (hall i om).b1) (by exact (hall i om).b2) (by exact (hall i om).e1) (by exact (hall i om).e2) qB qB) (.c (j:=1) rfl (.c (j:=2) rfl (.c (j:=3) rfl (.c (j:=4) rfl (.c (j:=6) rfl (.c (j:=7) rfl .n)))))) (first:=[]) (cap:=[Vp bW]) ?_
 rintro a1 hht
 refine Vc<|ZN rfl (fun a0=> ?_) (fun a0=> ?_)
 refine Zn 2 rfl<|qz<|zD<|zD<|qz<|zD ?_
 exact zq rfl ((i:Nat):Int) (fun _=>by omega) (zj rfl) rfl oN sN
 refine qN<|zG<|zi<|zv<|zE (qj rfl rfl)<|qY 1 rfl<|zW (i+1) (by refine ⟨Oo,fun k hk=> ?_⟩;by_cases e:k=i;rw [e];exact fun z=>absurd (hht z) (by rw [a0];decide);exact hno k om) om (mR rfl) oN ((.of [5,6,7] rfl))
 refine z7<|ze<|ze<|zn<|zi<|Zn 1 rfl ?_
 exact zq rfl (-1) (fun k=>by obtain ⟨k,hk,e⟩:=k;exact absurd e (hno k om)) (zj rfl) rfl oN sN
theorem zlE {p:Option Addr} {n:Nat} {cap:Nat} {L:List Ro.Pc} {bW:Nat} {pW:Option Addr} {cW:Nat} {W:List Rat} (hn:L.length=n) (hall:∀i,i<n→Ro.okP (L.getD i pn0)) (hW9:W.length=9) (hbW:∀i,yh (W.getD i 0)≤3000000):CC 40 [.slice p n cap,.func (.func 41) #[] #[Vp bW]] [zI rPn p cap L,j8 bW 0 [.slice pW 9 cW],zI rQ pW cW W] (Y:=Bool) (fun y=>((∃k,k<n∧Ro.zq4 W (L.getD k pn0))→y=true)) (fun y=> .bool y) (fun y=>[]):=by
 refine zg Tryz.func40 rfl rfl (fun c=> ?_)
 refine zN 0 rfl (fun hL0=> ?_)
 refine zN 2 rfl (fun hL2=> ?_)
 refine jS 1 rfl<|kS 2 rfl<|zm (q7 rfl rfl) zP (zlD qB qB qB qB) (sg3 0 1 2 rfl rfl rfl) ?_
 rintro a0 hif
 refine Zp 2 rfl ?_
 exact zq rfl (decide (0≤a0)) (fun k=>by have h9:=hif k;exact decide_eq_true om) (zj rfl) rfl oN sN
theorem zhd {s:St} {t:St} {pP:Option Addr} {nP:Nat} {cP:Nat} {lP:List (Int×Int×Int)} (hnP:lP.length=nP) (hs:s.ok) (ht:t.ok) (hn14:nP≤14) (hall:∀jj,jj<nP→(Ro.s5 (lP.getD jj (0,0,0)).1∧Ro.s5 (lP.getD jj (0,0,0)).2.1∧Ro.s5 (lP.getD jj (0,0,0)).2.2)):CC 36 [.agg #[.int .i64 (s.x),.int .i64 (s.y),.int .i64 (s.z),.int .i64 (s.a),.int .i64 (s.b),.int .i64 (s.c),.int .i64 (s.d),.int .i64 (s.f),.int .i64 (s.u),.int .i64 (s.v)],.agg #[.int .i64 (t.x),.int .i64 (t.y),.int .i64 (t.z),.int .i64 (t.a),.int .i64 (t.b),.int .i64 (t.c),.int .i64 (t.d),.int .i64 (t.f),.int .i64 (t.u),.int .i64 (t.v)],.slice pP nP cP] [zI (rI3 .i64) pP cP lP] (Y:=(Option Addr)×Nat×(List Cm)) (fun y=>(y.2.2.length≤14∧∀z,z∈y.2.2→Ro.fr z∧Ro.rel s t z)) (fun y=> .slice (y.1) (y.2.2.length) (y.2.1)) (fun y=>[zI (rI4 .i64) (y.1) (y.2.1) (y.2.2)]):=by
 refine zg Tryz.func36 rfl rfl (fun c=> ?_)
 refine zN 0 rfl (fun hL0=> ?_)
 refine vg<|zB (zX rfl rfl) (fun b1=> ?_)
 refine zB (zX rfl rfl) (fun b2=> ?_)
 refine jD 1 rfl<|jn 1 rfl<|qe<|Zj 148 (rI4 .i64)<|vM 1 rfl<|zE (vL Tryz.underlying85 rfl)<|vZ 1 rfl<|zk<|z5 (X:=Nat×(Option Addr)×Nat×(List Cm)) (fun x=>x.1≤nP∧x.2.2.2.length≤x.1∧∀z,z∈x.2.2.2→Ro.fr z∧Ro.rel s t z) (fun x=>[(7,.slice (x.2.1) (x.2.2.2.length) (x.2.2.1)),(18,Vi x.1)]) [17,16,4,3] (fun x=>[rowA 148 (rI4 .i64) (x.2.1) (x.2.2.1) (x.2.2.2),zK b2 84 [.int .i64 (t.x),.int .i64 (t.y),.int .i64 (t.z),.int .i64 (t.a),.int .i64 (t.b),.int .i64 (t.c),.int .i64 (t.d),.int .i64 (t.f),.int .i64 (t.u),.int .i64 (t.v)],zK b1 84 [.int .i64 (s.x),.int .i64 (s.y),.int .i64 (s.z),.int .i64 (s.a),.int .i64 (s.b),.int .i64 (s.c),.int .i64 (s.d),.int .i64 (s.f),.int .i64 (s.u),.int .i64 (s.v)]]) (fun x=>[]) [0] (fun x=>nP - x.1) (0,none,0,([]:List Cm)) (by exact ⟨yO _,yac _,fun z h=>by cases h⟩) (.e rfl vA (.e rfl vA .n)) ((.e (i:=0) rfl vA (.of [0,0] rfl)):zJ _ _ _) sN ?_
 rintro ⟨i,pR,cR,A⟩ hI
 replace hI:i≤nP∧A.length≤i∧∀z,z∈A→Ro.fr z∧Ro.rel s t z:=hI
 obtain ⟨hi,hAl,hA⟩:=hI
 refine jg 1 rfl<|zx rfl (fun h3=> ?_) (fun h3=> ?_)
 refine vY<|zk<|vg<|qH 0 i rfl Tryz.underlying85 VS rfl zL rfl rfl (gD (d:=(0,0,0)) om) (fun b4 o5 d1=> ?_) (x0:=(lP.getD i (0,0,0)))
 obtain ⟨hok6x,hok6y,hok6z⟩:=d1
 replace hok6x:=zu.1 hok6x
 replace hok6y:=zu.1 hok6y
 replace hok6z:=zu.1 hok6z
 refine zw (zA (j:=0) 0 zfQ rfl rfl rfl (.t2 (.take .nil)))<|zB (zo zr78 rfl) (fun b7=> ?_)
 refine zh 0 rfl rfl rfl rfl VS (.t2 (.take .nil)) .z<|Vj<|zw (za 3 JQ rfl rfl (.t8 (.t2 .nil)))<|zw (za 0 zfQ rfl rfl (.t2 (.take .nil)))<|zm (q7 rfl rfl) zP (zee (by exact hs) (by exact (hall i om).1) (by exact (hall i om).2.1) (by exact (hall i om).2.2)) (.n) ?_
 rintro ⟨a2,a3,L1,a1⟩ a7
 replace a7:(a1=true→L1=(Ro.im s ((lP.getD i (0,0,0)).1) ((lP.getD i (0,0,0)).2.1) ((lP.getD i (0,0,0)).2.2))∧(Ro.dd s ((lP.getD i (0,0,0)).1) ((lP.getD i (0,0,0)).2.1) ((lP.getD i (0,0,0)).2.2)).getD 2 0≠0):=a7
 refine qJ rfl<|zE (qD rfl rfl)<|jD 3 rfl<|zw (za 2 JQ rfl rfl (.t8 (.t2 .nil)))<|zw (za 0 zfQ rfl rfl (.t2 (.take .nil)))<|zm q7 zP (zee (s:=t) (z1:=(lP.getD i (0,0,0)).1) (z2:=(lP.getD i (0,0,0)).2.1) (z3:=(lP.getD i (0,0,0)).2.2) (hs:=by exact ht) (hz1:=by exact (hall i om).1) (hz2:=by exact (hall i om).2.1) (hz3:=by exact (hall i om).2.2)) (.n) ?_
 rintro ⟨a4,a5,L2,a0⟩ a8
 dsimp only [aq,nq,cq]
 replace a8:(a0=true→L2=(Ro.im t ((lP.getD i (0,0,0)).1) ((lP.getD i (0,0,0)).2.1) ((lP.getD i (0,0,0)).2.2))∧(Ro.dd t ((lP.getD i (0,0,0)).1) ((lP.getD i (0,0,0)).2.1) ((lP.getD i (0,0,0)).2.2)).getD 2 0≠0):=a8
 refine qJ rfl<|zE (qD rfl rfl)<|zE (qD rfl rfl)<|zE (zT rfl)<|zE (zT rfl)<|jq<|zi<|qe<|ji (X:=Bool) (fun x=>(x=false→a1=true∧a0=true)) (fun x=>[(39,.bool x),(12,.slice a4 (L2.length) a5),(10,.slice a2 (L1.length) a3),(7,.slice pR (A.length) cR),(18,.int .i64 ((i:Nat):Int)),(17,.int .i64 ((nP:Nat):Int)),(16,.slice pP nP cP),(4,.pointer (some ⟨b2,0,none⟩)),(3,.pointer (some ⟨b1,0,none⟩))]) (fun x=>[rowA 148 (rI4 .i64) pR cR A,zK b2 84 [.int .i64 (t.x),.int .i64 (t.y),.int .i64 (t.z),.int .i64 (t.a),.int .i64 (t.b),.int .i64 (t.c),.int .i64 (t.d),.int .i64 (t.f),.int .i64 (t.u),.int .i64 (t.v)],zK b1 84 [.int .i64 (s.x),.int .i64 (s.y),.int .i64 (s.z),.int .i64 (s.a),.int .i64 (s.b),.int .i64 (s.c),.int .i64 (s.d),.int .i64 (s.f),.int .i64 (s.u),.int .i64 (s.v)]]) (fun x=>[zI rQ a4 a5 L2,zI rQ a2 a3 L1,zI (rI3 .i64) pP cP lP]) ?_ ?_
 refine zv<|qJ rfl<|zE (Zo rfl)<|zhu rfl rfl (qU rfl) (fun a9=> ?_) (fun a9=> ?_)
 refine e_no<|e_no<|zE (jx rfl rfl)<|jq ?_
 exact qL true (show (true=false→a1=true∧a0=true) from by first|(intro e;cases e;done)|(intro e;exact ⟨by simpa using a9,by simpa using e⟩)) ((.e rfl (congrArg Value.bool JS) (.of rfl)):vQ _ _) (ho:=((.of [1,1,1] rfl):zJ _ _ _)) ((.of [0,1,3] rfl):q9 _ _ _)
 refine qJ rfl<|zE (Zo rfl)<|zE (jx rfl rfl)<|jq ?_
 exact qL (!a0) (show ((!a0)=false→a1=true∧a0=true) from by first|(intro e;cases e;done)|(intro e;exact ⟨by simpa using a9,by simpa using e⟩)) (mR rfl) (ho:=((.of [1,1,1] rfl):zJ _ _ _)) ((.of [0,1,3] rfl):q9 _ _ _)
 rintro g9 hC
 replace hC:(g9=false→a1=true∧a0=true):=hC
 try dsimp only
 refine ZN rfl (fun b5=> ?_) (fun b5=> ?_)
 refine z7<|ze<|zn<|zi<|zv<|zE (qm (z:=(((i+1):Nat):Int)) rfl rfl (Q9 om))<|qJ rfl<|jq<|zW ((i+1),pR,cR,A) (show (i+1)≤nP∧A.length≤(i+1)∧∀z,z∈A→Ro.fr z∧Ro.rel s t z from by exact ⟨Oo,Oo,hA⟩) (by show nP - (i+1)<nP - i;omega) ((.e rfl (by first|rfl|(simp;done)) (.of rfl)):vQ _ _) (ho:=((.of [0,0,0] rfl):zJ _ _ _)) ((.c (j:=2) rfl .n):q9 _ _ _)
 obtain ⟨d4,d5⟩:=hC (by first|exact b5|simpa using b5)
 obtain ⟨b6,c5⟩:=a7 d4
 obtain ⟨b8,c6⟩:=a8 d5
 have c7:L1.length=3:=by rw [b6];rfl
 have c8:L2.length=3:=by rw [b8];rfl
 have hpi:=hall i om
 have d6:∀k,yh (L1.getD k 0)≤100:=by rw [b6];exact Ro.zr0 hs hpi.1 hpi.2.1 hpi.2.2 c5
 have d7:∀k,yh (L2.getD k 0)≤100:=by rw [b8];exact Ro.zr0 ht hpi.1 hpi.2.1 hpi.2.2 c6
 refine k80 1 rfl ?_
 have d8:(.slice a2 (L1.length) a3:Value)= .slice a2 3 a3:=by rw [c7]
 rw [d8]
 refine zm (qS rfl) zP (zbF (by exact c7) (by exact d6)) (qX 1 rfl) ?_
 rintro ⟨xa,ya,b9⟩ c1
 replace c1:(-9223372036854775808≤xa∧xa≤9223372036854775807)∧(-9223372036854775808≤ya∧ya≤9223372036854775807)∧(b9=true→((xa:Int):Rat)=L1.getD 0 0∧((ya:Int):Rat)=L1.getD 1 0∧(-0x100000≤xa∧xa≤0x100000)∧(-0x100000≤ya∧ya≤0x100000)):=c1
 refine kS 3 rfl<|zB (zo zpo rfl) (fun c9=> ?_)
 refine zh 0 rfl rfl rfl rfl Qy (.t2 .nil) .z<|jD 1 rfl<|qJ rfl ?_
 have d9:(.slice a4 (L2.length) a5:Value)= .slice a4 3 a5:=by rw [c8]
 rw [d9]
 refine zm (qS rfl) zP (zbF (by exact c8) (by exact d7)) (qX 0 rfl) ?_
 rintro ⟨xb,yb,a6⟩ c2
 replace c2:(-9223372036854775808≤xb∧xb≤9223372036854775807)∧(-9223372036854775808≤yb∧yb≤9223372036854775807)∧(a6=true→((xb:Int):Rat)=L2.getD 0 0∧((yb:Int):Rat)=L2.getD 1 0∧(-0x100000≤xb∧xb≤0x100000)∧(-0x100000≤yb∧yb≤0x100000)):=c2
 refine kS 3 rfl<|zB (zo zpo rfl) (fun d0=> ?_)
 refine zh 0 rfl rfl rfl rfl Qy (.t2 .nil) .z<|vZ 1 rfl<|ji (X:=Bool) (fun x=>(x=true→b9=true∧a6=true)) (fun x=>[(53,.bool x),(15,Vp d0),(14,Vp c9),(7,.slice pR (A.length) cR),(18,Vi i),(17,Vi nP),(16,.slice pP nP cP),(4,Vp b2),(3,Vp b1)]) (fun x=>[zK d0 82 [.int .i64 xb,.int .i64 yb],zK c9 82 [.int .i64 xa,.int .i64 ya],rowA 148 (rI4 .i64) pR cR A,zK b2 84 [.int .i64 (t.x),.int .i64 (t.y),.int .i64 (t.z),.int .i64 (t.a),.int .i64 (t.b),.int .i64 (t.c),.int .i64 (t.d),.int .i64 (t.f),.int .i64 (t.u),.int .i64 (t.v)],zK b1 84 [.int .i64 (s.x),.int .i64 (s.y),.int .i64 (s.z),.int .i64 (s.a),.int .i64 (s.b),.int .i64 (s.c),.int .i64 (s.d),.int .i64 (s.f),.int .i64 (s.u),.int .i64 (s.v)]]) (fun x=>[zI (rI3 .i64) pP cP lP]) ?_ ?_
 refine vM 1 rfl<|zhu rfl rfl (qU rfl) (fun c3=> ?_) (fun c3=> ?_)
 refine qY 2 rfl ?_
 exact qL a6 (by first|(intro e;cases e;done)|(intro e;exact ⟨c3,by simpa using e⟩)) (mR rfl) ((.of [0,0,0,0,0] rfl):zJ _ _ _) ((.c (j:=2) rfl .n))
 refine qY 2 rfl ?_
 exact qL false (show (false=true→b9=true∧a6=true) from by first|(intro e;cases e;done)|(intro e;exact ⟨c3,by simpa using e⟩)) ((.e rfl (congrArg Value.bool JS) (.of rfl)):vQ _ _) (ho:=((.of [0,0,0,0,0] rfl):zJ _ _ _)) ((.c (j:=2) rfl .n):q9 _ _ _)
 rintro g8 e0
 refine ZN rfl (fun c4=> ?_) (fun c4=> ?_)
 obtain ⟨e3,e4⟩:=e0 (by first|exact c4|simpa using c4)
 obtain ⟨hwa,hwb,hwc⟩:=id c1
 obtain ⟨hwd,hwe,hwf⟩:=id c2
 refine vM 1 rfl<|zw (za 1 zmc rfl rfl (.t2 .nil))<|zw (za 0 zmc rfl rfl (.t2 .nil))<|zE (qr zjq rfl yx (.c Qy (.c Qy .n)) (.c rfl (.c rfl .n)) (.c rfl rfl rfl (.t2 .nil) (.c rfl rfl rfl (.s2 (.t2 .nil)) .n)))<|qZ (z6 (enc:=fun z:Cm=>[.int .i64 z.a,.int .i64 z.b,.int .i64 z.d,.int .i64 z.w]) (ok:=okC .i64) (h1:=fun _=>rfl) (h2:=fun _=>rfl) (k:=1) yu zeq rfl dd dd dd (.c (x:=(⟨xa,ya,xb,yb⟩:Cm)) rfl rfl (fun _ _=>by exact ⟨zu.2 (by first|omega|decide|(dsimp only;omega)),zu.2 om,zu.2 om,zu.2 om⟩) .n)) (fun b16 _=> ?_)
 refine qt 0 rfl .z<|vO 3 rfl (qT 0 rfl yu zeq dd rfl rfl zL rfl zL om om) (fun _=>(.s (.s (.s .z)))) ?_
 rintro ⟨e5,e6⟩ -
 dsimp only [aq,nq,cq]
 refine zE (zT rfl)<|jq<|zG<|zi<|zv<|zE (qm (z:=(((i+1):Nat):Int)) rfl rfl (Q9 om))<|qJ rfl<|jq<|zW ((i+1),e5,e6,(A++([(⟨xa,ya,xb,yb⟩:Cm)]))) (by dsimp only;exact ⟨Oo,by rw [yV];show A.length+1≤i+1;omega,fun z hz=>by rcases yZ.1 hz with h|h;exact hA z h;rw [yY.1 h];have k1:=hwc e3;have k2:=hwf e4;rw [b6] at k1;rw [b8] at k2;exact ⟨⟨k1.2.2.1,k1.2.2.2,k2.2.2.1,k2.2.2.2⟩,_,_,_,hpi,⟨c5,k1.1,k1.2.1⟩,c6,k2.1,k2.2.1⟩⟩) (by dsimp only;omega) ((.e rfl (by first|rfl|(simp;done)) (.of rfl)):vQ _ _) (ho:=((.of [3,3,3] rfl):zJ _ _ _)) ((.c (j:=1) rfl .n):q9 _ _ _)
 refine qN<|zG<|zi<|zv<|zE (qm (z:=(((i+1):Nat):Int)) rfl rfl (Q9 om))<|qJ rfl<|jq<|zW ((i+1),pR,cR,A) (by dsimp only;exact ⟨Oo,Oo,hA⟩) (by dsimp only;omega) ((.e rfl (by first|rfl|(simp;done)) (.of rfl)):vQ _ _) (ho:=((.of [2,2,2] rfl):zJ _ _ _)) (s0 rfl)
 refine z7<|ze<|ze<|zn<|zi<|Zn 2 rfl<|vK 0 rfl .z ?_
 exact zq rfl (pR,cR,A) (⟨by show A.length≤14;omega,hA⟩) (zj rfl) rfl oN (s0 rfl)
theorem zdm {z1:Int} {z2:Int}:CA 194 [.agg #[.int .i64 z1,.int .i64 z2]] [] (.agg #[.int .i64 z1,.int .i64 z2,.int .i64 1]):=by
 refine zg Tryz.func194 rfl rfl (fun c=> ?_)
 refine vg<|zB (zX rfl rfl) (fun b1=> ?_)
 refine zB (zo zdD rfl) (fun b2=> ?_)
 refine Vj<|zE (zb Tryz.underlying82 rfl je rfl rfl)<|zw (zc 1 v8 rfl rfl rfl)<|zE (zb Tryz.underlying82 rfl je rfl rfl)<|zw (zc 1 v8 rfl rfl rfl)<|zE (jz zdD rfl yz je (.c rfl (.c rfl (.c rfl .n))) (.c rfl rfl rfl (.take .nil) (.c rfl rfl rfl (.skip (.take .nil)) (.c rfl rfl rfl (.s2 (.take .nil)) .n))))<|zh 0 rfl rfl rfl rfl zmf (.t2 (.take .nil)) .z<|Va ?_
 exact zq rfl () trivial (zy 0 zme rfl rfl (.t2 (.take .nil))) rfl oN sN
theorem zo4 {p:Option Addr} {n:Nat} {cap:Nat} {l:List Cm} (hn:l.length=n) (hn9:n≤64) (hall:∀jj,jj<n→Ro.nr (l.getD jj yk)):CB 111 [.slice p n cap] [zI (rI4 .i64) p cap l] (Y:=(Option Addr)×Nat) (fun y=> .slice (y.1) n (y.2)) (fun y=>[zI (rS rQ) (y.1) (y.2) (l.map Ro.rv)]):=by
 refine zg Tryz.func111 rfl rfl (fun c=> ?_)
 refine zN 0 rfl (fun hL0=> ?_)
 refine jS 1 rfl<|jn 1 rfl<|qe<|Zj 62 (rS rQ)<|k22 3 rfl<|zk<|z5 (X:=Nat×(Option Addr)×Nat×(List (List Rat))) (fun x=>x.1≤n∧x.2.2.2=(l.take x.1).map Ro.rv) (fun x=>[(3,.slice (x.2.1) (x.2.2.2.length) (x.2.2.1)),(13,Vi x.1)]) [12,11] (fun x=>[rowA 62 (rS rQ) (x.2.1) (x.2.2.1) (x.2.2.2)]) (fun x=>[]) [0] (fun x=>n - x.1) (0,none,0,([]:List (List Rat))) (by exact ⟨yO _,rfl⟩) (.e rfl vA (.e rfl vA .n)) ((.e (i:=0) rfl vA .n):zJ _ _ _) sN ?_
 rintro ⟨i,pR,cR,A⟩ hI
 replace hI:i≤n∧A=(l.take i).map Ro.rv:=hI
 obtain ⟨hi,hA⟩:=hI
 have hAl:A.length=i:=by rw [hA,yM,yP];omega
 refine jg 1 rfl<|zx rfl (fun h1=> ?_) (fun h1=> ?_)
 refine vY<|zk<|vg<|qH 0 i rfl yu zcn rfl zL rfl rfl (gD (d:=yk) om) (fun b2 o3 a6=> ?_) (x0:=(l.getD i yk))
 obtain ⟨a2,a3,a4,a5⟩:=a6
 replace a2:=zu.1 a2
 replace a3:=zu.1 a3
 replace a4:=zu.1 a4
 replace a5:=zu.1 a5
 refine zw (zA (j:=0) 0 zjp rfl rfl rfl (.t4 .nil))<|zB (zo zjq rfl) (fun b5=> ?_)
 refine zh 0 rfl rfl rfl rfl zcn (.t4 .nil) .z<|ZI<|Zj 32 rQ ?_
 have hni:=hall i om
 unfold Ro.nr at hni
 obtain ⟨hna,hnb,hnd,hnw⟩:=hni
 refine k23 1 rfl<|vg<|zE (zb yx rfl Qy rfl rfl)<|zw (za 1 zmc rfl rfl (.s2 (.t2 .nil)))<|qg (qS rfl) zP zdm (.n)<|vZ 1 rfl<|zk<|z5 (X:=Nat×(Option Addr)×Nat×(List Rat)) (fun x=>x.1≤3∧x.2.2.2=(Ro.rv (l.getD i yk)).take (3*x.1)∧x.2.2.2.length=3*x.1) (fun x=>[(6,.slice (x.2.1) (x.2.2.2.length) (x.2.2.1)),(20,Vi x.1)]) [19,5,3,13,12,11] (fun x=>[rowA 32 rQ (x.2.1) (x.2.2.1) (x.2.2.2),zK b5 148 [.int .i64 ((l.getD i yk).a),.int .i64 ((l.getD i yk).b),.int .i64 ((l.getD i yk).d),.int .i64 ((l.getD i yk).w)],rowA 62 (rS rQ) pR cR A]) (fun x=>[]) [1] (fun x=>3 - x.1) (0,none,0,([]:List Rat)) (by exact ⟨yO _,rfl,rfl⟩) (.e rfl vA (.e rfl vA .n)) ((.e (i:=0) rfl vA (.of [0,0] rfl)):zJ _ _ _) sN ?_
 rintro ⟨j,pS,cS,B⟩ hJ
 replace hJ:j≤3∧B=(Ro.rv (l.getD i yk)).take (3*j)∧B.length=3*j:=hJ
 try dsimp only
 obtain ⟨hj,hB,hBl⟩:=hJ
 refine qe<|zv<|zE (zhq rfl rfl)<|jq<|zi<|qe<|zx rfl (fun h6=> ?_) (fun h6=> ?_)
 refine qN<|zi<|qe<|zk<|qe<|zv<|zE (W3 (i:=j) yz v8 rfl rfl om)<|zE (zT rfl)<|jq<|zi<|qe<|zv<|zE (zb yx rfl Qy rfl rfl)<|zw (za 1 zmc rfl rfl (.t2 .nil))<|VG rfl rfl (.c rfl .n) zP (zdm (z1:=(l.getD i yk).a) (z2:=(l.getD i yk).b)) (.n) ?_
 refine qJ rfl<|jq<|zi<|zk<|Qr (X:=Nat×(Option Addr)×Nat×(List Rat)) (fun x:Nat×(Option Addr)×Nat×(List Rat)=>x.1≤3∧x.2.2.2=(Ro.rv (l.getD i yk)).take (3*j+x.1)∧x.2.2.2.length=3*j+x.1) (fun x=>[(6,.slice (x.2.1) (x.2.2.2.length) (x.2.2.1)),(26,.int .i64 ((x.1:Nat):Int)),(25,.agg #[.int .i64 ((l.getD i yk).a),.int .i64 ((l.getD i yk).b),.int .i64 1]),(8,.int .i64 (([((l.getD i yk).d),((l.getD i yk).w),1]:List Int).getD j 0)),(20,.int .i64 ((j:Nat):Int)),(19,.agg #[.int .i64 ((l.getD i yk).d),.int .i64 ((l.getD i yk).w),.int .i64 1]),(5,.pointer (some ⟨b5,0,none⟩)),(3,.slice pR (A.length) cR),(13,.int .i64 ((i:Nat):Int)),(12,.int .i64 ((n:Nat):Int)),(11,.slice p n cap)]) (fun x=>[rowA 32 rQ (x.2.1) (x.2.2.1) (x.2.2.2),zK b5 148 [.int .i64 ((l.getD i yk).a),.int .i64 ((l.getD i yk).b),.int .i64 ((l.getD i yk).d),.int .i64 ((l.getD i yk).w)],rowA 62 (rS rQ) pR cR A]) (fun x=>[zI (rI4 .i64) p cap l]) (fun x:Nat×(Option Addr)×Nat×(List Rat)=>3 - x.1) (0,pS,cS,B) (show 0≤3∧B=(Ro.rv (l.getD i yk)).take (3*j+0)∧B.length=3*j+0 from by exact ⟨yO _,hB,hBl⟩) ((.c rfl (.e rfl vA (.of rfl))):vQ _ _) (ho:=((.of [0,0,0] rfl):zJ _ _ _)) (s0 rfl) ?_
 rintro ⟨k,pU,cU,D⟩ hK
 replace hK:k≤3∧D=(Ro.rv (l.getD i yk)).take (3*j+k)∧D.length=3*j+k:=hK
 try dsimp only
 obtain ⟨hk,hD,hDl⟩:=hK
 refine qe<|zv<|zE (zhq rfl rfl)<|jq<|zi<|qe<|zx rfl (fun h7=> ?_) (fun h7=> ?_)
 refine qN<|zi<|qe<|zk<|qe ?_
 have a7:=Ro.zfk hna hnb k
 have a8:=Ro.zfk hnd hnw j
 have hx3:=Ro.zkc a7 a8
 refine zv<|zE (W3 (i:=k) yz v8 rfl rfl om)<|zE (zT rfl)<|jq<|zi<|zv<|qJ rfl<|qJ rfl<|qJ rfl<|zE (qw (z:=((([((l.getD i yk).a),((l.getD i yk).b),1]:List Int).getD k 0)*(([((l.getD i yk).d),((l.getD i yk).w),1]:List Int).getD j 0))) rfl rfl (Q9 om))<|zfJ rfl rfl (.c rfl .n) zP (j4 (z:=((([((l.getD i yk).a),((l.getD i yk).b),1]:List Int).getD k 0)*(([((l.getD i yk).d),((l.getD i yk).w),1]:List Int).getD j 0))) (hz:=zL)) (.n) ?_
 rintro ⟨a0,a1⟩ -
 dsimp only [aq,nq,cq]
 refine Zy rfl rfl (qA (r:=rQ) (k:=1) yd jf rfl dd dd dd (.c (x:=((((([((l.getD i yk).a),((l.getD i yk).b),1]:List Int).getD k 0)*(([((l.getD i yk).d),((l.getD i yk).w),1]:List Int).getD j 0)):Int):Rat)) (cs:=[a0.b,a0.l,a1.b,a1.l]) (a0,a1) rfl rfl rfl (fun g hr=>Holds.get 0 rfl hr) .n)) (fun b10 _=> ?_)
 refine qt 0 rfl .z<|Zz 1 rfl rfl rfl (qT 0 rfl yd jf dd rfl rfl (by first|rfl|assumption|omega|(simp;done)) rfl (by first|rfl|assumption|omega|(simp;done)) om om) (fun _=>(.s .z)) ?_
 rintro ⟨a9,b1⟩ -
 dsimp only [aq,nq,cq]
 refine zE (zT rfl)<|jq<|zG<|zi<|zv<|zE (qm (z:=(((k+1):Nat):Int)) rfl rfl (Q9 om))<|qJ rfl<|jq<|zW ((k+1),a9,b1,(D++([((((([((l.getD i yk).a),((l.getD i yk).b),1]:List Int).getD k 0)*(([((l.getD i yk).d),((l.getD i yk).w),1]:List Int).getD j 0)):Int):Rat)]))) (show (k+1)≤3∧(D++([((((([((l.getD i yk).a),((l.getD i yk).b),1]:List Int).getD k 0)*(([((l.getD i yk).d),((l.getD i yk).w),1]:List Int).getD j 0)):Int):Rat)]))=(Ro.rv (l.getD i yk)).take (3*j+(k+1))∧(D++([((((([((l.getD i yk).a),((l.getD i yk).b),1]:List Int).getD k 0)*(([((l.getD i yk).d),((l.getD i yk).w),1]:List Int).getD j 0)):Int):Rat)])).length=3*j+(k+1) from by exact ⟨Oo,by rw [hD];exact Ro.zqk om om,by rw [yV];show D.length+1=_;omega⟩) (by show 3 - (k+1)<3 - k;omega) ((.e rfl (by simp) (.of rfl)):vQ _ _) (ho:=((.of [1,1,1] rfl):zJ _ _ _)) ((.c (j:=2) rfl .n):q9 _ _ _)
 refine z7<|ze<|ze<|zn<|zG<|zi<|zv<|zE (qm (z:=(((j+1):Nat):Int)) rfl rfl (Q9 om))<|qJ rfl<|jq<|zW ((j+1),pU,cU,D) (show (j+1)≤3∧D=(Ro.rv (l.getD i yk)).take (3*(j+1))∧D.length=3*(j+1) from by exact ⟨Oo,by rw [hD,show k=3 by omega,show 3*(j+1)=3*j+3 by omega],by rw [hDl];omega⟩) (by show 3 - (j+1)<3 - j;omega) ((.e rfl (by simp) (.of rfl)):vQ _ _) (ho:=((.of [0,0,0] rfl):zJ _ _ _)) (s0 rfl)
 refine z7<|ze<|ze<|zn<|zi ?_
 have b4:B=(Ro.rv (l.getD i yk)):=by rw [hB,show j=3 by omega,yR (by rw [Ro.zio];decide)]
 rw [b4]
 refine Z7 0 rfl .z<|zv<|qJ rfl<|qJ rfl<|Zy rfl rfl (Vh 0 rfl yj Z2 rfl (by first|rfl|assumption|omega|(simp;done))) (fun b14 _=> ?_)
 refine qt 0 rfl .z<|Zz 3 rfl rfl rfl (qT 0 rfl yj Z2 dd rfl rfl (by first|rfl|assumption|omega|(simp;done)) rfl (by first|rfl|assumption|omega|(simp;done)) om om) (fun _=>(.s (.s (.s .z)))) ?_
 rintro ⟨b6,b7⟩ -
 refine qY 1 rfl<|zG<|zi<|zv<|zE (qj rfl rfl)<|qY 1 rfl<|zW ((i+1),b6,b7,(A++([(Ro.rv (l.getD i yk))]))) (by exact ⟨Oo,by rw [hA];exact Ro.zaL om⟩) om ((.e rfl (by simp) (.of rfl))) ((.c (i:=3) rfl .n):zJ _ _ _) ((.c (j:=2) rfl .n))
 refine z7<|ze<|ze<|zn<|zi<|Zn 2 rfl<|vK 0 rfl .z ?_
 have b8:A=l.map Ro.rv:=by rw [hA,yR om]
 exact zq rfl (pR,cR) trivial (zj rfl) (by rw [hAl,show i=n by omega]) oN ((.e (j:=0) rfl (by rw [← b8]) .n))
theorem zhe {pM:Option Addr} {nM:Nat} {cM:Nat} {M:List (List Rat)} {N:Nat} {b:Nat} (hnM:M.length=nM) (hM1:1≤nM∧nM≤64) (hrM:∀i,i<nM→(M.getD i []).length=N) (hN:1≤N∧N≤64) (hbM:Mx.bd M b) (hH:Mx.H b N≤100000000) (hb1:1≤b):CC 192 [.slice pM nM cM] [zI (rS rQ) pM cM M] (Y:=(Option Addr)×Nat×(Option Addr)×Nat×(List (List Rat))×(List Nat)) (fun y=>(y.2.2.2.2.1.length=nM∧∀i,i<nM→(y.2.2.2.2.1.getD i []).length=N)∧Mx.Rd N nM M y.2.2.2.2.1 N y.2.2.2.2.2∧Mx.bd y.2.2.2.2.1 (Mx.H b N)) (fun y=> .tuple #[.slice (y.1) nM (y.2.1),.slice (y.2.2.1) (y.2.2.2.2.2.length) (y.2.2.2.1),.int .i64 0]) (fun y=>[zI (rS rQ) (y.1) (y.2.1) (y.2.2.2.2.1),zI (rI .i64) (y.2.2.1) (y.2.2.2.1) (yH y.2.2.2.2.2)]):=by
 refine zg Tryz.func192 rfl rfl (fun c=> ?_)
 refine zN 0 rfl (fun hL0=> ?_)
 have a4:=hrM 0 om
 have hUM:∀i,i<nM→(M.getD i []).length=(M.getD 0 []).length:=fun i hi=>by rw [hrM i hi,a4]
 refine jg 3 rfl<|jK 1 rfl<|qg (qS rfl) zP (Kr qB zL (by exact hUM) zL zL) (qX 0 rfl)<|jD 1 rfl<|vZ 2 rfl<|qW rfl<|k80 1 rfl<|zm (qS rfl) zP (zg7 (N:=N) qB (by exact hrM) (by exact hM1) (by exact hN)) (qX 0 rfl) ?_
 rintro ⟨a2,a3,a0⟩ hsl
 refine jn 1 rfl ?_
 have a5:Mx.Sm a0 (Mx.mk nM N (fun ii jj=>Mx.e M ii jj)) nM N:=Mx.Je _ _ _ hsl
 refine vM 2 rfl<|zw (qQ 0 0 rfl yj vC rfl (by first|rfl|assumption|omega|exact Mx.Qb _|(rw [Z0];exact hsl)) rfl rfl om)<|vX (qi (x0:=((rp a0 0),N,(rc a0 0))) (v:= .slice (rp a0 0) N (rc a0 0)) 0 0 rfl vF rfl rfl (Q2 (a5.hk om)) rfl) (fun _ a9=> ?_)
 refine kS 1 rfl<|zhy (qP (i:=1) rfl)<|zhy (qP (i:=1) rfl)<|zbQ (A:=[rowA 62 rV a2 a3 (oh a0 N),vp 32 rQ a0 (Mx.mk nM N (fun ii jj=>Mx.e M ii jj))]) (F:=[]) (first:=[]) (cap:=[]) rfl rfl rfl (q7 rfl rfl) zP (zdl (b:=b) (by exact Mx.Je _ _ _ hsl) zL zL zL (by exact Dt.zn9 (fun i j _ _=>hbM i j) hb1) qB) (.n) ?_
 rintro ⟨b1,M5,qs,a6,a7⟩ hred
 refine jn 1 rfl ?_
 obtain ⟨a1,hRd,a8⟩:=hred
 rw [Ro.zfl hnM hrM] at hRd
 have hqi:=Mx.Qb qs
 refine JO (fun w mm=>mm.rmFreeze 0 1 rfl rfl (a1.hl) (a1.rl)) ?_
 try dsimp only [List.set]
 refine Z7 2 rfl (.s (.s .z))<|k25 5 rfl ?_
 exact J1 rfl (a2,a3,a6,a7,M5,qs) (⟨⟨a1.l,fun i hi=>a1.row hi⟩,hRd,a8⟩) (zj rfl) (zj rfl) (zj rfl) rfl oN ((.of [1,0] rfl))
theorem zq5 {p:Option Addr} {cap:Nat} {qs:List Nat} {i0:Nat}:CC 246 [.slice p (qs.length) cap,Vi i0] [zI (rI .i64) p cap (yH qs)] (Y:=Int) (fun y=>(i0∈qs↔0≤y)) (fun y=> .int .i64 y) (fun y=>[]):=by
 refine zg Tryz.func246 rfl rfl (fun c=> ?_)
 refine zN 0 rfl (fun hL0=> ?_)
 have hqi:=Mx.Qb qs
 refine jg 1 rfl<|k12 3 rfl<|zk<|z5 (X:=Nat) (fun x=>x≤qs.length∧∀k,k<x→(yH qs).getD k 0≠((i0:Nat):Int)) (fun x=>[(8,Vi x)]) [7,0,1] (fun x=>[]) (fun x=>[]) [0] (fun x=>qs.length - x) 0 (by exact ⟨yO _,fun j h=>by omega⟩) (.e rfl vA .n) oN sN ?_
 rintro i hI
 obtain ⟨hi,hall⟩:=hI
 refine jg 1 rfl<|zx rfl (fun h1=> ?_) (fun h1=> ?_)
 refine vY<|zk<|jS 2 rfl<|kS 3 rfl<|qH 0 i rfl yB je rfl zL rfl rfl (gD (d:=0) om) (fun b2 o3 a1=> ?_) (x0:=((yH qs).getD i 0))
 replace a1:=zu.1 a1
 refine zw (zf (j:=0) 0 v8 rfl rfl rfl rfl)<|vZ 1 rfl<|zx rfl (fun a0=> ?_) (fun a0=> ?_)
 refine Zn 2 rfl<|qz<|zD<|zD<|qz<|zD ?_
 exact zq rfl ((i:Nat):Int) (⟨fun _=>by omega,fun _=>Ro.zn3 a0.symm om⟩) (zj rfl) rfl oN sN
 refine qN<|zG<|zi<|zv<|zE (qj rfl rfl)<|qY 1 rfl<|zW (i+1) (by refine ⟨Oo,fun k hk=> ?_⟩;by_cases e:k=i;rw [e];exact fun z=>a0 z.symm;exact hall k om) om (mR rfl) oN ((.c (j:=1) rfl .n))
 refine z7<|ze<|ze<|zn<|zi<|Zn 1 rfl ?_
 exact zq rfl (-1) (⟨fun z=>by obtain ⟨k,hk,e⟩:=Ro.zn4 z;exact absurd e (hall k om),fun z=>absurd z dd⟩) (zj rfl) rfl oN sN
theorem zq6 {p:Option Addr} {cap:Nat} {qs:List Nat} {i0:Nat}:CA 193 [.slice p (qs.length) cap,Vi i0] [zI (rI .i64) p cap (yH qs)] (.bool (decide (i0∈qs))):=by
 refine zg Tryz.func193 rfl rfl (fun c=> ?_)
 refine zN 0 rfl (fun hL0=> ?_)
 refine jS 1 rfl<|kS 2 rfl<|zm (q7 rfl rfl) zP zq5 (qX 0 rfl) ?_
 rintro r91 hix
 refine Zp 2 rfl ?_
 exact zq rfl () trivial (zj rfl) (congrArg Value.bool (decide_eq_decide.2 hix)) oN sN
theorem zo5 {pM:Option Addr} {nM:Nat} {cM:Nat} {M:List (List Rat)} {N:Nat} {b:Nat} (hnM:M.length=nM) (hM1:1≤nM∧nM≤64) (hrM:∀i,i<nM→(M.getD i []).length=N) (hN:1≤N∧N≤64) (hbM:Mx.bd M b) (hH:Mx.H b N≤100000000) (hb1:1≤b):CC 110 [.slice pM nM cM] [zI (rS rQ) pM cM M] (Y:=(Option Addr)×Nat×(List (List Rat))×(List Nat)) (fun y=>Mx.Rd N nM M y.2.2.1 N y.2.2.2∧Mx.bd y.2.2.1 (Mx.H b N)) (fun y=> .tuple #[.slice (y.1) ((Ro.nl N y.2.2.1 y.2.2.2 N).length) (y.2.1),.int .i64 0]) (fun y=>[zI (rS rQ) (y.1) (y.2.1) (Ro.nl N y.2.2.1 y.2.2.2 N)]):=by
 refine zg Tryz.func110 rfl rfl (fun c=> ?_)
 refine zN 0 rfl (fun hL0=> ?_)
 refine jS 2 rfl<|qJ rfl<|zm (qS rfl) zP (zhe (N:=N) (b:=b) qB qB (by exact hrM) qB qB qB qB) (qX 0 rfl) ?_
 rintro ⟨a2,a3,a4,a5,M5,qs⟩ hech
 dsimp only [aq,nq,cq]
 dsimp only at hech
 refine jn 7 rfl<|k12 2 rfl<|qW rfl ?_
 refine qN<|zi<|qe ?_
 obtain ⟨⟨hM5,a6⟩,hRd,a7⟩:=hech
 have c9:=a6 0 om
 have hqi:=Mx.Qb qs
 have hqk:=hRd.plk
 refine k23 1 rfl<|qe<|Zj 62 (rS rQ)<|vM 1 rfl<|zdA rfl rfl (zM (x0:=(M5.getD 0 [])) 0 0 rfl yj vC rfl (by first|rfl|assumption|omega|exact Mx.Qb _|(rw [Mx.jW];done)|exact Ro.JA _ _ _ _ _|(simp;done)) rfl rfl (gD (d:=[]) om)) ?_
 rintro ⟨b5,o6,p7,c8⟩ -
 dsimp only [aq,nq,cq]
 refine zw (zf (j:=0) 0 vF rfl rfl rfl rfl)<|kS 1 rfl ?_
 have e9:((((M5.getD 0 []).length:Nat):Int):Int)=((N:Nat):Int):=Oo
 rw [e9]
 refine vZ 1 rfl<|zk<|z5 (X:=Nat×(Option Addr)×Nat) (fun x=>x.1≤N) (fun x=>[(7,.slice (x.2.1) ((Ro.nl N M5 qs x.1).length) (x.2.2)),(26,Vi x.1)]) [25,5,4] (fun x=>[rowA 62 (rS rQ) (x.2.1) (x.2.2) (Ro.nl N M5 qs x.1)]) (fun x=>[]) [2,3] (fun x=>N - x.1) (0,none,0) (by exact yO _) (.e rfl vA (.e rfl vA .n)) ((.e (i:=0) rfl vA .n):zJ _ _ _) sN ?_
 rintro ⟨j,pL,cL⟩ hJ
 dsimp only at hJ
 have hnll:=Ro.zsy N M5 qs j
 refine jg 1 rfl<|zx rfl (fun a9=> ?_) (fun a9=> ?_)
 refine vY<|zk<|jg 2 rfl<|jK 2 rfl<|qg (q7 rfl rfl) zP zq6 (qX 1 rfl)<|Vc<|zx rfl (fun a0=> ?_) (fun a0=> ?_)
 refine z7<|ze<|zn<|zi<|zv<|zE (qj rfl rfl)<|qY 1 rfl<|zW ((j+1),pL,cL) (by dsimp only;show j+1≤N;omega) (by dsimp only;omega) ((.e rfl (by first|rfl|(rw [Ro.zru a0])) (.of rfl)):vQ _ _) (ho:=((.e (i:=0) rfl (by first|rfl|(rw [Ro.zru a0])) .n):zJ _ _ _)) ((.of [0,1] rfl):q9 _ _ _)
 refine k80 1 rfl<|vX (zM (x0:=(M5.getD 0 [])) 0 0 rfl yj vC rfl zL rfl rfl (gD (d:=[]) om)) ?_
 rintro ⟨b11,o12,p13,c14⟩ -
 refine zw (zf (j:=0) 0 vF rfl rfl rfl rfl)<|kS 1 rfl ?_
 have b1:((((M5.getD 0 []).length:Nat):Int):Int)=((N:Nat):Int):=Oo
 rw [b1]
 refine qZ (vS (r:=rE) (k:=N) (x0:=(none:Option Rat)) (γ0:=(wz,wz)) yd jf rfl rfl rfl rfl om om rfl (fun g _=>JT g) dd) (fun a1 _=> ?_)
 refine jn 1 rfl<|k12 3 rfl<|zk<|Qr (X:=Nat) (fun x:Nat=>x≤N) (fun x=>[(39,.int .i64 ((x:Nat):Int)),(38,.int .i64 ((N:Nat):Int)),(9,.slice (some ⟨a1,0,none⟩) N N),(8,.int .i64 ((j:Nat):Int)),(7,.slice pL ((Ro.nl N M5 qs j).length) cL),(26,.int .i64 ((j:Nat):Int)),(25,.int .i64 ((N:Nat):Int)),(5,.slice a4 (qs.length) a5),(4,.slice a2 nM a3)]) (fun x=>[rowA 32 rE (some ⟨a1,0,none⟩) N (Mx.Wz x N (fun c=>Td.un c j)),rowA 62 (rS rQ) pL cL (Ro.nl N M5 qs j)]) (fun x=>[zI (rS rQ) a2 a3 M5,zI (rI .i64) a4 a5 (yH qs)]) (fun x:Nat=>N - x) 0 (show 0≤N from by exact yO _) ((.e rfl vA (.of rfl)):vQ _ _) (ho:=((.e (i:=0) rfl (by first|rfl|exact congrArg _ (Mx.Qo _ _)|(rw [Mx.Qo])) (.c (i:=0) rfl .n)):zJ _ _ _)) ((.of [2,3] rfl):q9 _ _ _) ?_
 rintro k hK
 refine jg 1 rfl<|zx rfl (fun b4=> ?_) (fun b4=> ?_)
 refine vY<|zk<|k12 2 rfl<|vM 4 rfl<|zm (q7 rfl rfl) zP zg2 (.n) ?_
 rintro ⟨b6,b7⟩ -
 dsimp only [aq,nq,cq]
 refine zE (zZ (j:=k) yd qk rfl rfl rfl om)<|vO 0 rfl (qh (r:=rE) (j:=k) (x0:=(some (Td.un k j))) (γ0:=(b6,b7)) rfl rfl (by first|omega|(rw [Mx.jW];omega)|(rw [Ro.JA];omega)) rfl rfl qk (fun g hr=>Kz (Holds.get 0 rfl hr))) (fun _=> .z) (fun _ _=> ?_)
 refine jq<|zG<|zi<|zv<|zE (qm (z:=(((k+1):Nat):Int)) rfl rfl (Q9 om))<|qJ rfl<|jq<|zW (k+1) (show (k+1)≤N from by show k+1≤N;omega) (by show N - (k+1)<N - k;omega) (mR rfl) (ho:=((.e (i:=0) rfl (by first|rfl|(rw [Mx.VL om])) (.c (i:=0) rfl .n)):zJ _ _ _)) ((.of [1,2] rfl):q9 _ _ _)
 refine z7<|ze<|ze<|zn<|zi<|qe<|qe<|JO (fun w mm=>mm.rowEQ (l2:=(Ro.nvS N M5 qs j 0)) 0 rfl (by rw [show k=N by omega];exact Mx.Jw N _)) ?_
 try dsimp only [yW]
 refine k22 3 rfl<|zk<|z5 (X:=Nat) (fun x=>x≤qs.length) (fun x=>[(51,Vi x)]) [50,49,9,8,7,26,25,5,4] (fun x=>[rowA 32 rQ (Sb a1) N (Ro.nvS N M5 qs j x),rowA 62 (rS rQ) pL cL (Ro.nl N M5 qs j)]) (fun x=>[]) [0,1] (fun x=>qs.length - x) 0 (by exact yO _) (.e rfl vA .n) ((.of [0,0] rfl):zJ _ _ _) sN ?_
 rintro i hT
 refine jg 1 rfl<|zx rfl (fun b8=> ?_) (fun b8=> ?_)
 refine vY<|zk<|jK 1 rfl<|qH 1 i rfl yB je rfl zL rfl rfl (gD (d:=0) om) (fun b21 o22 a8=> ?_) (x0:=((yH qs).getD i 0))
 replace a8:=zu.1 a8
 refine zw (zf (j:=0) 0 v8 rfl rfl rfl rfl) ?_
 have b9:(((yH qs).getD i 0):Int)=(((qs.getD i 0):Nat):Int):=by exact Mx.zap
 rw [b9]
 refine vZ 2 rfl ?_
 have hri:=a6 i om
 have hpl:=hRd.plt i om
 refine vM 4 rfl<|vX (zM (x0:=(M5.getD i [])) 1 i rfl yj vC rfl zL rfl rfl (gD (d:=[]) om)) ?_
 rintro ⟨b25,o26,p27,c28⟩ -
 refine zw (zf (j:=0) 0 vF rfl rfl rfl rfl)<|qJ rfl<|vX (zM (x0:=((M5.getD i []).getD j (0:Rat))) 1 j rfl yd qk rfl zL rfl rfl (gD (d:=(0:Rat)) om)) ?_
 rintro ⟨b29,o30,c1,c2⟩ -
 dsimp only [aq,nq,cq]
 refine vd qR<|zw (zA (j:=0) 0 qp rfl rfl rfl (.t4 .nil))<|zm (.c rfl .n) zP (zcU (k1:=true) (u1:=c1) (v1:=c2) (q1:=((M5.getD i []).getD j (0:Rat))) (hl:=by first|rfl|assumption|omega|exact ⟨Oo,Oo⟩|exact yN (a7 _ _) (yN hH dd))) (qX 1) ?_
 rintro ⟨c3,c4⟩ -
 dsimp only [aq,nq,cq]
 refine zE (zZ (j:=(qs.getD i 0)) yd qk rfl rfl rfl om)<|vO 0 rfl (qh (r:=rQ) (j:=(qs.getD i 0)) (x0:=(- ((M5.getD i []).getD j (0:Rat)))) (γ0:=(c3,c4)) rfl rfl (by first|omega|(rw [Mx.jW];omega)|(rw [Ro.JA];omega)) rfl rfl qk (fun g hr=>Holds.get 0 rfl hr)) (fun _=> .z) (fun _ _=> ?_)
 refine jq<|zG<|zi<|zv<|zE (qj rfl rfl)<|qY 1 rfl<|zW (i+1) (by show i+1≤qs.length;omega) om (mR rfl) ((.e (i:=0) rfl vA (.c (i:=0) rfl .n)):zJ _ _ _) ((.of [6,7] rfl))
 refine z7<|ze<|ze<|zn<|zi ?_
 have c5:(Ro.nvS N M5 qs j i)=(Ro.nvS N M5 qs j qs.length):=by rw [show i=qs.length by omega]
 rw [c5]
 refine Z7 0 rfl .z<|zv<|qJ rfl<|qJ rfl<|qZ (Vh 0 rfl yn Z2 rfl (by first|rfl|assumption|omega|exact Mx.Qb _|(rw [Mx.jW];done)|exact Ro.JA _ _ _ _ _|(simp;done))) (fun b37 _=> ?_)
 refine qt 0 rfl .z<|vO 2 rfl (qT 0 rfl yn Z2 dd rfl rfl zL rfl zL om om) (fun _=>(.s (.s .z))) ?_
 rintro ⟨c6,c7⟩ -
 dsimp only [aq,nq,cq]
 refine zE (zT rfl)<|jq<|zG<|zi<|zv<|zE (qm (z:=(((j+1):Nat):Int)) rfl rfl (Q9 om))<|qJ rfl<|jq<|zW ((j+1),c6,c7) (by dsimp only;show j+1≤N;omega) (by dsimp only;omega) ((.e rfl (by first|rfl|(rw [← Ro.zve a0];simp;done)) (.of rfl)):vQ _ _) (ho:=((.e (i:=2) rfl (by first|rfl|(rw [Ro.zve a0])) .n):zJ _ _ _)) ((.of [2,3] rfl):q9 _ _ _)
 refine z7<|ze<|ze<|zn<|zi<|Zn 3 rfl ?_
 have hjN:j=N:=Oo
 subst hjN
 refine vK 0 rfl .z ?_
 exact vD rfl (pL,cL,M5,qs) (⟨hRd,a7⟩) (zj rfl) (zj rfl) rfl oN (s0 rfl)
theorem zlF {p:Option Addr}  {cap:Nat} {l:List (Rat)} (hn:l.length=n) (hb:n≤1099511627776):jI Tryz.prog 195 [.slice p n cap] [] [zI rQ p cap l] (Y:=(Option Addr)×Nat) (fun y=>True) (fun y=> .slice (y.1) (l.length) (y.2)) (fun y=>[rowA 32 rQ (y.1) (y.2) l]) (fun y=>[]):=by
 refine zg Tryz.func195 rfl rfl (fun c=> ?_)
 refine zN 0 rfl (fun hL0=> ?_)
 refine zrd 0 rfl (fun hnil=> ?_)
 refine jg 1 rfl<|jK 1 rfl<|zE (zad yd rfl rfl)<|Vc<|ZN rfl (fun h0=> ?_) (fun h0=> ?_)
 refine Zn 1 rfl<|zD ?_
 obtain rfl:l=[]:=hnil (by simpa using h0)
 refine zl5 32 rQ ?_
 exact zq rfl (none,0) trivial (zj rfl) rfl (o0 rfl) sN
 refine kk8<|qZ (vq rQ yd jf) (fun b1 _=> ?_)
 refine qJ rfl<|vO 0 rfl (qT 0 rfl yd jf dd rfl rfl J0 rfl J0 om om) (fun _=> .z) ?_
 rintro ⟨p2,c3⟩ -
 refine Zp 1 rfl ?_
 exact zq rfl (p2,c3) trivial (zj rfl) (by simp [hn]) (o0 rfl) sN
theorem zi3:CA 248 [.int .u64 1,.int .u64 9] [] (.tuple #[.int .u64 0,.int .u64 9]):=by
 refine zg Tryz.func248 rfl rfl (fun c=> ?_)
 refine jS 2 rfl<|qJ rfl<|zE (zeH (z:=1) rfl rfl Oz)<|jD 1 rfl<|qJ rfl<|zE (zao (z:=0) rfl rfl dd Oz)<|jD 1 rfl<|qJ rfl<|zE (zeH (z:=9) rfl rfl Oz)<|jD 1 rfl<|qJ rfl<|zE (zao (z:=0) rfl rfl dd Oz)<|jD 1 rfl<|kS 2 rfl<|zE (qw (z:=9) rfl rfl (vu dd))<|jD 1 rfl<|kS 2 rfl<|zE (qw (z:=0) rfl rfl (vu dd))<|qJ rfl<|zE (zao (z:=0) rfl rfl dd Oz)<|zE (qm (z:=0) rfl rfl (vu dd))<|jD 1 rfl<|qJ rfl<|zE (zeH (z:=0) rfl rfl Oz)<|jD 1 rfl<|qJ rfl<|zE (zao (z:=0) rfl rfl dd Oz)<|jD 1 rfl<|kS 3 rfl<|zE (qw (z:=0) rfl rfl (vu dd))<|zE (qm (z:=0) rfl rfl (vu dd))<|jD 1 rfl<|kS 2 rfl<|zE (qw (z:=0) rfl rfl (vu dd))<|qJ rfl<|zE (qm (z:=0) rfl rfl (vu dd))<|qJ rfl<|zE (zao (z:=0) rfl rfl dd Oz)<|zE (qm (z:=0) rfl rfl (vu dd))<|jD 1 rfl<|kS 2 rfl<|zE (qw (z:=9) rfl rfl (vu dd))<|Zp 1 rfl ?_
 exact vD rfl () trivial (zj rfl) (zj rfl) rfl oN sN
theorem zo6:CA 199 [.int .u64 1,.int .u64 9] [] (.tuple #[.int .u64 0,.int .u64 9]):=by
 refine zg Tryz.func199 rfl rfl (fun c=> ?_)
 refine jg 2 rfl<|qW rfl<|k80 2 rfl<|qg q7 zP (zi3) (.n)<|jD 5 rfl<|Zp 4 rfl ?_
 exact vD rfl () trivial (zj rfl) (zj rfl) rfl oN sN
theorem zi4 {p:Option Addr} {cap:Nat} {zz:Rat}:CB 115 [.slice p 1 cap,.int .i64 9] [zI rE p cap ([(some zz)])] (Y:=(Option Addr)×Nat) (fun y=> .slice (y.1) 9 (y.2)) (fun y=>[zI rQ (y.1) (y.2) (yS 9 zz)]):=by
 refine zg Tryz.func115 rfl rfl (fun c=> ?_)
 refine zN 0 rfl (fun hL0=> ?_)
 refine jg 1 rfl<|k12 2 rfl<|qW rfl<|k80 2 rfl<|zE (zY (z:=1) rfl (by rw [yD];rfl) yA (vu dd))<|qJ rfl<|zE (zY (z:=9) rfl (by rw [yD];rfl) yA (vu dd))<|qg q7 zP (zo6) (.n)<|jn 5 rfl<|ji (X:=Unit) (fun x=>True) (fun x=>[(26,.bool false),(6,.int .u64 9),(0,.slice p 1 cap)]) (fun x=>[]) (fun x=>[zI rE p cap ([(some zz)])]) ?_ ?_
 refine k2n 6 rfl ?_
 exact qL () Qn (mR rfl) oN (s0 rfl)
 rintro ⟨⟩ -
 refine qW rfl<|k80 1 rfl<|zE (zY (z:=9) rfl (by rw [yA];rfl) yD (Q9 dd))<|qZ (vS (r:=rE) (k:=9) (x0:=(none:Option Rat)) (γ0:=(wz,wz)) yd jf rfl rfl rfl rfl om om rfl (fun g _=>JT g) dd) (fun b1 _=> ?_)
 refine jD 1 rfl<|kS 2 rfl<|vO 0 rfl (zoJ (xs:=yS 9 (none:Option Rat)) 0 rfl yd qk rfl zL rfl zL om om) (fun _=> .z) (fun _ _=> ?_)
 refine jn 1 rfl<|zk<|z5 (X:=Nat) (fun x=>x=1∨x=2∨x=4∨x=8∨x=9) (fun x=>[(8,Vi x)]) [7] (fun x=>[rowA 32 rE (Sb b1) 9 (Ro.Ww zz x)]) (fun x=>[]) [] (fun x=>9 - x) 1 (by exact .inl rfl) (.e rfl vA .n) ((.e (i:=0) rfl (by exact congrArg _ (Ro.zir zz)) .n):zJ _ _ _) sN ?_
 rintro k hI
 refine qe<|k12 4 rfl<|zx rfl (fun h2=> ?_) (fun h2=> ?_)
 refine qN<|zi<|zk<|V4 7 (.block (.then (.block (.then .ret)))) (OW:=[rowA 32 rE (Sb b1) 9 (Ro.Ww zz k)]) (O:=[])<|zQ 0 rfl rfl ?_
 refine zQ 1 rfl rfl ?_
 refine zQ 2 rfl rfl ?_
 refine zC 3 rfl (KE (lo:=k) (hi:=9) yd qk rfl (.s rfl) .n (.inr ⟨_,rfl⟩) (.inl ⟨rfl,rfl⟩) om om) ?_
 refine zQ 4 rfl rfl ?_
 refine zQ 5 rfl rfl ?_
 refine zC 6 rfl (ZW (hi:=k) yd qk rfl (.s rfl) (.inr ⟨_,rfl⟩) om) ?_
 refine zt 7 (VH (A':=fun _:Unit=>rowA 32 rE (Sb b1) 9 ((Ro.Ww zz k).take k++((Ro.Ww zz k).take (min k (9 - k))++(Ro.Ww zz k).drop (k+((Ro.Ww zz k).take (min k (9 - k))).length)))) kr rfl (zoK (lo:=k) (k:=9 - k) (k2:=(min k (9 - k))) (xs:=(Ro.Ww zz k)) yd qk rfl (by first|rfl|assumption|omega|(rw [Ro.zgJ zz om];done)|(rw [Ro.zgJ zz om];omega)) rfl om om om) (hw':=rfl) (hd:=rfl) (fun _ _=> ?_))
 refine zC 8 rfl (qm rfl rfl w6)<|zC 9 rfl (zT rfl)<|zU kr<|zG<|zW (k+min k (9 - k)) (by show k+min k (9 - k)=1∨k+min k (9 - k)=2∨k+min k (9 - k)=4∨k+min k (9 - k)=8∨k+min k (9 - k)=9;omega) om ((.e rfl vA (.c rfl .n))) ((.e (i:=0) rfl (by exact congrArg _ (Ro.zlj zz om rfl)) .n):zJ _ _ _) sN
 refine z7<|ze<|ze<|zn<|zi<|Zn 2 rfl ?_
 have a0:k=9:=Oo
 subst a0
 refine ZH (fun w mm=>mm.rowEQ (l2:=(yS 9 zz)) 0 rfl (by exact Ro.zn5 zz)) ?_
 try dsimp only [yW]
 refine vK 0 rfl .z ?_
 exact zq rfl (Sb b1,9) trivial (zj rfl) rfl oN (s0 rfl)
theorem K9 {p:Option Addr} {cap:Nat} {l:List Rat} (hl9:l.length=9):CB 112 [.slice p 9 cap] [zI rQ p cap l] (Y:=(Option Addr)×Nat) (fun y=> .slice (y.1) 3 (y.2)) (fun y=>[zI (rS rQ) (y.1) (y.2) (ys l)]):=by
 refine zg Tryz.func112 rfl rfl (fun c=> ?_)
 refine zN 0 rfl (fun hL0=> ?_)
 refine jS 1 rfl<|qJ rfl<|zm (qS rfl) zP (zlF qB zL) (qX 0 rfl) ?_
 rintro ⟨a0,a1⟩ -
 have e3:(.slice a0 (l.length) a1:Value)= .slice a0 9 a1:=by rw [hl9]
 rw [e3]
 refine jn 1 rfl<|Z7 0 rfl .z<|zN 0 rfl (fun hLc=> ?_)
 refine Jo 100000<|zQ 0 rfl rfl<|zC 1 rfl (zbm (hi:=3) yd qk rfl rfl rfl om)<|vi (zbn 0 rfl 3 om)<|zQ 2 rfl rfl<|zC 3 rfl (zdj (lo:=3) (hi:=6) yd qk rfl rfl rfl rfl om om)<|vi (zec 1 rfl 3 6 om om)<|zQ 4 rfl rfl<|zC 5 rfl (KE (lo:=6) (hi:=9) yd qk rfl (.s rfl) .n (.inr ⟨_,rfl⟩) (.inl ⟨rfl,rfl⟩) om om)<|ZG (zcj 2 rfl 6 9 om om) (fun _ _=> ?_)
 have e4:(.slice a0 3 3:Value)= .slice a0 ((l.take 3).length) 3:=by rw [show (l.take 3).length=3 by rw [yP];omega]
 rw [e4]
 have e5:(.slice (Z9 a0 6 3 4) (6 - 3) (6 - 3):Value)= .slice (Z9 a0 6 3 4) (((l.take 6).drop 3).length) (6 - 3):=by rw [show ((l.take 6).drop 3).length=6 - 3 by rw [List.length_drop,yP];omega]
 rw [e5]
 have e6:(.slice (Z9 a0 a1 6 4) (9 - 6) (a1 - 6):Value)= .slice (Z9 a0 a1 6 4) (((l.take 9).drop 6).length) (a1 - 6):=by rw [show ((l.take 9).drop 6).length=9 - 6 by rw [List.length_drop,yP];omega]
 rw [e6]
 refine zt 6 (V5 rfl (qA (r:=rS rQ) (k:=3) yj Z2 rfl dd dd dd (.c (x:=(l.take 3)) (cs:=[.slice a0 ((l.take 3).length) 3]) (a0,3) rfl rfl rfl (fun g hr=>Holds.get 2 rfl hr) (.c (x:=((l.take 6).drop 3)) (cs:=[.slice (Z9 a0 6 3 4) (((l.take 6).drop 3).length) (6 - 3)]) ((Z9 a0 6 3 4),(6 - 3)) rfl rfl rfl (fun g hr=>Holds.get 1 rfl hr) (.c (x:=((l.take 9).drop 6)) (cs:=[.slice (Z9 a0 a1 6 4) (((l.take 9).drop 6).length) (a1 - 6)]) ((Z9 a0 a1 6 4),(a1 - 6)) rfl rfl rfl (fun g hr=>Holds.get 0 rfl hr) .n)))) (fun b7 _=> ?_))
 refine zC 7 rfl (zT rfl)<|zU kr<|zi<|vv ?_
 have e8:[(l.take 3),((l.take 6).drop 3),((l.take 9).drop 6)]=(ys l):=by rw [yR (show l.length≤9 by omega)];rfl
 rw [e8]
 refine vK 0 rfl .z ?_
 exact zq rfl (Sb b7,3) trivial (zj rfl) rfl oN (s0 rfl)
end Sp
namespace Sp
open Go
structure Gr where
  (w h m:Int) (p:Option Addr) (n c:Nat)
end Sp
namespace Sp
open Go
section
variable {P : Program} {n : Sz} {m : Fm} {O : List As} {R : List Fa} {d : Option Tmp} {ty : TypeId} {ps : String} {af : Array Edge} {gd : Option (Nat × Bool)} {α : Type}
theorem zo7 {t T:TypeId} {bytes:Nat} {z:Value} {x y:Operand} {k1 k2:IntKind} {z1 z2:Int} {k:Nat} {r:Rp α} (hu:P.underlying t=some (.slice T)) (hI:Inf P T r.sz bytes z) (h1:vz m x=some (.int k1 z1)) (h2:vz m y=some (.int k2 z2))
    (hz1:z1=0) (hz2:z2=(k:Int)) (hb:bytes*k≤281474976710656) (hm:k≤9223372036854775807) (hzs:z.cells.size=r.sz) (hpos:0<r.sz):
    Ef P n ⟨d,.makeSlice t x y,ty,ps,af,gd⟩ m [] R (Y:=Nat) (fun _=>True) (fun b=> .slice (some ⟨b,0,none⟩) 0 k) (fun b=>[rowA T r (some ⟨b,0,none⟩) k []]) (fun _=>[]):=by
  intro a f w hh g s rr ap hw hg K Q hK
  have e:hh=Hp.emp:=s
  subst e;subst hz1;subst hz2
  obtain ⟨i,hi,hz,hsz,hby⟩:=hI.info
  have hrun:=run_make (P:=P) w t T i z hu hi hz k1 k2 (0:Int) (k:Int) Oo Oo (by rw [hby,←Int.natCast_mul];generalize bytes*k=q at hb;omega) Oo
  have hrun':(execOp a.eval ⟨d,.makeSlice t x y,ty,ps,af,gd⟩).run P w= .ok (.value (.slice (some ⟨w.heap.size,0,none⟩) 0 k)) (w.alloc (.cells (madeCells z.cells (k*r.sz)) T)):=by
    simp only [execOp,f.ev h1,f.ev h2,Sem.run_bind,hrun,Result.andThen_ok,Sem.run_pure,hsz,Int.toNat_natCast]
    rfl
  refine Zh hrun' ?_
  refine hK w.heap.size _ trivial (Vz hw hg ?_)
  exact .inr ⟨w.heap.size,0,(madeCells z.cells (k*r.sz)).toList,rfl,yO _,by unfold maxLen;omega,by rw [Array.length_toList,size_madeCells,Nat.zero_add];exact yac _,by rw [Array.toArray_toList],fun j x hx=>by simp at hx⟩
end
end Sp
namespace Sp
open Go
set_option maxRecDepth 100000
set_option maxHeartbeats 8000000
theorem JZ:CB 84 [] [] (Y:=Wd×Wd) (fun y=> .agg #[y.1.b,y.1.l,y.2.b,y.2.l]) (fun y=>[qF true y.1 y.2 ((0:Int):Rat)]):=by
 refine zg Tryz.func84 rfl rfl (fun c=> ?_)
 refine vg<|zB (zo vh rfl) (fun b1=> ?_)
 refine Vj<|zm (qS rfl) zP (j4 cbd) (.n) ?_
 rintro ⟨a0,a1⟩ -
 refine zh 0 rfl rfl rfl rfl qk (.t4 .nil) .z<|Va ?_
 exact zq rfl (a0,a1) trivial (zy 0 qp rfl rfl (.t4 .nil)) rfl oN (s0 rfl)
theorem j5 {p1:Option Addr} {n1:Nat} {c1:Nat} {l1:List (Option Rat)} (hn1:l1.length=n1) (hm1:n1≤1000):CB 159 [.slice p1 n1 c1] [zI rE p1 c1 l1] (Y:=(Option Addr)×Nat) (fun y=> .slice (y.1) ((yi (yc l1)).length) (y.2)) (fun y=>[zI rQ (y.1) (y.2) (yi (yc l1))]):=by
 refine zg Tryz.func159 rfl rfl (fun c=> ?_)
 refine zN 0 rfl (fun hL0=> ?_)
 refine jS 1 rfl<|kS 2 rfl<|qZ (zo7 (r:=rQ) (k:=n1) yf jf rfl rfl rfl rfl om om rfl dd) (fun b1 _=> ?_)
 refine jn 1 rfl<|k12 3 rfl<|zk<|z5 (X:=Nat×(Option Addr)×Nat×(List Rat)) (fun x=>x.1≤n1∧x.2.2.2=(yc l1).take x.1) (fun x=>[(3,.slice (x.2.1) (x.2.2.2.length) (x.2.2.1)),(12,Vi x.1)]) [11,10] (fun x=>[rowA 32 rQ (x.2.1) (x.2.2.1) (x.2.2.2)]) (fun x=>[]) [0] (fun x=>n1 - x.1) (0,Sb b1,n1,([]:List Rat)) (by exact ⟨yO _,rfl⟩) (.e rfl vA (.e rfl vA .n)) ((.e (i:=0) rfl vA .n):zJ _ _ _) sN ?_
 rintro ⟨i,pR,cR,A⟩ hI
 dsimp only at hI
 try dsimp only
 obtain ⟨hi,hA⟩:=hI
 have hAl:A.length=i:=by rw [hA,yP,Po.vT];omega
 refine qe<|zv<|zE (zhq rfl rfl)<|jq<|zi<|qe<|zx rfl (fun h2=> ?_) (fun h2=> ?_)
 refine qN<|zi<|qe<|zk<|qe<|zv<|zdA rfl rfl (zM (x0:=(l1.getD i (none:Option Rat))) 0 i rfl yd qk rfl (by first|rfl|assumption|(simp;done)|omega) rfl rfl (gD (d:=(none:Option Rat)) om)) ?_
 rintro ⟨b3,o4,w5,w6⟩ -
 dsimp only [aq,nq,cq]
 refine vd zbW<|zw (zA (j:=0) 0 qp rfl rfl rfl (.t4 .nil))<|zlU rfl rfl (zo vh rfl) (fun b7=> ?_)
 refine VR 0 rfl rfl rfl rfl rfl qk rfl (.t4 .nil) .z ?_
 refine jq<|zi<|zv<|qJ rfl<|zw (za 0 qp rfl rfl (.t4 .nil))<|zfJ rfl rfl (.c rfl .n) zP (jv (k1:=(l1.getD i (none:Option Rat)).isSome) (u1:=w5) (v1:=w6) (q1:=((l1.getD i (none:Option Rat)).getD 0))) (.c (j:=1) rfl .n) ?_
 rintro ⟨a0,a1⟩ -
 dsimp only [aq,nq,cq]
 refine Zy rfl rfl (qA (r:=rQ) (k:=1) yf jf rfl dd dd dd (.c (x:=((l1.getD i (none:Option Rat)).getD 0)) (cs:=[a0.b,a0.l,a1.b,a1.l]) (a0,a1) rfl rfl rfl (fun g hr=>Holds.get 0 rfl hr) .n)) (fun b10 _=> ?_)
 refine qt 0 rfl .z<|Zz 2 rfl rfl rfl (qT 0 rfl yf jf dd rfl rfl (by first|rfl|assumption|(simp;done)|omega) rfl (by first|rfl|assumption|(simp;done)|omega) om om) (fun _=>(.s (.s .z))) ?_
 rintro ⟨a3,a4⟩ -
 dsimp only [aq,nq,cq]
 refine zE (zT rfl)<|jq<|zG<|zi<|zv<|zE (qm (z:=(((i+1):Nat):Int)) rfl rfl (Q9 om))<|qJ rfl<|jq<|zW ((i+1),a3,a4,(A++([((l1.getD i (none:Option Rat)).getD 0)]))) (show (i+1)≤n1∧(A++([((l1.getD i (none:Option Rat)).getD 0)]))=(yc l1).take (i+1) from by exact ⟨Oo,by rw [hA];exact Po.zla om⟩) (by show n1 - (i+1)<n1 - i;omega) ((.e rfl (by simp) (.of rfl)):vQ _ _) (ho:=((.c (i:=2) rfl .n):zJ _ _ _)) ((.c (j:=5) rfl .n):q9 _ _ _)
 refine z7<|ze<|ze<|zn<|zi<|qe<|Z7 0 rfl .z<|zN 0 rfl (fun hLc=> ?_)
 have hAv:A=(yc l1):=by rw [hA,yR (by rw [Po.vT];omega)]
 refine zv<|qJ rfl<|zE (vL yf rfl)<|zE (zT rfl)<|jq<|zi<|qe<|zk<|Qr (X:=Nat) (fun x:Nat=>x≤n1∧Po.tn (yc l1) n1=Po.tn (yc l1) x) (fun x=>[(6,.int .i64 ((x:Nat):Int)),(3,.slice pR (A.length) cR)]) (fun x=>[]) (fun x=>[zI rQ pR cR A]) (fun x:Nat=>x) n1 (show n1≤n1∧Po.tn (yc l1) n1=Po.tn (yc l1) n1 from by exact ⟨Oo,rfl⟩) ((.e rfl vA (.c rfl .n)):vQ _ _) (ho:=oN) (s0 rfl) ?_
 rintro j hI
 obtain ⟨hj,hT⟩:=hI
 refine qe<|ji (X:=Unit) (fun x=>True) (fun x=>[(34,.bool (decide ((0<((j:Nat):Int))∧(Big.Zv (gQ A ((((j:Nat):Int) - 1).toNat))=0)))),(6,Vi j),(3,.slice pR (A.length) cR)]) (fun x=>[]) (fun x=>[zI rQ pR cR A]) ?_ ?_
 refine vM 2 rfl<|q8 (qU rfl) (fun g1=> ?_) (fun g1=> ?_)
 refine kS 2 rfl<|zE (qx rfl rfl w6)<|vX (zM (x0:=(gQ A ((((j:Nat):Int) - 1).toNat))) 0 ((((j:Nat):Int) - 1).toNat) rfl yf qk rfl zL rfl om (gD (d:=(0:Rat)) om)) ?_
 rintro ⟨b13,o14,w15,w17⟩ -
 refine vd qR<|zw (zA (j:=0) 0 qp rfl rfl rfl (.t4 .nil))<|qg (qS rfl) zP Vt (qX 1 rfl)<|qY 2 rfl ?_
 exact qL () Qn ((.e rfl (congrArg Value.bool (by first|(exact (decide_eq_false (fun k=>g1 k.1)).symm)|exact decide_eq_decide.2 ⟨fun k=>⟨g1,k⟩,fun k=>k.2⟩)) (.c rfl (.c rfl .n))):vQ _ _) (ho:=oN) ((.c (j:=2) rfl .n):q9 _ _ _)
 refine qY 8 rfl ?_
 exact qL () Qn ((.e rfl (congrArg Value.bool (by first|(exact (decide_eq_false (fun k=>g1 k.1)).symm)|exact decide_eq_decide.2 ⟨fun k=>⟨g1,k⟩,fun k=>k.2⟩)) (.c rfl (.c rfl .n))):vQ _ _) (ho:=oN) (s0 rfl)
 rintro ⟨⟩ -
 refine zx rfl (fun hz=> ?_) (fun hz=> ?_)
 refine kk6<|zk<|vM 1 rfl<|zE (qx rfl rfl w6)<|qY 1 rfl<|zG<|zW (j - 1) (by exact ⟨Oo,hT.trans (Po.zsF om (hAv ▸ Po.zsG om hz.2))⟩) (by have h9:=hz.1;omega) ((.e rfl vA (.c rfl .n))) oN (s0 rfl)
 refine z7<|ze<|ze<|zn<|zi<|jK 3 rfl<|zE (zbm (hi:=j) yf qk rfl rfl rfl om)<|vd (zbn 0 rfl j om)<|Zp 1 rfl ?_
 have a2:(yi (yc l1))=A.take j:=by rw [Po.zpW (by rw [Po.vT];exact hn1) hT (Po.zui (hAv ▸ Po.zuj hz)),hAv]
 exact zq rfl (pR,j) trivial (zj rfl) (by rw [a2,yP,Nat.min_eq_left om]) oN ((.e (j:=0) rfl (by rw [a2]) .n))
theorem zcc {p1:Option Addr} {n1:Nat} {c1:Nat} {l1:List (Option Rat)} {i:Nat} (hn1:l1.length=n1) (hm1:n1≤1000) (hi:i≤3000):CB 227 [.slice p1 n1 c1,Vi i] [zI rE p1 c1 l1] (Y:=Wd×Wd×Bool) (fun y=> .agg #[y.1.b,y.1.l,y.2.1.b,y.2.1.l]) (fun y=>[qF y.2.2 y.1 y.2.1 ((l1.getD i none).getD 0)]):=by
 refine zg Tryz.func227 rfl rfl (fun c=> ?_)
 refine zN 0 rfl (fun hL0=> ?_)
 refine vg<|zB (zo vh rfl) (fun b1=> ?_)
 refine ZI<|k12 4 rfl<|zx rfl (fun hlt=> ?_) (fun hlt=> ?_)
 refine jK 2 rfl<|vX (zM (x0:=(l1.getD i (none:Option Rat))) 0 i rfl yf qk rfl zL rfl rfl (gD (d:=(none:Option Rat)) om)) ?_
 rintro ⟨b2,o3,w4,w5⟩ -
 refine vd zbW<|zw (zA (j:=0) 0 qp rfl rfl rfl (.t4 .nil))<|zh 0 rfl rfl rfl rfl qk (.t4 .nil) .z<|Va<|zD ?_
 exact zq rfl (w4,w5,((l1.getD i none).isSome)) trivial (zy 0 qp rfl rfl (.t4 .nil)) rfl oN ((.c (j:=1) rfl .n))
 refine kk8<|zm (.n) zP (JZ) (.n) ?_
 rintro ⟨a0,a1⟩ -
 refine zh 0 rfl rfl rfl rfl qk (.t4 .nil) .z<|Va ?_
 exact zq rfl (a0,a1,true) trivial (zy 0 qp rfl rfl (.t4 .nil)) rfl oN ((.e (j:=0) rfl (by rw [Po.zsH om]) .n))
theorem zi5 {p1:Option Addr} {n1:Nat} {c1:Nat} {l1:List (Option Rat)} {p2:Option Addr} {n2:Nat} {c2:Nat} {l2:List (Option Rat)} (hn1:l1.length=n1) (hm1:n1≤1000) (hn2:l2.length=n2) (hm2:n2≤1000) (hb:∀i,yh ((l1.getD i none).getD 0)+yh ((l2.getD i none).getD 0)+1≤1099511627776):CB 165 [.slice p1 n1 c1,.slice p2 n2 c2,.func (.func 57) #[] #[]] [zI rE p1 c1 l1,zI rE p2 c2 l2] (Y:=(Option Addr)×Nat) (fun y=> .slice (y.1) ((Po.add (yc l1) (yc l2)).length) (y.2)) (fun y=>[zI rQ (y.1) (y.2) (Po.add (yc l1) (yc l2))]):=by
 refine zg Tryz.func165 rfl rfl (fun c=> ?_)
 refine zN 0 rfl (fun hL0=> ?_)
 refine zN 1 rfl (fun hL1=> ?_)
 refine jS 1 rfl<|kS 4 rfl<|zE (v:= .int .i64 (((max n1 n2):Nat):Int)) (by rw [show ((((max n1 n2):Nat):Int):Int)=max ((n1:Nat):Int) ((n2:Nat):Int) by omega];exact zei rfl rfl) ?_
 have e1:((((max n1 n2):Nat):Int):Int)=(((max n1 n2):Nat):Int):=Oo
 rw [e1]
 refine qZ (vS (r:=rE) (k:=(max n1 n2)) (x0:=none) (γ0:=(wz,wz)) yd jf rfl rfl rfl rfl om om rfl (fun g _=>JT g) dd) (fun b2 _=> ?_)
 refine jn 1 rfl<|k12 3 rfl<|zk<|z5 (X:=Nat×(List (Option Rat))) (fun x=>x.1≤max n1 n2∧x.2.length=max n1 n2∧∀j,j<x.1→x.2.getD j none=some (((l1.getD j none).getD 0)+((l2.getD j none).getD 0))) (fun x=>[(17,Vi x.1)]) [16,7,6,0,1,2] (fun x=>[rowA 32 rE (Sb b2) (max n1 n2) (x.2)]) (fun x=>[]) [0,1] (fun x=>max n1 n2 - x.1) (0,yS (max n1 n2) none) (by exact ⟨yO _,yQ,fun j hj=>by omega⟩) (.e rfl vA .n) ((.e (i:=0) rfl vA .n):zJ _ _ _) sN ?_
 rintro ⟨i,A⟩ hI
 dsimp only at hI
 obtain ⟨hi,hAl,hA⟩:=hI
 refine jg 1 rfl<|zx rfl (fun h3=> ?_) (fun h3=> ?_)
 refine vY<|zk<|k12 2 rfl<|vM 5 rfl<|zm (q7 rfl rfl) zP (zcc qB qB zL) (qX 0 rfl) ?_
 rintro ⟨w34,w45,k96⟩ -
 refine kS 2 rfl<|zm (q7 rfl rfl) zP (zcc qB qB zL) (qX 2 rfl) ?_
 rintro ⟨w37,w48,k99⟩ -
 dsimp only [aq,nq,cq]
 refine ZP rfl (.c rfl (.c rfl .n)) zP (Ji (by first|rfl|assumption|exact hb _|omega)) (.c (j:=1) rfl (.c (j:=0) rfl .n)) (first:=[]) (cap:=[]) ?_
 rintro ⟨a1,a2⟩ -
 refine zE (zZ (j:=i) yd qk rfl rfl rfl om)<|vO 0 rfl (qh (r:=rE) (j:=i) (x0:=(some (((l1.getD i none).getD 0)+((l2.getD i none).getD 0)))) (γ0:=(a1,a2)) rfl rfl om rfl rfl qk (fun g hr=>Kz (Holds.get 0 rfl hr))) (fun _=> .z) (fun _ _=> ?_)
 refine jq<|zG<|zi<|zv<|zE (qj rfl rfl)<|qY 1 rfl<|zW ((i+1),(A.set i (some (((l1.getD i none).getD 0)+((l2.getD i none).getD 0))))) (by exact ⟨Oo,by rw [yX];exact hAl,Po.zaD hA om rfl⟩) om (mR rfl) (o0 rfl) ((.of [3,4] rfl))
 refine z7<|ze<|ze<|zn<|zi<|jK 1 rfl<|qt 0 rfl .z<|zm (qS rfl) zP (j5 zL zL) (qX 0 rfl) ?_
 rintro ⟨a3,a4⟩ -
 refine Zp 1 rfl ?_
 have a0:=Po.znf (l:=l1) (m:=l2) (n:=max n1 n2) (by rw [hn1,hn2]) hAl (fun j hj=>hA j om)
 exact zq rfl (a3,a4) trivial (zj rfl) (by rw [a0]) oN ((.e (j:=0) rfl (by rw [a0]) .n))
theorem zi6 {p1:Option Addr} {n1:Nat} {c1:Nat} {l1:List (Option Rat)} {p2:Option Addr} {n2:Nat} {c2:Nat} {l2:List (Option Rat)} (hn1:l1.length=n1) (hm1:n1≤1000) (hn2:l2.length=n2) (hm2:n2≤1000) (hb:∀i,yh ((l1.getD i none).getD 0)+yh ((l2.getD i none).getD 0)+1≤1099511627776):CB 165 [.slice p1 n1 c1,.slice p2 n2 c2,.func (.func 147) #[] #[]] [zI rE p1 c1 l1,zI rE p2 c2 l2] (Y:=(Option Addr)×Nat) (fun y=> .slice (y.1) ((yG (yc l1) (yc l2)).length) (y.2)) (fun y=>[zI rQ (y.1) (y.2) (yG (yc l1) (yc l2))]):=by
 refine zg Tryz.func165 rfl rfl (fun c=> ?_)
 refine zN 0 rfl (fun hL0=> ?_)
 refine zN 1 rfl (fun hL1=> ?_)
 refine jS 1 rfl<|kS 4 rfl<|zE (v:= .int .i64 (((max n1 n2):Nat):Int)) (by rw [show ((((max n1 n2):Nat):Int):Int)=max ((n1:Nat):Int) ((n2:Nat):Int) by omega];exact zei rfl rfl) ?_
 have e1:((((max n1 n2):Nat):Int):Int)=(((max n1 n2):Nat):Int):=Oo
 rw [e1]
 refine qZ (vS (r:=rE) (k:=(max n1 n2)) (x0:=none) (γ0:=(wz,wz)) yd jf rfl rfl rfl rfl om om rfl (fun g _=>JT g) dd) (fun b2 _=> ?_)
 refine jn 1 rfl<|k12 3 rfl<|zk<|z5 (X:=Nat×(List (Option Rat))) (fun x=>x.1≤max n1 n2∧x.2.length=max n1 n2∧∀j,j<x.1→x.2.getD j none=some (((l1.getD j none).getD 0) - ((l2.getD j none).getD 0))) (fun x=>[(17,Vi x.1)]) [16,7,6,0,1,2] (fun x=>[rowA 32 rE (Sb b2) (max n1 n2) (x.2)]) (fun x=>[]) [0,1] (fun x=>max n1 n2 - x.1) (0,yS (max n1 n2) none) (by exact ⟨yO _,yQ,fun j hj=>by omega⟩) (.e rfl vA .n) ((.e (i:=0) rfl vA .n):zJ _ _ _) sN ?_
 rintro ⟨i,A⟩ hI
 dsimp only at hI
 obtain ⟨hi,hAl,hA⟩:=hI
 refine jg 1 rfl<|zx rfl (fun h3=> ?_) (fun h3=> ?_)
 refine vY<|zk<|k12 2 rfl<|vM 5 rfl<|zm (q7 rfl rfl) zP (zcc qB qB zL) (qX 0 rfl) ?_
 rintro ⟨w34,w45,k96⟩ -
 refine kS 2 rfl<|zm (q7 rfl rfl) zP (zcc qB qB zL) (qX 2 rfl) ?_
 rintro ⟨w37,w48,k99⟩ -
 dsimp only [aq,nq,cq]
 refine ZP rfl (.c rfl (.c rfl .n)) zP (zgl (by first|rfl|assumption|exact hb _|omega)) (.c (j:=1) rfl (.c (j:=0) rfl .n)) (first:=[]) (cap:=[]) ?_
 rintro ⟨a1,a2⟩ -
 refine zE (zZ (j:=i) yd qk rfl rfl rfl om)<|vO 0 rfl (qh (r:=rE) (j:=i) (x0:=(some (((l1.getD i none).getD 0) - ((l2.getD i none).getD 0)))) (γ0:=(a1,a2)) rfl rfl om rfl rfl qk (fun g hr=>Kz (Holds.get 0 rfl hr))) (fun _=> .z) (fun _ _=> ?_)
 refine jq<|zG<|zi<|zv<|zE (qj rfl rfl)<|qY 1 rfl<|zW ((i+1),(A.set i (some (((l1.getD i none).getD 0) - ((l2.getD i none).getD 0))))) (by exact ⟨Oo,by rw [yX];exact hAl,Po.zaD hA om rfl⟩) om (mR rfl) (o0 rfl) ((.of [3,4] rfl))
 refine z7<|ze<|ze<|zn<|zi<|jK 1 rfl<|qt 0 rfl .z<|zm (qS rfl) zP (j5 zL zL) (qX 0 rfl) ?_
 rintro ⟨a3,a4⟩ -
 refine Zp 1 rfl ?_
 have a0:=Po.zng (l:=l1) (m:=l2) (n:=max n1 n2) (by rw [hn1,hn2]) hAl (fun j hj=>hA j om)
 exact zq rfl (a3,a4) trivial (zj rfl) (by rw [a0]) oN ((.e (j:=0) rfl (by rw [a0]) .n))
theorem zhf {p1:Option Addr} {n1:Nat} {c1:Nat} {l1:List (Option Rat)} {p2:Option Addr} {n2:Nat} {c2:Nat} {l2:List (Option Rat)} (hn1:l1.length=n1) (hm1:n1≤1000) (hn2:l2.length=n2) (hm2:n2≤1000) (hb:∀i,yh ((l1.getD i none).getD 0)+yh ((l2.getD i none).getD 0)+1≤1099511627776):CB 77 [.slice p1 n1 c1,.slice p2 n2 c2] [zI rE p1 c1 l1,zI rE p2 c2 l2] (Y:=(Option Addr)×Nat) (fun y=> .slice (y.1) ((Po.add (yc l1) (yc l2)).length) (y.2)) (fun y=>[zI rQ (y.1) (y.2) (Po.add (yc l1) (yc l2))]):=by
 refine zg Tryz.func77 rfl rfl (fun c=> ?_)
 refine zN 0 rfl (fun hL0=> ?_)
 refine zN 1 rfl (fun hL1=> ?_)
 refine jS 1 rfl<|kS 2 rfl<|zm (ag3 rfl rfl rfl) zP (zi5 qB qB qB qB qB) (vj 0 1 rfl rfl) ?_
 rintro ⟨a0,a1⟩ -
 refine Zp 1 rfl ?_
 exact zq rfl (a0,a1) trivial (zj rfl) rfl oN (s0 rfl)
theorem zdn {p1:Option Addr} {n1:Nat} {c1:Nat} {l1:List (Option Rat)} {p2:Option Addr} {n2:Nat} {c2:Nat} {l2:List (Option Rat)} (hn1:l1.length=n1) (hm1:n1≤1000) (hn2:l2.length=n2) (hm2:n2≤1000) (hb:∀i,yh ((l1.getD i none).getD 0)+yh ((l2.getD i none).getD 0)+1≤1099511627776):CB 198 [.slice p1 n1 c1,.slice p2 n2 c2] [zI rE p1 c1 l1,zI rE p2 c2 l2] (Y:=(Option Addr)×Nat) (fun y=> .slice (y.1) ((yG (yc l1) (yc l2)).length) (y.2)) (fun y=>[zI rQ (y.1) (y.2) (yG (yc l1) (yc l2))]):=by
 refine zg Tryz.func198 rfl rfl (fun c=> ?_)
 refine zN 0 rfl (fun hL0=> ?_)
 refine zN 1 rfl (fun hL1=> ?_)
 refine jS 1 rfl<|kS 2 rfl<|zm (ag3 rfl rfl rfl) zP (zi6 qB qB qB qB qB) (vj 0 1 rfl rfl) ?_
 rintro ⟨a0,a1⟩ -
 refine Zp 1 rfl ?_
 exact zq rfl (a0,a1) trivial (zj rfl) rfl oN (s0 rfl)
theorem Jm {p1:Option Addr} {n1:Nat} {c1:Nat} {l1:List (Option Rat)} {p2:Option Addr} {n2:Nat} {c2:Nat} {l2:List (Option Rat)} (hn1:l1.length=n1) (hm1:n1≤1000) (hn2:l2.length=n2) (hm2:n2≤1000) (hm12:n1+n2≤1000) (hb1:∀i,yh ((yc l1).getD i 0)≤200000000000) (hb2:∀i,yh ((yc l2).getD i 0)≤200000000000) (hs:∀k lo n,lo+n≤k+1→yh (Po.cv (yi (yc l1)) (yi (yc l2)) k lo n)≤200000000000):CB 71 [.slice p1 n1 c1,.slice p2 n2 c2] [zI rE p1 c1 l1,zI rE p2 c2 l2] (Y:=(Option Addr)×Nat) (fun y=> .slice (y.1) ((yl (yc l1) (yc l2)).length) (y.2)) (fun y=>[zI rQ (y.1) (y.2) (yl (yc l1) (yc l2))]):=by
 refine zg Tryz.func71 rfl rfl (fun c=> ?_)
 refine zN 0 rfl (fun hL0=> ?_)
 refine zN 1 rfl (fun hL1=> ?_)
 refine jS 1 rfl<|qJ rfl<|zm (qS rfl) zP (j5 qB qB) (qX 0 rfl) ?_
 rintro ⟨a1,a2⟩ -
 refine qJ rfl<|zm (qS rfl) zP (j5 qB qB) (qX 2 rfl) ?_
 rintro ⟨a3,a4⟩ -
 refine jn 2 rfl ?_
 obtain ⟨P,hP⟩:∃z,z=(yi (yc l1)):=⟨_,rfl⟩
 have e5:(yi (yc l1):List Rat)=P:=by exact hP.symm
 rw [e5]
 obtain ⟨Q,hQ⟩:∃z,z=(yi (yc l2)):=⟨_,rfl⟩
 have e6:(yi (yc l2):List Rat)=Q:=by exact hQ.symm
 rw [e6]
 have hbP:∀i,yh (P.getD i 0)≤200000000000:=fun i=>by rw [hP,Po.Zf];exact hb1 i
 have hbQ:∀i,yh (Q.getD i 0)≤200000000000:=fun i=>by rw [hQ,Po.Zf];exact hb2 i
 have hsP:∀k lo n,lo+n≤k+1→yh (Po.cv P Q k lo n)≤200000000000:=by rw [hP,hQ];exact hs
 have hPl:P.length≤n1:=by rw [hP,←hn1,←Po.vT l1];exact Po.vI _
 have hQl:Q.length≤n2:=by rw [hQ,←hn2,←Po.vT l2];exact Po.vI _
 refine ji (X:=Unit) (fun x=>True) (fun x=>[(20,.bool (decide (((((P).length:Nat):Int)=0)∨((((Q).length:Nat):Int)=0)))),(1,.slice a3 ((Q).length) a4),(0,.slice a1 ((P).length) a2)]) (fun x=>[]) (fun x=>[zI rQ a3 a4 Q,zI rQ a1 a2 P]) ?_ ?_
 refine vM 3 rfl<|q8 (qU rfl) (fun g1=> ?_) (fun g1=> ?_)
 refine qY 4 rfl ?_
 exact qL () Qn ((.e rfl (congrArg Value.bool (by first|(exact (decide_eq_true (Or.inl g1)).symm)|exact decide_eq_decide.2 ⟨fun k=>Or.inr k,fun k=>k.elim (fun e=>absurd e g1) _root_.id⟩)) (.c rfl (.c rfl .n))):vQ _ _) (ho:=oN) ((.of [0,1] rfl):q9 _ _ _)
 refine qY 4 rfl ?_
 exact qL () Qn ((.e rfl (congrArg Value.bool (by first|(exact (decide_eq_true (Or.inl g1)).symm)|exact decide_eq_decide.2 ⟨fun k=>Or.inr k,fun k=>k.elim (fun e=>absurd e g1) _root_.id⟩)) (.c rfl (.c rfl .n))):vQ _ _) (ho:=oN) ((.of [0,1] rfl):q9 _ _ _)
 rintro ⟨⟩ -
 refine zx rfl (fun a5=> ?_) (fun a5=> ?_)
 refine Zn 1 rfl<|zD<|QR rQ ?_
 have a0:(yl (yc l1) (yc l2))=[]:=Po.zni hP hQ om
 exact zq rfl (none,0) trivial (zj rfl) (by rw [a0];rfl) oN ((.e (j:=0) rfl (by rw [a0]) .n))
 have hPQ:0<P.length∧0<Q.length:=Oo
 refine kk8<|kS 4 rfl<|zE (qm (z:=(((((P).length)+((Q).length)):Nat):Int)) rfl rfl (Q9 om))<|zE (qx (z:=((((((P).length)+((Q).length)):Nat):Int) - 1)) rfl rfl (Q9 om)) ?_
 have e7:(((((((P).length)+((Q).length)):Nat):Int) - 1):Int)=(((P.length+Q.length - 1):Nat):Int):=Oo
 rw [e7]
 refine qZ (vS (r:=rE) (k:=(P.length+Q.length - 1)) (x0:=none) (γ0:=(wz,wz)) yd jf rfl rfl rfl rfl om om rfl (fun g _=>JT g) dd) (fun b8 _=> ?_)
 refine jn 1 rfl<|k12 3 rfl<|zk<|z5 (X:=Nat×(List (Option Rat))) (fun x=>x.1≤P.length+Q.length - 1∧x.2.length=P.length+Q.length - 1∧∀j,j<x.1→x.2.getD j none=some (Po.pc P Q j)) (fun x=>[(30,Vi x.1)]) [29,5,1,0] (fun x=>[rowA 32 rE (Sb b8) (P.length+Q.length - 1) (x.2)]) (fun x=>[]) [0,1] (fun x=>P.length+Q.length - 1 - x.1) (0,yS (P.length+Q.length - 1) none) (by exact ⟨yO _,yQ,fun j hj=>by omega⟩) (.e rfl vA .n) ((.e (i:=0) rfl vA .n):zJ _ _ _) sN ?_
 rintro ⟨k,A⟩ hI
 dsimp only at hI
 obtain ⟨hk,hAl,hA⟩:=hI
 refine jg 1 rfl<|zx rfl (fun h9=> ?_) (fun h9=> ?_)
 refine vY<|zk<|jS 2 rfl<|zm (.n) zP (JZ) (.n) ?_
 rintro ⟨a6,a7⟩ -
 refine zB (zo vh rfl) (fun a8=> ?_)
 refine zh 0 rfl rfl rfl rfl qk (.t4 .nil) .z<|ZI<|jK 3 rfl<|zE (qx rfl rfl w6)<|zE (qm rfl rfl w6)<|zE (zei rfl rfl) ?_
 have a9:((max 0 ((((k:Nat):Int) - (((Q).length:Nat):Int))+1)):Int)=(((k+1 - Q.length):Nat):Int):=Oo
 rw [a9]
 refine vZ 1 rfl<|zk<|z5 (X:=Nat×Wd×Wd) (fun x=>(k+1 - Q.length)≤x.1∧x.1≤max (k+1 - Q.length) (min k (P.length - 1)+1)) (fun x=>[(8,Vi x.1)]) [7,6,30,29,5,1,0] (fun x=>[zK a8 32 (cw [x.2.1,x.2.2]),rowA 32 rE (Sb b8) (P.length+Q.length - 1) A]) (fun x=>[qF true x.2.1 x.2.2 (Po.cv P Q k (k+1 - Q.length) (x.1 - (k+1 - Q.length)))]) [1,2] (fun x=>k+1 - x.1) ((k+1 - Q.length),a6,a7) (by exact ⟨yac _,Nat.le_max_left _ _⟩) (.of rfl) ((.of [0,0] rfl):zJ _ _ _) ((.e (j:=0) rfl (by rw [Nat.sub_self];rfl) .n)) ?_
 rintro ⟨i,su,sv⟩ hi
 dsimp only at hi
 refine qe<|jK 4 rfl<|zE (qx rfl rfl w6)<|zE (zr9 rfl rfl)<|vZ 1 rfl<|zx rfl (fun b1=> ?_) (fun b1=> ?_)
 refine vY<|zk<|Vk 13<|qy 0 rfl (za 0 qp rfl rfl (.t4 .nil))<|zQ 1 rfl rfl<|zQ 2 rfl rfl<|jc 3 rfl (zM (x0:=((P).getD i (0:Rat))) 2 i rfl yf qk rfl zL rfl rfl (gD (d:=(0:Rat)) om)) ?_
 rintro ⟨b15,o16,w17,w18⟩ -
 refine vi qR<|vE 4 rfl (zA (j:=0) 0 qp rfl rfl rfl (.t4 .nil))<|zQ 5 rfl rfl<|zQ 6 rfl rfl<|zQ 7 rfl rfl<|zC 8 rfl (qx rfl rfl w6) ?_
 have b4:((((k:Nat):Int) - ((i:Nat):Int)):Int)=(((k - i):Nat):Int):=Oo
 rw [b4]
 refine jc 9 rfl (zM (x0:=((Q).getD (k - i) (0:Rat))) 3 (k - i) rfl yf qk rfl zL rfl rfl (gD (d:=(0:Rat)) om)) ?_
 rintro ⟨b20,o21,w22,w23⟩ -
 refine vi qR<|vE 10 rfl (zA (j:=0) 0 qp rfl rfl rfl (.t4 .nil))<|zt 11 (zp rfl (q7 rfl rfl) zP (Jj (by have h1:=hbP i;have h2:=hbQ (k - i);omega)) (vj 3 1 rfl rfl) ?_)
 rintro ⟨b5,b6⟩ -
 refine zt 12 (zp rfl q7 zP (Ji (k1:=true) (u1:=su) (v1:=sv) (q1:=(Po.cv P Q k (k+1 - Q.length) (i - (k+1 - Q.length)))) (k2:=true) (u2:=b5) (v2:=b6) (q2:=((P).getD i (0:Rat))*((Q).getD (k - i) (0:Rat))) (by have h1:=hsP k (k+1 - Q.length) (i - (k+1 - Q.length)) om;have h2:=hbP i;have h3:=hbQ (k - i);have h4:=Big.jB (P.getD i 0) (Q.getD (k - i) 0);omega)) (vj 5 0) ?_)
 rintro ⟨b7,b9⟩ -
 refine zt 13 (zH rfl rfl rfl rfl qk (.t4 .nil) ?_)
 refine zU kr<|zG<|zi<|vM 1 rfl<|zE (qj rfl rfl)<|qY 1 rfl<|zW ((i+1),b7,b9) (by exact ⟨Oo,Oo⟩) om (mR rfl) ((.of [0,0] rfl):zJ _ _ _) ((.e (j:=0) rfl (by rw [Po.zpX _ _ hi.1]) (.of [7,8] rfl)))
 refine z7<|ze<|ze<|zn<|zi<|vM 2 rfl<|zw (za 0 qp rfl rfl (.t4 .nil))<|zE (zZ (j:=k) yd qk rfl rfl rfl om)<|vO 1 rfl (qh (r:=rE) (j:=k) (x0:=(some (Po.cv P Q k (k+1 - Q.length) (i - (k+1 - Q.length))))) (γ0:=(su,sv)) rfl rfl om rfl rfl qk (fun g hr=>Kz (Holds.get 0 rfl hr))) (fun _=>(.s .z)) (fun _ _=> ?_)
 refine jq<|zG<|zi<|zv<|zE (qj rfl rfl)<|qY 1 rfl<|zW ((k+1),(A.set k (some (Po.cv P Q k (k+1 - Q.length) (i - (k+1 - Q.length)))))) (by exact ⟨Oo,by rw [yX];exact hAl,Po.zaD hA om (Po.zsI hi.1 qB hi.2 hPQ.1)⟩) om (mR rfl) ((.c (i:=1) rfl .n):zJ _ _ _) ((.of [1,2] rfl))
 refine z7<|ze<|ze<|zn<|zi<|jK 1 rfl<|qt 0 rfl .z<|zm (qS rfl) zP (j5 zL zL) (qX 0 rfl) ?_
 rintro ⟨c3,c4⟩ -
 refine Zp 1 rfl ?_
 have a0:=Po.znh hP hQ om rfl hAl (fun j hj=>hA j om)
 exact zq rfl (c3,c4) trivial (zj rfl) (by rw [a0]) oN ((.e (j:=0) rfl (by rw [a0]) .n))
theorem Vy {i0:Nat} {j0:Nat} {bB:Nat} {pB:Option Addr} {cB:Nat} {vb:List Rat} {bA:Nat} {pA:Option Addr} {cA:Nat} {va:List Rat} (hva:va.length=9) (hvb:vb.length=9) (hi0:i0<3) (hj0:j0<3):CB 196 [Vi i0,Vi j0,Vp bB,Vp bA] [j8 bB 0 [.slice pB 3 cB],zI (rS rQ) pB cB (ys vb),j8 bA 0 [.slice pA 3 cA],zI (rS rQ) pA cA (ys va)] (Y:=(Option Addr)×Nat) (fun y=> .slice (y.1) ((ym (ye va) (ye vb) (3*i0+j0)).length) (y.2)) (fun y=>[zI rQ (y.1) (y.2) (ym (ye va) (ye vb) (3*i0+j0))]):=by
 refine zg Tryz.func196 rfl rfl (fun c=> ?_)
 refine zN 1 rfl (fun hL1=> ?_)
 refine zN 3 rfl (fun hL3=> ?_)
 have hra:=Ro.zaM hva hi0
 have hrb:=Ro.zaM hvb hi0
 have hsa:=Ro.zb7 va
 have hsb:=Ro.zb7 vb
 refine jg 1 rfl<|Jo 100000<|vE 0 rfl (zf (j:=0) 0 Qx rfl rfl rfl rfl)<|zQ 1 rfl rfl<|jc 2 rfl (zM (x0:=((ys vb).getD i0 [])) 1 i0 rfl yj vC rfl zL rfl rfl (gD (d:=[]) om)) ?_
 rintro ⟨b1,o2,p3,c4⟩ -
 refine vE 3 rfl (zf (j:=0) 0 vF rfl rfl rfl rfl)<|zQ 4 rfl rfl<|jc 5 rfl (zM (x0:=(((ys vb).getD i0 []).getD j0 (0:Rat))) 1 j0 rfl yd qk rfl zL rfl rfl (gD (d:=(0:Rat)) om)) ?_
 rintro ⟨b5,o6,w7,w9⟩ -
 refine vi qR<|vE 6 rfl (zA (j:=0) 0 qp rfl rfl rfl (.t4 .nil))<|vE 7 rfl (zf (j:=0) 6 Qx rfl rfl rfl rfl)<|zQ 8 rfl rfl<|jc 9 rfl (zM (x0:=((ys va).getD i0 [])) 7 i0 rfl yj vC rfl zL rfl rfl (gD (d:=[]) om)) ?_
 rintro ⟨b10,o11,p12,c13⟩ -
 refine vE 10 rfl (zf (j:=0) 0 vF rfl rfl rfl rfl)<|zQ 11 rfl rfl<|jc 12 rfl (zM (x0:=(((ys va).getD i0 []).getD j0 (0:Rat))) 1 j0 rfl yd qk rfl zL rfl rfl (gD (d:=(0:Rat)) om)) ?_
 rintro ⟨b14,o15,a0,a1⟩ -
 refine vi qR<|vE 13 rfl (zA (j:=0) 0 qp rfl rfl rfl (.t4 .nil))<|zt 14 (V5 rfl (qA (r:=rE) (k:=2) yd jf rfl dd dd dd (.c (x:=(some (((ys vb).getD i0 []).getD j0 (0:Rat)))) (cs:=[w7.b,w7.l,w9.b,w9.l]) (w7,w9) rfl rfl rfl (fun g hr=>Kz (Holds.get 5 rfl hr)) (.c (x:=(some (((ys va).getD i0 []).getD j0 (0:Rat)))) (cs:=[a0.b,a0.l,a1.b,a1.l]) (a0,a1) rfl rfl rfl (fun g hr=>Kz (Holds.get 1 rfl hr)) .n))) (fun b19 _=> ?_))
 refine Qw 0 rfl .z<|zt 15 (zp rfl (qS rfl) zP (j5 zL zL) (qX 0 rfl) ?_)
 rintro ⟨a3,a4⟩ -
 refine zC 16 rfl (zT rfl)<|zU kr<|zi<|vv ?_
 have a2:=Ro.zqp (va:=va) (vb:=vb) hi0 hj0
 exact zq rfl (a3,a4) trivial (zj rfl) (by rw [← a2]) oN ((.e (j:=0) rfl (by rw [← a2]) .n))
theorem zbo {r0:Nat} {r1:Nat} {k0:Nat} {k1:Nat} {bF:Nat} {bB:Nat} {pB:Option Addr} {cB:Nat} {vb:List Rat} {bA:Nat} {pA:Option Addr} {cA:Nat} {va:List Rat} (hva:va.length=9) (hvb:vb.length=9) (hr0:r0<3) (hr1:r1<3) (hk0:k0<3) (hk1:k1<3) (ha8:Ro.h8 (ye va)) (hb8:Ro.h8 (ye vb)):CB 197 [Vi r0,Vi r1,Vi k0,Vi k1,Vp bF] [j8 bF 0 [.func (.func 196) #[] #[Vp bB,Vp bA]],j8 bB 0 [.slice pB 3 cB],zI (rS rQ) pB cB (ys vb),j8 bA 0 [.slice pA 3 cA],zI (rS rQ) pA cA (ys va)] (Y:=(Option Addr)×Nat) (fun y=> .slice (y.1) ((yw (ye va) (ye vb) (3*r0+k0) (3*r1+k1) (3*r0+k1) (3*r1+k0)).length) (y.2)) (fun y=>[zI rQ (y.1) (y.2) (yw (ye va) (ye vb) (3*r0+k0) (3*r1+k1) (3*r0+k1) (3*r1+k0))]):=by
 refine zg Tryz.func197 rfl rfl (fun c=> ?_)
 refine zN 2 rfl (fun hL2=> ?_)
 refine zN 4 rfl (fun hL4=> ?_)
 refine jg 1 rfl<|Jo 100000<|vE 0 rfl (zf (j:=0) 0 zco rfl rfl rfl rfl)<|zQ 1 rfl rfl<|zQ 2 rfl rfl<|vE 4 rfl (zf (j:=0) 0 zco rfl rfl rfl rfl)<|zQ 5 rfl rfl<|zQ 6 rfl rfl<|vE 9 rfl (zf (j:=0) 0 zco rfl rfl rfl rfl)<|zQ 10 rfl rfl<|zQ 11 rfl rfl<|vE 13 rfl (zf (j:=0) 0 zco rfl rfl rfl rfl)<|zQ 14 rfl rfl<|zQ 15 rfl rfl<|zt 3 (V6 rfl rfl (.c rfl (.c rfl .n)) zP (Vy qB qB qB qB) (.c (j:=1) rfl (.c (j:=2) rfl (.c (j:=3) rfl (.c (j:=4) rfl .n)))) (first:=[]) (cap:=[Vp bB,Vp bA]) ?_)
 rintro ⟨p91,c92⟩ -
 refine zt 7 (V6 rfl rfl (.c rfl (.c rfl .n)) zP (Vy qB qB qB qB) (.c (j:=2) rfl (.c (j:=3) rfl (.c (j:=4) rfl (.c (j:=5) rfl .n)))) (first:=[]) (cap:=[Vp bB,Vp bA]) ?_)
 rintro ⟨p93,c94⟩ -
 first|refine vi (jC 1 rfl) ?_|refine o_mapR (jC 1 rfl) ?_
 first|refine vi (jC 1 rfl) ?_|refine o_mapR (jC 1 rfl) ?_
 refine zt 8 (zp rfl (q7 rfl rfl) zP (Jm (by exact yM _) (by have:=yE (a:=ye va) (b:=ye vb) (3*r0+k0);omega) (by exact yM _) (by have:=yE (a:=ye va) (b:=ye vb) (3*r1+k1);omega) (by have:=yE (a:=ye va) (b:=ye vb) (3*r0+k0);have:=yE (a:=ye va) (b:=ye vb) (3*r1+k1);omega) (by rw [yg];exact fun j=>yN (Ro.Qh ha8 hb8 _ j) dd) (by rw [yg];exact fun j=>yN (Ro.Qh ha8 hb8 _ j) dd) (by rw [yg,yg];exact Dt.zdc (Ro.Qh ha8 hb8 _) (Ro.Qh ha8 hb8 _) (yE _) dd)) (vj 1 0 rfl rfl) ?_)
 rintro ⟨p95,c96⟩ -
 have e7:(yl (yc ((ym (ye va) (ye vb) (3*r0+k0)).map some)) (yc ((ym (ye va) (ye vb) (3*r1+k1)).map some)):List Rat)=yl (ym (ye va) (ye vb) (3*r0+k0)) (ym (ye va) (ye vb) (3*r1+k1)):=by rw [yg,yg]
 rw [e7]
 refine zt 12 (V6 rfl rfl (.c rfl (.c rfl .n)) zP (Vy qB qB qB qB) (.c (j:=6) rfl (.c (j:=7) rfl (.c (j:=8) rfl (.c (j:=9) rfl .n)))) (first:=[]) (cap:=[Vp bB,Vp bA]) ?_)
 rintro ⟨p98,c99⟩ -
 refine zt 16 (V6 rfl rfl (.c rfl (.c rfl .n)) zP (Vy qB qB qB qB) (.c (j:=7) rfl (.c (j:=8) rfl (.c (j:=9) rfl (.c (j:=10) rfl .n)))) (first:=[]) (cap:=[Vp bB,Vp bA]) ?_)
 rintro ⟨a4,a5⟩ -
 first|refine vi (jC 1 rfl) ?_|refine o_mapR (jC 1 rfl) ?_
 first|refine vi (jC 1 rfl) ?_|refine o_mapR (jC 1 rfl) ?_
 refine zt 17 (zp rfl (q7 rfl rfl) zP (Jm (by exact yM _) (by have:=yE (a:=ye va) (b:=ye vb) (3*r0+k1);omega) (by exact yM _) (by have:=yE (a:=ye va) (b:=ye vb) (3*r1+k0);omega) (by have:=yE (a:=ye va) (b:=ye vb) (3*r0+k1);have:=yE (a:=ye va) (b:=ye vb) (3*r1+k0);omega) (by rw [yg];exact fun j=>yN (Ro.Qh ha8 hb8 _ j) dd) (by rw [yg];exact fun j=>yN (Ro.Qh ha8 hb8 _ j) dd) (by rw [yg,yg];exact Dt.zdc (Ro.Qh ha8 hb8 _) (Ro.Qh ha8 hb8 _) (yE _) dd)) (vj 1 0 rfl rfl) ?_)
 rintro ⟨a6,a7⟩ -
 have a0:(yl (yc ((ym (ye va) (ye vb) (3*r0+k1)).map some)) (yc ((ym (ye va) (ye vb) (3*r1+k0)).map some)):List Rat)=yl (ym (ye va) (ye vb) (3*r0+k1)) (ym (ye va) (ye vb) (3*r1+k0)):=by rw [yg,yg]
 rw [a0]
 first|refine vi (jC 5 rfl) ?_|refine o_mapR (jC 5 rfl) ?_
 first|refine vi (jC 1 rfl) ?_|refine o_mapR (jC 1 rfl) ?_
 refine zt 18 (zp rfl (q7 rfl rfl) zP (zdn (by exact yM _) (by have:=Ro.zgK (a:=ye va) (b:=ye vb) (3*r0+k0) (3*r1+k1);omega) (by exact yM _) (by have:=Ro.zgK (a:=ye va) (b:=ye vb) (3*r0+k1) (3*r1+k0);omega) (by intro j;rw [Po.Kx,Po.Kx];have h8:=Ro.zb8 ha8 hb8 (3*r0+k0) (3*r1+k1) j;have h9:=Ro.zb8 ha8 hb8 (3*r0+k1) (3*r1+k0) j;omega)) (vj 1 0 rfl rfl) ?_)
 rintro ⟨a1,a2⟩ -
 have a3:(yG (yc ((yl (ym (ye va) (ye vb) (3*r0+k0)) (ym (ye va) (ye vb) (3*r1+k1))).map some)) (yc ((yl (ym (ye va) (ye vb) (3*r0+k1)) (ym (ye va) (ye vb) (3*r1+k0))).map some)):List Rat)=yw (ye va) (ye vb) (3*r0+k0) (3*r1+k1) (3*r0+k1) (3*r1+k0):=by rw [yg,yg];rfl
 rw [a3]
 refine zC 19 rfl (zT rfl)<|zU kr<|zi<|vv ?_
 exact zq rfl (a1,a2) trivial (zj rfl) rfl oN (s0 rfl)
theorem zo8 {pA:Option Addr} {cA:Nat} {va:List Rat} {pB:Option Addr} {cB:Nat} {vb:List Rat} (hva:va.length=9) (hvb:vb.length=9) (ha8:Ro.h8 (ye va)) (hb8:Ro.h8 (ye vb)):CB 113 [.slice pA 3 cA,.slice pB 3 cB] [zI (rS rQ) pA cA (ys va),zI (rS rQ) pB cB (ys vb)] (Y:=(Option Addr)×Nat) (fun y=> .slice (y.1) ((Ro.chP (ye va) (ye vb)).length) (y.2)) (fun y=>[zI rQ (y.1) (y.2) (Ro.chP (ye va) (ye vb))]):=by
 refine zg Tryz.func113 rfl rfl (fun c=> ?_)
 refine zN 0 rfl (fun hL0=> ?_)
 refine zN 1 rfl (fun hL1=> ?_)
 refine vg<|zB (zX rfl rfl) (fun b1=> ?_)
 refine zB (zX rfl rfl) (fun b2=> ?_)
 refine jn 1 rfl<|vU 1 rfl (.s .z)<|vU 0 rfl .z<|zv<|zE (v6 .n (.c rfl (.c rfl .n)))<|zB (zo ztW rfl) (fun b3=> ?_)
 refine zh 0 rfl rfl rfl rfl ztV (.take .nil) .z<|ZI<|vU 0 rfl .z<|zv<|zE (v6 .n (.c rfl .n))<|kS 1 rfl<|Vj<|zw (zf (j:=0) 0 zco rfl rfl rfl rfl)<|ZP rfl (.c rfl (.c rfl .n)) zP (Vy (i0:=0) (j0:=0) (bB:=b2) (pB:=pB) (cB:=cB) (vb:=vb) (bA:=b1) (pA:=pA) (cA:=cA) (va:=va) qB qB zL zL) (.c (j:=1) rfl (.c (j:=4) rfl (.c (j:=2) rfl (.c (j:=3) rfl .n)))) (first:=[]) (cap:=[Vp b2,Vp b1]) ?_
 rintro ⟨p94,c95⟩ -
 refine qJ rfl<|ZP rfl (.c rfl (.c rfl (.c rfl (.c rfl .n)))) zP (zbo (r0:=1) (r1:=2) (k0:=1) (k1:=2) (bF:=b3) (bB:=b2) (pB:=pB) (cB:=cB) (vb:=vb) (bA:=b1) (pA:=pA) (cA:=cA) (va:=va) qB qB zL zL zL zL qB qB) (.c (j:=1) rfl (.c (j:=2) rfl (.c (j:=5) rfl (.c (j:=3) rfl (.c (j:=4) rfl .n))))) (first:=[]) (cap:=[Vp b3]) ?_
 rintro ⟨p96,c97⟩ -
 refine vd (jC 1 rfl)<|vd (jC 1 rfl)<|zm (q7 rfl rfl) zP (Jm (by exact yM _) (by have:=yE (a:=ye va) (b:=ye vb) 0;show (ym (ye va) (ye vb) 0).length≤1000;omega) (by exact yM _) (by have:=Ro.Jl (a:=ye va) (b:=ye vb) 4 8 5 7;show (yw (ye va) (ye vb) 4 8 5 7).length≤1000;omega) (by have:=yE (a:=ye va) (b:=ye vb) 0;have:=Ro.Jl (a:=ye va) (b:=ye vb) 4 8 5 7;show (ym (ye va) (ye vb) 0).length+(yw (ye va) (ye vb) 4 8 5 7).length≤1000;omega) (by rw [yg];exact fun j=>yN (Ro.Qh ha8 hb8 _ j) dd) (by rw [yg];exact fun j=>yN (Ro.Kn ha8 hb8 _ _ _ _ j) dd) (by rw [yg,yg];exact Dt.zdc (Ro.Qh ha8 hb8 _) (Ro.Kn ha8 hb8 _ _ _ _) (yE _) dd)) (vj 1 0 rfl rfl) ?_
 rintro ⟨p98,c99⟩ -
 have a0:(yl (yc ((ym (ye va) (ye vb) (3*0+0)).map some)) (yc ((yw (ye va) (ye vb) (3*1+1) (3*2+2) (3*1+2) (3*2+1)).map some)):List Rat)=yl (ym (ye va) (ye vb) 0) (yw (ye va) (ye vb) 4 8 5 7):=by rw [yg,yg]
 rw [a0]
 refine kS 1 rfl<|k40 1 rfl<|zw (zf (j:=0) 5 zco rfl rfl rfl rfl)<|ZP rfl (.c rfl (.c rfl .n)) zP (Vy (i0:=0) (j0:=1) (bB:=b2) (pB:=pB) (cB:=cB) (vb:=vb) (bA:=b1) (pA:=pA) (cA:=cA) (va:=va) qB qB zL zL) (.c (j:=6) rfl (.c (j:=9) rfl (.c (j:=7) rfl (.c (j:=8) rfl .n)))) (first:=[]) (cap:=[Vp b2,Vp b1]) ?_
 rintro ⟨a7,a8⟩ -
 refine qJ rfl<|ZP rfl (.c rfl (.c rfl (.c rfl (.c rfl .n)))) zP (zbo (r0:=1) (r1:=2) (k0:=0) (k1:=2) (bF:=b3) (bB:=b2) (pB:=pB) (cB:=cB) (vb:=vb) (bA:=b1) (pA:=pA) (cA:=cA) (va:=va) qB qB zL zL zL zL qB qB) (.c (j:=6) rfl (.c (j:=7) rfl (.c (j:=10) rfl (.c (j:=8) rfl (.c (j:=9) rfl .n))))) (first:=[]) (cap:=[Vp b3]) ?_
 rintro ⟨a9,b4⟩ -
 refine vd (jC 1 rfl)<|vd (jC 1 rfl)<|zm (q7 rfl rfl) zP (Jm (by exact yM _) (by have:=yE (a:=ye va) (b:=ye vb) 1;show (ym (ye va) (ye vb) 1).length≤1000;omega) (by exact yM _) (by have:=Ro.Jl (a:=ye va) (b:=ye vb) 3 8 5 6;show (yw (ye va) (ye vb) 3 8 5 6).length≤1000;omega) (by have:=yE (a:=ye va) (b:=ye vb) 1;have:=Ro.Jl (a:=ye va) (b:=ye vb) 3 8 5 6;show (ym (ye va) (ye vb) 1).length+(yw (ye va) (ye vb) 3 8 5 6).length≤1000;omega) (by rw [yg];exact fun j=>yN (Ro.Qh ha8 hb8 _ j) dd) (by rw [yg];exact fun j=>yN (Ro.Kn ha8 hb8 _ _ _ _ j) dd) (by rw [yg,yg];exact Dt.zdc (Ro.Qh ha8 hb8 _) (Ro.Kn ha8 hb8 _ _ _ _) (yE _) dd)) (vj 1 0 rfl rfl) ?_
 rintro ⟨b5,b6⟩ -
 have a1:(yl (yc ((ym (ye va) (ye vb) (3*0+1)).map some)) (yc ((yw (ye va) (ye vb) (3*1+0) (3*2+2) (3*1+2) (3*2+0)).map some)):List Rat)=yl (ym (ye va) (ye vb) 1) (yw (ye va) (ye vb) 3 8 5 6):=by rw [yg,yg]
 rw [a1]
 refine vd (jC 5 rfl)<|vd (jC 1 rfl)<|zm (q7 rfl rfl) zP (zdn (by exact yM _) (by have:=Ro.zdd (a:=ye va) (b:=ye vb) 0 4 8 5 7;omega) (by exact yM _) (by have:=Ro.zdd (a:=ye va) (b:=ye vb) 1 3 8 5 6;omega) (by intro j;rw [Po.Kx,Po.Kx];have h8:=Ro.zgL ha8 hb8 0 4 8 5 7 j;have h9:=Ro.zgL ha8 hb8 1 3 8 5 6 j;omega)) (vj 1 0 rfl rfl) ?_
 rintro ⟨b7,b8⟩ -
 have a2:(yG (yc ((yl (ym (ye va) (ye vb) 0) (yw (ye va) (ye vb) 4 8 5 7)).map some)) (yc ((yl (ym (ye va) (ye vb) 1) (yw (ye va) (ye vb) 3 8 5 6)).map some)):List Rat)=yG (yl (ym (ye va) (ye vb) 0) (yw (ye va) (ye vb) 4 8 5 7)) (yl (ym (ye va) (ye vb) 1) (yw (ye va) (ye vb) 3 8 5 6)):=by rw [yg,yg]
 rw [a2]
 refine kS 1 rfl<|k40 1 rfl<|zw (zf (j:=0) 13 zco rfl rfl rfl rfl)<|ZP rfl (.c rfl (.c rfl .n)) zP (Vy (i0:=0) (j0:=2) (bB:=b2) (pB:=pB) (cB:=cB) (vb:=vb) (bA:=b1) (pA:=pA) (cA:=cA) (va:=va) qB qB zL zL) (.c (j:=14) rfl (.c (j:=17) rfl (.c (j:=15) rfl (.c (j:=16) rfl .n)))) (first:=[]) (cap:=[Vp b2,Vp b1]) ?_
 rintro ⟨b9,c1⟩ -
 refine qJ rfl<|ZP rfl (.c rfl (.c rfl (.c rfl (.c rfl .n)))) zP (zbo (r0:=1) (r1:=2) (k0:=0) (k1:=1) (bF:=b3) (bB:=b2) (pB:=pB) (cB:=cB) (vb:=vb) (bA:=b1) (pA:=pA) (cA:=cA) (va:=va) qB qB zL zL zL zL qB qB) (.c (j:=14) rfl (.c (j:=15) rfl (.c (j:=18) rfl (.c (j:=16) rfl (.c (j:=17) rfl .n))))) (first:=[]) (cap:=[Vp b3]) ?_
 rintro ⟨c2,c3⟩ -
 refine vd (jC 1 rfl)<|vd (jC 1 rfl)<|zm (q7 rfl rfl) zP (Jm (by exact yM _) (by have:=yE (a:=ye va) (b:=ye vb) 2;show (ym (ye va) (ye vb) 2).length≤1000;omega) (by exact yM _) (by have:=Ro.Jl (a:=ye va) (b:=ye vb) 3 7 4 6;show (yw (ye va) (ye vb) 3 7 4 6).length≤1000;omega) (by have:=yE (a:=ye va) (b:=ye vb) 2;have:=Ro.Jl (a:=ye va) (b:=ye vb) 3 7 4 6;show (ym (ye va) (ye vb) 2).length+(yw (ye va) (ye vb) 3 7 4 6).length≤1000;omega) (by rw [yg];exact fun j=>yN (Ro.Qh ha8 hb8 _ j) dd) (by rw [yg];exact fun j=>yN (Ro.Kn ha8 hb8 _ _ _ _ j) dd) (by rw [yg,yg];exact Dt.zdc (Ro.Qh ha8 hb8 _) (Ro.Kn ha8 hb8 _ _ _ _) (yE _) dd)) (vj 1 0 rfl rfl) ?_
 rintro ⟨c4,c5⟩ -
 have a3:(yl (yc ((ym (ye va) (ye vb) (3*0+2)).map some)) (yc ((yw (ye va) (ye vb) (3*1+0) (3*2+1) (3*1+1) (3*2+0)).map some)):List Rat)=yl (ym (ye va) (ye vb) 2) (yw (ye va) (ye vb) 3 7 4 6):=by rw [yg,yg]
 rw [a3]
 refine vd (jC 5 rfl)<|vd (jC 1 rfl)<|zm (q7 rfl rfl) zP (zhf (by exact yM _) (by have:=Ro.zdd (a:=ye va) (b:=ye vb) 0 4 8 5 7;have:=Ro.zdd (a:=ye va) (b:=ye vb) 1 3 8 5 6;have:=Po.zj2 (yl (ym (ye va) (ye vb) 0) (yw (ye va) (ye vb) 4 8 5 7)) (yl (ym (ye va) (ye vb) 1) (yw (ye va) (ye vb) 3 8 5 6));omega) (by exact yM _) (by have:=Ro.zdd (a:=ye va) (b:=ye vb) 2 3 7 4 6;omega) (by intro j;rw [Po.Kx,Po.Kx];have h8:=Po.zne (Ro.zgL ha8 hb8 0 4 8 5 7) (Ro.zgL ha8 hb8 1 3 8 5 6) j;have h9:=Ro.zgL ha8 hb8 2 3 7 4 6 j;omega)) (vj 1 0 rfl rfl) ?_
 rintro ⟨a4,a5⟩ -
 have a6:(Po.add (yc ((yG (yl (ym (ye va) (ye vb) 0) (yw (ye va) (ye vb) 4 8 5 7)) (yl (ym (ye va) (ye vb) 1) (yw (ye va) (ye vb) 3 8 5 6))).map some)) (yc ((yl (ym (ye va) (ye vb) 2) (yw (ye va) (ye vb) 3 7 4 6)).map some)):List Rat)=Ro.chP (ye va) (ye vb):=by rw [yg,yg];rfl
 rw [a6]
 refine Zp 1 rfl ?_
 exact zq rfl (a4,a5) trivial (zj rfl) rfl oN (s0 rfl)
theorem zdo {p1:Option Addr} {n1:Nat} {c1:Nat} {l1:List (Option Rat)} {u1:Wd} {v1:Wd} {x1:Option Rat} (hn1:l1.length=n1) (hm1:n1≤1000) (hm9:n1≤900) (hb1:∀i,yh ((yc l1).getD i 0)≤200000000000) (hb2:∀i,yh ((yc [x1]).getD i 0)≤200000000000) (hs:∀k lo n,lo+n≤k+1→yh (Po.cv (yi (yc l1)) (yi (yc [x1])) k lo n)≤200000000000):CB 177 [.slice p1 n1 c1,.agg #[u1.b,u1.l,v1.b,v1.l]] [zI rE p1 c1 l1,eF u1 v1 x1] (Y:=(Option Addr)×Nat) (fun y=> .slice (y.1) ((yl (yc l1) (yc [x1])).length) (y.2)) (fun y=>[zI rQ (y.1) (y.2) (yl (yc l1) (yc [x1]))]):=by
 refine zg Tryz.func177 rfl rfl (fun c=> ?_)
 refine zN 0 rfl (fun hL0=> ?_)
 refine vg<|zB (zX rfl rfl) (fun b1=> ?_)
 refine jD 1 rfl<|qJ rfl<|zw (za 0 qp rfl rfl (.t4 .nil))<|qZ (qA (r:=rE) (k:=1) yf jf rfl dd dd dd (.c (x:=x1) (cs:=[u1.b,u1.l,v1.b,v1.l]) (u1,v1) rfl rfl rfl (fun g hr=>Holds.get 1 rfl hr) .n)) (fun b2 _=> ?_)
 refine qt 0 rfl .z<|zm (q7 rfl rfl) zP (Jm qB qB zL zL zL qB qB qB) (vj 1 0 rfl rfl) ?_
 rintro ⟨a0,a1⟩ -
 refine Zp 1 rfl ?_
 exact zq rfl (a0,a1) trivial (zj rfl) rfl oN (s0 rfl)
theorem zlG {p1:Option Addr} {n1:Nat} {c1:Nat} {l1:List (Option Rat)} {u1:Wd} {v1:Wd} {x1:Option Rat} (hn1:l1.length=n1) (hm1:n1≤1000) (hx:yh (x1.getD 0)≤200000000000) (hb1:∀i,yh ((l1.getD i none).getD 0)≤200000000000) (hs:∀i,yh (yF (x1.getD 0) ((yc l1).drop i))≤200000000000):CB 26 [.slice p1 n1 c1,.agg #[u1.b,u1.l,v1.b,v1.l]] [zI rE p1 c1 l1,eF u1 v1 x1] (Y:=Wd×Wd) (fun y=> .agg #[y.1.b,y.1.l,y.2.b,y.2.l]) (fun y=>[qF true y.1 y.2 (yF (x1.getD 0) (yc l1))]):=by
 refine zg Tryz.func26 rfl rfl (fun c=> ?_)
 refine zN 0 rfl (fun hL0=> ?_)
 refine vg<|zB (zX rfl rfl) (fun b1=> ?_)
 refine zB (zo vh rfl) (fun b2=> ?_)
 refine ZI<|zey (qF x1.isSome u1 v1 (x1.getD 0)) (zpH 1 rfl)<|zv<|zm (.n) zP (JZ) (.n) ?_
 rintro ⟨a0,a1⟩ -
 refine zB (zo vh rfl) (fun b5=> ?_)
 refine zh 0 rfl rfl rfl rfl qk (.t4 .nil) .z<|ZI<|jK 2 rfl<|zE (qx rfl rfl w6)<|vZ 1 rfl<|zk<|z5 (X:=Nat×Wd×Wd) (fun x=>x.1≤n1) (fun x=>[(6,.int .i64 (((x.1:Nat):Int) - 1))]) [5,4,3,0] (fun x=>[zK b5 32 (cw [x.2.1,x.2.2]),zK b2 32 (cw [wz,wz]),zK b1 32 (cw [u1,v1])]) (fun x=>[qF true x.2.1 x.2.2 (yF (x1.getD 0) ((yc l1).drop x.1))]) [1,2,3] (fun x=>x.1) (n1,a0,a1) (by exact yac _) (.of rfl) ((.of [0,0,0] rfl):zJ _ _ _) ((.e (j:=0) rfl (by rw [Po.zsJ hn1]) .n)) ?_
 rintro ⟨i,su,sv⟩ hI
 dsimp only at hI
 refine qe<|k12 2 rfl<|zx rfl (fun a2=> ?_) (fun a2=> ?_)
 refine vY<|zk<|Vk 8<|qy 0 rfl (za 0 qp rfl rfl (.t4 .nil))<|qy 1 rfl (za 2 qp rfl rfl (.t4 .nil))<|zQ 3 rfl rfl<|zQ 4 rfl rfl ?_
 have e6:((((i:Nat):Int) - 1):Int)=(((i - 1):Nat):Int):=Oo
 rw [e6]
 refine jc 5 rfl (zM (x0:=(l1.getD (i - 1) (none:Option Rat))) 2 (i - 1) rfl yf qk rfl zL rfl rfl (gD (d:=(none:Option Rat)) om)) ?_
 rintro ⟨b7,o8,w9,w10⟩ -
 refine vi zbW<|vE 6 rfl (zA (j:=0) 0 qp rfl rfl rfl (.t4 .nil))<|zt 2 (zp rfl q7 zP (Jj (k1:=true) (u1:=su) (v1:=sv) (q1:=(yF (x1.getD 0) ((yc l1).drop i))) (k2:=x1.isSome) (u2:=u1) (v2:=v1) (q2:=(x1.getD 0)) (by have h1:=hs i;omega)) (vj 3 4) ?_)
 rintro ⟨a9,b4⟩ -
 refine zt 7 (zp rfl (q7 rfl rfl) zP (Ji (by have h1:=hs i;have h2:=Big.jB (yF (x1.getD 0) ((yc l1).drop i)) (x1.getD 0);have h3:=hb1 (i - 1);omega)) (vj 0 2 rfl rfl) ?_)
 rintro ⟨a3,a4⟩ -
 refine zt 8 (zH rfl rfl rfl rfl qk (.t4 .nil) ?_)
 refine zU kr<|zG<|zi<|vM 1 rfl<|zE (qx rfl rfl w6)<|qY 1 rfl<|zW ((i - 1),a3,a4) Oo om ((.e rfl zL (.of rfl))) ((.of [0,0,0] rfl):zJ _ _ _) ((.e (j:=0) rfl (by rw [← Po.QE,Po.zpY om (by rw [Po.vT];omega)]) (.of [6,7,8] rfl)))
 refine z7<|ze<|ze<|zn<|zi<|vg<|zw (za 0 qp rfl rfl (.t4 .nil))<|zm (qS rfl) zP jv (qX 0 rfl) ?_
 rintro ⟨a5,a6⟩ -
 refine zh 1 rfl rfl rfl rfl qk (.t4 .nil) (.s .z)<|Va ?_
 have a7:i=0:=Oo
 have a8:(yF (x1.getD 0) ((yc l1).drop i))=yF (x1.getD 0) (yc l1):=by rw [a7];rfl
 exact zq rfl (a5,a6) trivial (zy 1 qp rfl rfl (.t4 .nil)) rfl oN ((.e (j:=0) rfl (by rw [← a8]) .n))
theorem zbG {p1:Option Addr} {n1:Nat} {c1:Nat} {l1:List (Option Rat)} (hn1:l1.length=n1) (hm1:n1≤1000) (hb1:∀i,yh ((l1.getD i none).getD 0)≤200000000000):CB 175 [.slice p1 n1 c1] [zI rE p1 c1 l1] (Y:=(Option Addr)×Nat) (fun y=> .slice (y.1) ((yJ (yc l1)).length) (y.2)) (fun y=>[zI rQ (y.1) (y.2) (yJ (yc l1))]):=by
 refine zg Tryz.func175 rfl rfl (fun c=> ?_)
 refine zN 0 rfl (fun hL0=> ?_)
 refine jS 1 rfl<|jn 1 rfl<|qe<|Zj 32 rQ<|k22 1 rfl<|zk<|z5 (X:=Nat×(Option Addr)×Nat×(List Rat)) (fun x=>1≤x.1∧x.1≤max 1 n1∧x.2.2.2=Po.gen (Po.dg l1) (x.1 - 1)) (fun x=>[(3,.slice (x.2.1) (x.2.2.2.length) (x.2.2.1)),(4,Vi x.1)]) [2,0] (fun x=>[rowA 32 rQ (x.2.1) (x.2.2.1) (x.2.2.2)]) (fun x=>[]) [0] (fun x=>n1 - x.1) (1,none,0,([]:List Rat)) (by exact ⟨Oo,Oo,rfl⟩) (.e rfl vA (.e rfl vA .n)) ((.e (i:=0) rfl vA .n):zJ _ _ _) sN ?_
 rintro ⟨i,pR,cR,A⟩ hI
 dsimp only at hI
 obtain ⟨a3,hi,hA⟩:=hI
 have hAl:A.length=i - 1:=by rw [hA,Po.ZS]
 refine qe<|k12 4 rfl<|zx rfl (fun h1=> ?_) (fun h1=> ?_)
 refine vY<|zk<|Vk 9<|zQ 0 rfl rfl<|zQ 1 rfl rfl<|zQ 3 rfl rfl<|zQ 4 rfl rfl<|jc 5 rfl (zM (x0:=(l1.getD i (none:Option Rat))) 0 i rfl yf qk rfl zL rfl rfl (gD (d:=(none:Option Rat)) om)) ?_
 rintro ⟨b2,o3,w4,w5⟩ -
 refine vi zbW<|vE 6 rfl (zA (j:=0) 0 qp rfl rfl rfl (.t4 .nil))<|zt 2 (zp rfl (qS rfl) zP (j4 zL) (.n) ?_)
 rintro ⟨a4,a5⟩ -
 refine zt 7 (zp rfl q7 zP (Jj (k1:=true) (u1:=a4) (v1:=a5) (q1:=((((i:Nat):Int):Int):Rat)) (k2:=(l1.getD i (none:Option Rat)).isSome) (u2:=w4) (v2:=w5) (q2:=((l1.getD i (none:Option Rat)).getD 0)) (by have h1:=hb1 i;have h2:=Big.zmx (z:=((i:Nat):Int)) om om;omega)) (vj 0 2) ?_)
 rintro ⟨a0,a1⟩ -
 dsimp only [aq,nq,cq]
 refine zt 8 (V5 rfl (qA (r:=rQ) (k:=1) yd jf rfl dd dd dd (.c (x:=(((((i:Nat):Int):Int):Rat)*((l1.getD i (none:Option Rat)).getD 0))) (cs:=[a0.b,a0.l,a1.b,a1.l]) (a0,a1) rfl rfl rfl (fun g hr=>Holds.get 0 rfl hr) .n)) (fun b10 _=> ?_))
 refine Qw 0 rfl .z<|zt 9 (zcm (A':=fun v:Option Addr×Nat=>rowA 32 rQ v.1 v.2 (A++([(((((i:Nat):Int):Int):Rat)*((l1.getD i (none:Option Rat)).getD 0))]))) kr rfl rfl rfl (qT 0 rfl yd jf dd rfl rfl (by first|rfl|assumption|(simp;done)|omega) rfl (by first|rfl|assumption|(simp;done)|omega) om om) ?_)
 rintro ⟨a6,a7⟩ -
 refine zC 10 rfl (zT rfl)<|zU kr<|zG<|zi<|vM 1 rfl<|zE (qj rfl rfl)<|qY 1 rfl<|zW ((i+1),a6,a7,(A++([(((((i:Nat):Int):Int):Rat)*((l1.getD i (none:Option Rat)).getD 0))]))) (by exact ⟨Oo,Oo,by rw [hA];exact Po.zpZ a3⟩) om ((.e rfl (by simp) (.of rfl))) (o0 rfl) ((.c (j:=6) rfl .n))
 refine z7<|ze<|ze<|zn<|zi<|qe<|Z7 0 rfl .z<|zv<|qJ rfl<|vd (jC 0 rfl)<|zm qS zP (j5 (p1:=pR) (n1:=A.length) (c1:=cR) (l1:=(A.map some)) (by exact yM _) zL) (qX 0) ?_
 rintro ⟨a8,a9⟩ -
 refine Zp 1 rfl ?_
 have a2:yi (yc (A.map some))=(yJ (yc l1)):=by rw [hA];exact Po.zsK hn1 om
 exact zq rfl (a8,a9) trivial (zj rfl) (by rw [a2]) oN ((.e (j:=0) rfl (by rw [a2]) .n))
theorem Wa {p1:Option Addr} {n1:Nat} {c1:Nat} {l1:List (Option Rat)} {p2:Option Addr} {n2:Nat} {c2:Nat} {l2:List (Option Rat)} (hn1:l1.length=n1) (hm1:n1≤1000) (hn2:l2.length=n2) (hm2:n2≤1000) (hm12:n1+n2≤400) (hb2:∀i,yh ((yc l2).getD i 0)≤60000000000) (hok:Po.dok (yi (yc l2)) ((yi (yc l1)).length+1) [] (yi (yc l1))):CB 176 [.slice p1 n1 c1,.slice p2 n2 c2] [zI rE p1 c1 l1,zI rE p2 c2 l2] (Y:=(Option Addr)×Nat×(Option Addr)×Nat) (fun y=> .tuple #[.slice (y.1) ((Po.dq (yc l1) (yc l2)).length) (y.2.1),.slice (y.2.2.1) ((yK (yc l1) (yc l2)).length) (y.2.2.2),.int .i64 (Po.dc (yc l2))]) (fun y=>[zI rQ (y.1) (y.2.1) (Po.dq (yc l1) (yc l2)),zI rQ (y.2.2.1) (y.2.2.2) (yK (yc l1) (yc l2))]):=by
 refine zg Tryz.func176 rfl rfl (fun c=> ?_)
 refine zN 0 rfl (fun hL0=> ?_)
 refine zN 1 rfl (fun hL1=> ?_)
 refine jS 3 rfl<|qJ rfl<|zm (qS rfl) zP (j5 qB qB) (qX 0 rfl) ?_
 rintro ⟨b7,b8⟩ -
 refine qJ rfl<|zm (qS rfl) zP (j5 qB qB) (qX 2 rfl) ?_
 rintro ⟨a3,a4⟩ -
 refine jn 2 rfl<|qe ?_
 obtain ⟨P,hP⟩:∃z,z=(yi (yc l1)):=⟨_,rfl⟩
 have e5:(yi (yc l1):List Rat)=P:=by exact hP.symm
 rw [e5]
 obtain ⟨Q,hQ⟩:∃z,z=(yi (yc l2)):=⟨_,rfl⟩
 have e6:(yi (yc l2):List Rat)=Q:=by exact hQ.symm
 rw [e6]
 have hPl:P.length≤n1:=by rw [hP,←hn1,←Po.vT l1];exact Po.vI _
 have hQl:Q.length≤n2:=by rw [hQ,←hn2,←Po.vT l2];exact Po.vI _
 have hQc:yi Q=Q:=by rw [hQ];exact Po.vW _
 have hPc:yi P=P:=by rw [hP];exact Po.vW _
 have hbQ:Po.bd 60000000000 Q:=fun i=>by rw [hQ,Po.Zf];exact hb2 i
 refine k22 3 rfl<|zx rfl (fun c3=> ?_) (fun c3=> ?_)
 refine Zn 3 rfl<|zD<|QR rQ ?_
 have h0:(yi (yc l2)).length=0:=by rw [← hQ];omega
 have a9:(Po.dq (yc l1) (yc l2))=[]:=if_pos h0
 have b1:(yK (yc l1) (yc l2))=[]:=if_pos h0
 have b4:(Po.dc (yc l2))=14:=if_pos h0
 exact J1 rfl (none,0,none,0) trivial (zj rfl) (zj rfl) (zj rfl) (by rw [b4,a9,b1];rfl) oN ((.e (j:=0) rfl (by rw [a9]) (.e (j:=0) rfl (by rw [b1]) .n)))
 have b5:0<Q.length:=Oo
 have hQn:Q≠[]:=fun e=>by rw [e] at b5;exact absurd b5 dd
 refine vY<|zl2 rQ<|k23 1 rfl<|zk<|z5 (X:=Nat×(List Rat)×(List Rat)×(Option Addr)×Nat×(Option Addr)×Nat) (fun x=>(x.2.2.1.length<x.1∧x.2.2.1.length≤400∧x.2.1.length≤400)∧Po.dok Q x.1 x.2.1 x.2.2.1∧Po.dv Q P.length [] P=Po.dv Q (x.1 - 1) x.2.1 x.2.2.1) (fun x=>[(7,.slice (x.2.2.2.2.2.1) (x.2.2.1.length) (x.2.2.2.2.2.2)),(8,.slice (x.2.2.2.1) (x.2.1.length) (x.2.2.2.2.1))]) [1] (fun x=>[]) (fun x=>[zI rQ (x.2.2.2.1) (x.2.2.2.2.1) (x.2.1),zI rQ (x.2.2.2.2.2.1) (x.2.2.2.2.2.2) (x.2.2.1)]) [0,1] (fun x=>x.1) ((P.length+1),([]:List Rat),P,none,0,b7,b8) (by exact ⟨by simp;omega,by rw [hP,hQ];exact hok,rfl⟩) (.e rfl vA (.e rfl vA .n)) oN ((.e (j:=0) rfl rfl (.e (j:=2) rfl rfl .n))) ?_
 rintro ⟨f,a,r,pa,ca,pr,cr⟩ hI
 dsimp only at hI
 try dsimp only
 obtain ⟨⟨hf,hrl,hal⟩,hdk,hdv⟩:=hI
 refine qe<|k12 5 rfl<|zx rfl (fun c4=> ?_) (fun c4=> ?_)
 refine qN<|zi<|zk<|jK 4 rfl<|zE (qx rfl rfl w6) ?_
 have e7:((((r.length:Nat):Int) - (((Q).length:Nat):Int)):Int)=(((r.length - Q.length):Nat):Int):=Oo
 rw [e7]
 refine jn 1 rfl<|Jo 17<|zQ 0 rfl rfl<|zQ 1 rfl rfl<|zC 2 rfl (vL yf rfl)<|zC 3 rfl (qx rfl rfl w6) ?_
 have e8:((((r.length:Nat):Int) - 1):Int)=(((r.length - 1):Nat):Int):=Oo
 rw [e8]
 refine jc 4 rfl (zM (x0:=(gQ r (r.length - 1))) 1 (r.length - 1) rfl yf qk rfl zL rfl rfl (gD (d:=(0:Rat)) om)) ?_
 rintro ⟨b9,o10,a5,a6⟩ -
 refine vi qR<|vE 5 rfl (zA (j:=0) 0 qp rfl rfl rfl (.t4 .nil))<|zQ 6 rfl rfl<|zQ 7 rfl rfl<|zC 8 rfl (vL yf rfl)<|zC 9 rfl (qx rfl rfl w6) ?_
 have c5:(((((Q).length:Nat):Int) - 1):Int)=(((Q.length - 1):Nat):Int):=Oo
 rw [c5]
 refine jc 10 rfl (zM (x0:=((Q).getD (Q.length - 1) (0:Rat))) 5 (Q.length - 1) rfl yf qk rfl zL rfl rfl (gD (d:=(0:Rat)) om)) ?_
 rintro ⟨b14,o15,a7,a8⟩ -
 refine vi qR<|vE 11 rfl (zA (j:=0) 0 qp rfl rfl rfl (.t4 .nil))<|jP (m':=[(43,.agg (cw [a7,a8]).toArray),(37,.agg (cw [a5,a6]).toArray),(9,Vi (r.length - Q.length)),(7,.slice pr (r.length) cr),(8,.slice pa (a.length) ca),(1,.slice a3 ((Q).length) a4)]) (R':=[qF true a7 a8 ((Q).getD (Q.length - 1) (0:Rat)),qF true a5 a6 (gQ r (r.length - 1)),zI rQ pa ca a,zI rQ pr cr r,zI rQ none 0 ([]),zI rQ a3 a4 Q]) (mR rfl) (List.Perm.refl _) (List.Perm.refl _) ((.of [1,3,4,5,6,7] rfl))<|q6 (X:=Wd×Wd×Nat) (k':=0) (L':=(lb 19 524287)) (fun (a0,a1,a2)=>([(10,Vp a2),(9,Vi (r.length - Q.length)),(7,.slice pr (r.length) cr),(8,.slice pa (a.length) ca),(1,.slice a3 ((Q).length) a4)],[zK a2 32 (cw [a0,a1])],[],[qF true a0 a1 ((gQ r (r.length - 1)) / ((Q).getD (Q.length - 1) (0:Rat))),zI rQ pa ca a,zI rQ pr cr r,zI rQ none 0 ([]),zI rQ a3 a4 Q])) ?_ (fun c6=> ?_)
 rintro ⟨a0,a1,a2⟩
 refine zU kr<|zi<|jK 1 rfl<|zE (qj rfl rfl) ?_
 have c7:(((((r.length - Q.length)+1):Nat):Int):Int)=(((r.length - Q.length+1):Nat):Int):=Oo
 rw [c7]
 refine qZ (vS (r:=rE) (k:=(r.length - Q.length+1)) (x0:=none) (γ0:=(wz,wz)) yf jf rfl rfl rfl rfl om om rfl (fun g _=>JT g) dd) (fun c8 _=> ?_)
 refine jn 1 rfl<|k12 3 rfl<|zk<|z5 (X:=Nat×(List (Option Rat))) (fun x=>x.1≤r.length - Q.length+1∧x.2.length=r.length - Q.length+1∧∀j,j<x.1→x.2.getD j none=some ((0:Int):Rat)) (fun x=>[(52,Vi x.1)]) [51,12,10,9,7,8,1] (fun x=>[rowA 32 rE (Sb c8) (r.length - Q.length+1) (x.2),zK a2 32 (cw [a0,a1])]) (fun x=>[]) [0,1,2,3,4] (fun x=>r.length - Q.length+1 - x.1) (0,yS (r.length - Q.length+1) none) (by exact ⟨yO _,yQ,fun j hj=>by omega⟩) (.e rfl vA .n) ((.e (i:=0) rfl vA (.c (i:=0) rfl .n)):zJ _ _ _) sN ?_
 rintro ⟨i,A⟩ hJ
 dsimp only at hJ
 refine jg 1 rfl<|zx rfl (fun c9=> ?_) (fun c9=> ?_)
 refine vY<|zk<|k12 2 rfl<|vM 2 rfl<|zm (.n) zP (JZ) (.n) ?_
 rintro ⟨d0,d1⟩ -
 dsimp only [aq,nq,cq]
 refine zE (zZ (j:=i) yf qk rfl rfl rfl om)<|vO 0 rfl (qh (r:=rE) (j:=i) (x0:=(some ((0:Int):Rat))) (γ0:=(d0,d1)) rfl rfl (by first|omega|(rw [yM];omega)|(simp only [yX];omega)|(simp;done)|(simp;omega)) rfl rfl qk (fun g hr=>Kz (Holds.get 0 rfl hr))) (fun _=> .z) (fun _ _=> ?_)
 refine jq<|zG<|zi<|zv<|zE (qj rfl rfl)<|qY 1 rfl<|zW ((i+1),(A.set i (some ((0:Int):Rat)))) (by exact ⟨Oo,by rw [yX];exact hJ.2.1,Po.zaD (g:=fun _=>((0:Int):Rat)) hJ.2.2 om rfl⟩) om (mR rfl) ((.of [0,0] rfl):zJ _ _ _) ((.of [1,2,3,4,5] rfl))
 refine z7<|ze<|ze<|zn<|zi<|jK 2 rfl<|zw (za 1 qp rfl rfl (.t4 .nil))<|zE (zZ (j:=(r.length - Q.length)) yf qk rfl rfl rfl om)<|vO 0 rfl (qh (r:=rE) (j:=(r.length - Q.length)) (x0:=(some ((r.getD (r.length - 1) (0:Rat)) / ((Q).getD (Q.length - 1) (0:Rat))))) (γ0:=(a0,a1)) rfl rfl (by first|omega|(rw [yM];omega)|(simp only [yX];omega)|(simp;done)|(simp;omega)) rfl rfl qk (fun g hr=>Kz (Holds.get 0 rfl hr))) (fun _=> .z) (fun _ _=> ?_)
 refine ZI ?_
 have hB:yc (A.set (r.length - Q.length) (some ((gQ r (r.length - 1)) / ((Q).getD (Q.length - 1) (0:Rat)))))=Po.dt Q r:=Po.zlb hJ.2.1 (fun j hj=>hJ.2.2 j om)
 have hBl:(A.set (r.length - Q.length) (some ((gQ r (r.length - 1)) / ((Q).getD (Q.length - 1) (0:Rat))))).length=r.length - Q.length+1:=by rw [yX];exact hJ.2.1
 obtain ⟨hba,hbr⟩:=Po.zic hdk om
 have hml:(yl (Po.dt Q r) Q).length≤1000:=by rw [← Po.znb];unfold Po.mc;exact yN (Po.vI _) (by rw [Po.ZS,Po.zid];omega)
 refine vM 2 rfl<|vd (jC 1 rfl)<|qt 0 rfl .z<|zm (q7 rfl rfl) zP (zhf (by exact yM _) zL (by exact hBl) zL (by intro j;rw [Po.Kx,←Po.QE,hB];have h1:=hba j;have h2:=Po.zjV hbr hbQ j;omega)) (vj 1 0 rfl rfl) ?_
 rintro ⟨d4,d5⟩ -
 have d6:(Po.add (yc (a.map some)) (yc (A.set (r.length - Q.length) (some ((gQ r (r.length - 1)) / ((Q).getD (Q.length - 1) (0:Rat)))))):List Rat)=Po.add a (Po.dt Q r):=by rw [yg,hB]
 rw [d6]
 refine vZ 1 rfl<|vM 3 rfl<|vd (jC 7 rfl)<|zm (q7 rfl rfl) zP (Jm (by exact hBl) zL (by exact yM _) zL zL (by rw [hB];intro j;exact yN (Po.zjV hbr hbQ j) dd) (by rw [yg];intro j;exact yN (hbQ j) dd) (by rw [hB,yg,hQc];exact fun k lo n _=>Po.znk hbr hbQ k lo n)) (vj 2 0 rfl rfl) ?_
 rintro ⟨e9,f0⟩ -
 have d7:(yl (yc (A.set (r.length - Q.length) (some ((gQ r (r.length - 1)) / ((Q).getD (Q.length - 1) (0:Rat)))))) (yc ((Q).map some)):List Rat)=yl (Po.dt Q r) Q:=by rw [yg,hB]
 rw [d7]
 refine vd (jC 7 rfl)<|vd (jC 1 rfl)<|zm (q7 rfl rfl) zP (zdn (by exact yM _) zL (by exact yM _) (by exact hml) (by intro j;rw [Po.Kx,Po.Kx];have h1:=hbr j;have h2:=Po.zk9 hbr hbQ j;omega)) (vj 1 0 rfl rfl) ?_
 rintro ⟨d8,d9⟩ -
 have e0:(yG (yc (r.map some)) (yc ((yl (Po.dt Q r) Q).map some)):List Rat)=yG r (yl (Po.dt Q r) Q):=by rw [yg,yg]
 rw [e0]
 refine qY 1 rfl<|zG<|zW ((f - 1),(Po.add a (Po.dt Q r)),(yG r (yl (Po.dt Q r) Q)),d4,d5,d8,d9) (by dsimp only;have h9:=Po.zbY (r:=r) hQc hQn om;have h8:=Po.zjW a (Po.dt Q r);rw [Po.zid] at h8;exact ⟨⟨Oo,Oo,Oo⟩,Po.zp1 hdk om om,hdv.trans (Po.zsL om om)⟩) om (mR rfl) (ho:=oN) ((.of [5,0,11,12] rfl):q9 _ _ _)
 refine q6 (X:=Wd×Wd×Nat) (k':=2) (L':=(lb 19 131071)) (fun (a0,a1,a2)=>([(10,Vp a2),(46,.int .i64 0),(45,.agg (cw [a0,a1]).toArray),(9,Vi (r.length - Q.length)),(7,.slice pr (r.length) cr),(8,.slice pa (a.length) ca),(1,.slice a3 ((Q).length) a4)],[zK a2 32 (cw [wz,wz])],[],[qF true a0 a1 ((gQ r (r.length - 1)) / ((Q).getD (Q.length - 1) (0:Rat))),zI rQ pa ca a,zI rQ pr cr r,zI rQ none 0 ([]),zI rQ a3 a4 Q])) ?_ (fun b6=> ?_)
 rintro ⟨a0,a1,a2⟩
 refine jt 17 kr<|zH rfl rfl rfl rfl qk (.t4 .nil)<|zC 18 rfl (zT rfl) ?_
 exact qn (c6 (a0,a1,a2)) kr (mR rfl) .rfl .rfl ((.of [0,1,2,3,4] rfl))
 refine q6 (X:=Wd×Wd) (k':=3) (L':=(lb 19 65535)) (fun (a0,a1)=>([(46,.int .i64 0),(45,.agg (cw [a0,a1]).toArray),(9,Vi (r.length - Q.length)),(7,.slice pr (r.length) cr),(8,.slice pa (a.length) ca),(1,.slice a3 ((Q).length) a4)],[],[],[qF true a0 a1 ((gQ r (r.length - 1)) / ((Q).getD (Q.length - 1) (0:Rat))),zI rQ pa ca a,zI rQ pr cr r,zI rQ none 0 ([]),zI rQ a3 a4 Q])) ?_ (fun e3=> ?_)
 rintro ⟨a0,a1⟩
 refine jt 16 kr<|jr rfl (zo vh rfl) (fun a2 _=> ?_)
 exact qn (b6 (a0,a1,a2)) kr (mR rfl) .rfl .rfl ((.of [0,1,2,3,4] rfl))
 refine q6 (X:=Nat) (k':=6) (L':=(lb 19 69631)) (fun a2=>([(10,Vp a2),(43,.agg (cw [a7,a8]).toArray),(37,.agg (cw [a5,a6]).toArray),(9,Vi (r.length - Q.length)),(7,.slice pr (r.length) cr),(8,.slice pa (a.length) ca),(1,.slice a3 ((Q).length) a4)],[zK a2 32 (cw [wz,wz])],[],[qF true a7 a8 ((Q).getD (Q.length - 1) (0:Rat)),qF true a5 a6 (gQ r (r.length - 1)),zI rQ pa ca a,zI rQ pr cr r,zI rQ none 0 ([]),zI rQ a3 a4 Q])) ?_ (fun e4=> ?_)
 rintro a2
 dsimp only [cw]
 refine jt 12 kr<|zp rfl (.c rfl (.c rfl .n)) zP (ZE (k1:=true) (u1:=a5) (v1:=a6) (q1:=(r.getD (r.length - 1) (0:Rat))) (k2:=true) (u2:=a7) (v2:=a8) (q2:=((Q).getD (Q.length - 1) (0:Rat))) (by have h1:=(Po.zic hdk om).2 (r.length - 1);have h2:=hbQ (Q.length - 1);omega) (by exact Po.QH hQc hQn)) (vj 1 0) ?_
 rintro ⟨a0,a1⟩ -
 refine zQ 13 rfl rfl<|zC 14 rfl (qD rfl rfl)<|zC 15 rfl (qD rfl rfl) ?_
 exact qn (b6 (a0,a1,a2)) kr (mR rfl) .rfl .rfl ((.of [0,3,4,5,6] rfl))
 refine Qq 12 16 kr ?_ ?_
 refine zp rfl (.c rfl (.c rfl .n)) zP (ZE (k1:=true) (u1:=a5) (v1:=a6) (q1:=(r.getD (r.length - 1) (0:Rat))) (k2:=true) (u2:=a7) (v2:=a8) (q2:=((Q).getD (Q.length - 1) (0:Rat))) (by have h1:=(Po.zic hdk om).2 (r.length - 1);have h2:=hbQ (Q.length - 1);omega) (by exact Po.QH hQc hQn)) (vj 1 0) ?_
 rintro ⟨a0,a1⟩ -
 refine zQ 13 rfl rfl<|zC 14 rfl (qD rfl rfl)<|zC 15 rfl (qD rfl rfl) ?_
 exact qn (e3 (a0,a1)) kr (mR rfl) .rfl .rfl ((.of [0,3,4,5,6] rfl))
 refine jr rfl (zo vh rfl) (fun a2 _=> ?_)
 exact qn (e4 a2) kr (mR rfl) .rfl .rfl ((.of [0,1,2,3,4,5] rfl))
 refine z7<|ze<|ze<|zn<|zi<|Zn 5 rfl ?_
 have h0:¬(yi (yc l2)).length=0:=by rw [← hQ];omega
 have hdn:Po.dv Q P.length [] P=(a,r):=hdv.trans (Po.zuk om)
 have a9:(Po.dq (yc l1) (yc l2))=a:=(if_neg h0).trans (by unfold Po.zeZ;rw [← hQ,←hP,hdn])
 have b1:(yK (yc l1) (yc l2))=r:=(if_neg h0).trans (by unfold Po.zeZ;rw [← hQ,←hP,hdn])
 have b4:(Po.dc (yc l2))=0:=if_neg h0
 exact J1 rfl (pa,ca,pr,cr) trivial (zj rfl) (zj rfl) (zj rfl) (by rw [b4,a9,b1]) oN ((.e (j:=0) rfl (by rw [a9]) (.e (j:=1) rfl (by rw [b1]) .n)))
end Sp
namespace Sp
open Go
def rR:Rp (Rat×Rat):=⟨8,Wd×Wd×Wd×Wd,fun _ w=>[w.1.b,w.1.l,w.2.1.b,w.2.1.l,w.2.2.1.b,w.2.2.1.l,w.2.2.2.b,w.2.2.2.l],fun g q w=>(qF true w.1 w.2.1 q.1).on g∧(qF true w.2.2.1 w.2.2.2 q.2).on g,fun _ _ _ _ h k=>⟨(qF true _ _ _).mono _ _ h k.1,(qF true _ _ _).mono _ _ h k.2⟩,fun _ _=>rfl,fun _ _=>rfl⟩
theorem zq7 {A:Fa} {q:Rat×Rat} {w1 w2 w3 w4:Wd} {R:List Fa}:∀g,Holds g (A :: okF rR q (w1,w2,w3,w4) :: R)→Holds g (A :: qF true w1 w2 q.1 :: qF true w3 w4 q.2 :: R):=fun g ⟨h,a,r⟩=>⟨h,a.1,a.2,r⟩
section
variable {P : Program} {c : Cx} {O : List As} {R : List Fa} {α : Type} {T e : TypeId} {r : Rp α} {l : List α} {b : Nat}
def orA (b:Nat) (T e:TypeId) (r:Rp α) (l:List α):As:=⟨fun g h=>∃p c,vG g [zK b T [.slice p l.length c],rowA e r p c l] h,fun _ _ _ hg ⟨p,c,s⟩=>⟨p,c,vG.mono hg s⟩⟩
theorem vR.orOpen {w:World} (i:Nat) (hi:O[i]? =some (orA b T e r l)) (mm:vR c w O R):∃y:Option Addr×Nat,True∧vR c w (zK b T [.slice y.1 l.length y.2] :: rowA e r y.1 y.2 l :: O.eraseIdx i) R:=by
  obtain ⟨hh,g,m0⟩:=mm.perm (qP hi)
  obtain ⟨h1,h2,a,eh,⟨p,cap,s⟩,y⟩:=m0.sep
  refine ⟨(p,cap),trivial,hh,g,?_,m0.holds,m0.apart,m0.hasH,m0.hasG,m0.le,m0.newG,m0.newH,m0.kept⟩
  subst eh
  exact vG.app (O:=[zK b T [.slice p l.length cap],rowA e r p cap l]) s y a
theorem vR.orClose {w:World} {p:Option Addr} {n cap:Nat} (i j:Nat) (hi:O[i]? =some (zK b T [.slice p n cap])) (hj:(O.eraseIdx i)[j]? =some (rowA e r p cap l)) (hn:n=l.length) (mm:vR c w O R):vR c w (orA b T e r l :: (O.eraseIdx i).eraseIdx j) R:=
  (mm.perm ((qP hi).trans (List.Perm.cons _ (qP hj)))).resep fun g h s=>by
    subst hn
    obtain ⟨h1,h2,a,eh,x,y⟩:=vG.split (O:=[zK b T [.slice p l.length cap],rowA e r p cap l]) (O':=(O.eraseIdx i).eraseIdx j) s
    exact ⟨h1,h2,a,eh,⟨p,cap,x⟩,y⟩
theorem vR.orCast {w:World} {l2:List α} (i:Nat) (hi:O[i]? =some (orA b T e r l)) (h:l=l2) (mm:vR c w O R):vR c w (orA b T e r l2 :: O.eraseIdx i) R:=by
  subst h
  exact mm.perm (qP hi)
end
end Sp
namespace Sp
open Go
set_option maxRecDepth 100000
set_option maxHeartbeats 8000000
variable {A:List (Rat×Rat)} {L:List (List Rat)} {bd bl bo cL n nL:Nat} {pL:Option Addr} {u1 u2 v1 v2:Wd} {x1 x2:Rat}
theorem Kt {p1:Option Addr} {n1:Nat} {c1:Nat} {l1:List Rat} (hn1:l1.length=n1) (hm1:n1≤800) (hcl:yi l1=l1) (hb:Po.bd 60000000000 l1):CB 234 [.slice p1 n1 c1] [zI rQ p1 c1 l1] (Y:=(Option Addr)×Nat) (fun y=> .slice (y.1) ((Po.mo l1).length) (y.2)) (fun y=>[zI rQ (y.1) (y.2) (Po.mo l1)]):=by
 refine zg Tryz.func234 rfl rfl (fun c=> ?_)
 refine zN 0 rfl (fun hL0=> ?_)
 refine jg 1 rfl<|k12 3 rfl<|zx rfl (fun h7=> ?_) (fun h7=> ?_)
 refine Zn 1 rfl<|zD<|QR rQ ?_
 have a5:(Po.mo l1)=[]:=if_pos om
 exact zq rfl (none,0) trivial (zj rfl) (by rw [a5];rfl) oN ((.e (j:=0) rfl (by rw [a5]) .n))
 have hne:l1≠[]:=fun e=>h7 (by rw [← hn1,e];rfl)
 have a6:=Po.QH hcl hne
 have hlq:=Po.VW hb
 have hiq:=Po.zsO hb
 have h1q:yh ((1:Int):Rat)=1:=Od
 refine vY<|Jo 12<|zQ 1 rfl rfl<|zQ 2 rfl rfl<|zC 3 rfl (vL yf rfl)<|zC 4 rfl (qx rfl rfl w6) ?_
 have e1:((((n1:Nat):Int) - 1):Int)=(((n1 - 1):Nat):Int):=Oo
 rw [e1]
 refine jc 5 rfl (zM (x0:=(gQ l1 (n1 - 1))) 0 (n1 - 1) rfl yf qk rfl zL rfl rfl (gD (d:=(0:Rat)) om)) ?_
 rintro ⟨b2,o3,w4,w5⟩ -
 refine vi qR<|vE 6 rfl (zA (j:=0) 0 qp rfl rfl rfl (.t4 .nil))<|jP (m':=[(15,.agg (cw [w4,w5]).toArray),(0,.slice p1 n1 c1)]) (R':=[qF true w4 w5 (gQ l1 (n1 - 1)),zI rQ p1 c1 l1]) ((.c rfl (.c rfl .n))) (List.Perm.refl _) (List.Perm.refl _) ((.of [1,2] rfl))<|q6 (X:=Wd×Wd×Nat) (k':=0) (L':=(lb 14 16383)) (fun (a1,a2,a0)=>([(3,Vp a0),(0,.slice p1 n1 c1)],[zK a0 32 (cw [a1,a2])],[],[qF true a1 a2 (((1:Int):Rat) / (gQ l1 (n1 - 1))),zI rQ p1 c1 l1])) ?_ (fun a9=> ?_)
 rintro ⟨a1,a2,a0⟩
 refine zU kr<|zi<|qe ?_
 obtain ⟨kq,hkq⟩:∃z:Rat,z=((1:Int):Rat) / (gQ l1 (n1 - 1)):=⟨_,rfl⟩
 rw [← hkq]
 refine vM 1 rfl<|zw (za 0 qp rfl rfl (.t4 .nil))<|vd (zoL 0 rfl)<|vd (jC 2 rfl)<|zm (q7 rfl rfl) zP (zdo (by exact (yM _).trans hn1) zL zL (by rw [yg];exact fun i=>yN (hb i) dd) (by exact Po.znn (by show yh kq≤_;rw [hkq,←hn1];exact yN hiq dd)) (by rw [yg];intro k lo n h;exact yN (Po.zd2 (Po.zaC hb) (by show yh kq≤_;rw [hkq,←hn1];exact hiq) k lo n h) dd)) (vj 0 1 rfl rfl) ?_
 rintro ⟨b1,b4⟩ -
 refine Zp 1 rfl ?_
 have e8:(yl (yc (l1.map some)) (yc [(some kq)]):List Rat)=Po.mo l1:=by unfold Po.mo;rw [if_neg om,yg,hkq,←hn1];rfl
 rw [e8]
 exact zq rfl (b1,b4) trivial (zj rfl) rfl oN (s0 rfl)
 refine q6 (X:=Wd×Wd×Nat) (k':=2) (L':=(lb 14 4095)) (fun (a1,a2,a0)=>([(3,Vp a0),(18,.int .i64 0),(17,.agg (cw [a1,a2]).toArray),(0,.slice p1 n1 c1)],[zK a0 32 (cw [wz,wz])],[],[qF true a1 a2 (((1:Int):Rat) / (gQ l1 (n1 - 1))),zI rQ p1 c1 l1])) ?_ (fun a7=> ?_)
 rintro ⟨a1,a2,a0⟩
 refine jt 12 kr<|zH rfl rfl rfl rfl qk (.t4 .nil)<|zC 13 rfl (zT rfl) ?_
 exact qn (a9 (a1,a2,a0)) kr ((.c rfl (.c rfl .n))) .rfl .rfl ((.of [0,1] rfl))
 refine q6 (X:=Wd×Wd) (k':=3) (L':=(lb 14 2047)) (fun (a1,a2)=>([(18,.int .i64 0),(17,.agg (cw [a1,a2]).toArray),(0,.slice p1 n1 c1)],[],[],[qF true a1 a2 (((1:Int):Rat) / (gQ l1 (n1 - 1))),zI rQ p1 c1 l1])) ?_ (fun b5=> ?_)
 rintro ⟨a1,a2⟩
 refine jt 11 kr<|jr rfl (zo vh rfl) (fun a0 _=> ?_)
 exact qn (a7 (a1,a2,a0)) kr (mR rfl) .rfl .rfl ((.of [0,1] rfl))
 refine q6 (X:=Wd×Wd×Nat) (k':=6) (L':=(lb 14 2175)) (fun (a3,a4,a0)=>([(3,Vp a0),(9,.agg (cw [a3,a4]).toArray),(15,.agg (cw [w4,w5]).toArray),(0,.slice p1 n1 c1)],[zK a0 32 (cw [wz,wz])],[],[qF true a3 a4 ((1:Int):Rat),qF true w4 w5 (gQ l1 (n1 - 1)),zI rQ p1 c1 l1])) ?_ (fun a8=> ?_)
 rintro ⟨a3,a4,a0⟩
 dsimp only [cw]
 refine jt 7 kr<|zp rfl (.c rfl (.c rfl .n)) zP (ZE (k1:=true) (u1:=a3) (v1:=a4) (q1:=((1:Int):Rat)) (k2:=true) (u2:=w4) (v2:=w5) (q2:=(l1.getD (n1 - 1) (0:Rat))) (by have h9:=hb (n1 - 1);omega) (by rw [← hn1];exact a6)) (vj 0 1) ?_
 rintro ⟨a1,a2⟩ -
 refine zQ 8 rfl rfl<|zC 9 rfl (qD rfl rfl)<|zC 10 rfl (qD rfl rfl) ?_
 exact qn (a7 (a1,a2,a0)) kr (mR rfl) .rfl .rfl ((.of [0,3] rfl))
 refine q6 (X:=Wd×Wd) (k':=7) (L':=(lb 14 127)) (fun (a3,a4)=>([(9,.agg (cw [a3,a4]).toArray),(15,.agg (cw [w4,w5]).toArray),(0,.slice p1 n1 c1)],[],[],[qF true a3 a4 ((1:Int):Rat),qF true w4 w5 (gQ l1 (n1 - 1)),zI rQ p1 c1 l1])) ?_ (fun b6=> ?_)
 rintro ⟨a3,a4⟩
 refine Qq 7 11 kr ?_ ?_
 refine zp rfl (.c rfl (.c rfl .n)) zP (ZE (k1:=true) (u1:=a3) (v1:=a4) (q1:=((1:Int):Rat)) (k2:=true) (u2:=w4) (v2:=w5) (q2:=(l1.getD (n1 - 1) (0:Rat))) (by have h9:=hb (n1 - 1);omega) (by rw [← hn1];exact a6)) (vj 0 1) ?_
 rintro ⟨a1,a2⟩ -
 refine zQ 8 rfl rfl<|zC 9 rfl (qD rfl rfl)<|zC 10 rfl (qD rfl rfl) ?_
 exact qn (b5 (a1,a2)) kr (mR rfl) .rfl .rfl ((.of [0,3] rfl))
 refine jr rfl (zo vh rfl) (fun a0 _=> ?_)
 exact qn (a8 (a3,a4,a0)) kr (mR rfl) .rfl .rfl ((.of [0,1,2] rfl))
 refine q6 (X:=Nat) (k':=7) (L':=(lb 14 2174)) (fun a0=>([(3,Vp a0),(15,.agg (cw [w4,w5]).toArray),(0,.slice p1 n1 c1)],[zK a0 32 (cw [wz,wz])],[],[qF true w4 w5 (gQ l1 (n1 - 1)),zI rQ p1 c1 l1])) ?_ (fun b7=> ?_)
 rintro a0
 refine jt 0 kr<|zp rfl (qS rfl) zP (j4 zL) (.n) ?_
 rintro ⟨a3,a4⟩ -
 exact qn (a8 (a3,a4,a0)) kr (mR rfl) .rfl .rfl ((.of [0,1,2] rfl))
 refine Qq 0 11 kr ?_ ?_
 refine zp rfl (qS rfl) zP (j4 zL) (.n) ?_
 rintro ⟨a3,a4⟩ -
 exact qn (b6 (a3,a4)) kr (mR rfl) .rfl .rfl ((.of [0,1,2] rfl))
 refine jr rfl (zo vh rfl) (fun a0 _=> ?_)
 exact qn (b7 a0) kr (mR rfl) .rfl .rfl ((.of [0,1] rfl))
theorem zo9 {p1:Option Addr} {n1:Nat} {c1:Nat} {l1:List (Option Rat)} {p2:Option Addr} {n2:Nat} {c2:Nat} {l2:List (Option Rat)} (hn1:l1.length=n1) (hm1:n1≤190) (hn2:l2.length=n2) (hm2:n2≤190) (hok:Po.zul (yc l1) (yc l2)):CB 233 [.slice p1 n1 c1,.slice p2 n2 c2] [zI rE p1 c1 l1,zI rE p2 c2 l2] (Y:=(Option Addr)×Nat) (fun y=> .slice (y.1) ((yL (yc l1) (yc l2)).length) (y.2)) (fun y=>[zI rQ (y.1) (y.2) (yL (yc l1) (yc l2))]):=by
 refine zg Tryz.func233 rfl rfl (fun c=> ?_)
 refine zN 0 rfl (fun hL0=> ?_)
 refine zN 1 rfl (fun hL1=> ?_)
 have hPl:(yi (yc l1)).length≤n1:=by rw [← hn1,←Po.vT l1];exact Po.vI _
 have hQl:(yi (yc l2)).length≤n2:=by rw [← hn2,←Po.vT l2];exact Po.vI _
 have hPm:=Po.Vu (yi (yc l1))
 have hQm:=Po.Vu (yi (yc l2))
 refine jS 1 rfl<|qJ rfl<|zm (qS rfl) zP (j5 qB zL) (qX 0 rfl) ?_
 rintro ⟨p91,c92⟩ -
 dsimp only [aq,nq,cq]
 refine zm (.c rfl .n) zP (Kt (by first|omega|rfl|assumption|exact Po.vW _) (by first|omega|rfl|assumption|exact Po.vW _) (by first|omega|rfl|assumption|exact Po.vW _) (by exact Po.zaC hok.1)) (qX 0 rfl) ?_
 rintro ⟨a1,a2⟩ -
 refine qJ rfl<|zm (qS rfl) zP (j5 qB zL) (qX 3 rfl) ?_
 rintro ⟨p95,c96⟩ -
 dsimp only [aq,nq,cq]
 refine zm (.c rfl .n) zP (Kt (by first|omega|rfl|assumption|exact Po.vW _) (by first|omega|rfl|assumption|exact Po.vW _) (by first|omega|rfl|assumption|exact Po.vW _) (by exact Po.zaC hok.2.1)) (qX 0 rfl) ?_
 rintro ⟨a3,a4⟩ -
 dsimp only [aq,nq,cq]
 refine jn 2 rfl<|zk<|Qr (X:=Nat×(List Rat)×(List Rat)×(Option Addr)×Nat×(Option Addr)×Nat) (fun x:Nat×(List Rat)×(List Rat)×(Option Addr)×Nat×(Option Addr)×Nat=>(x.2.1.length≤190∧x.2.2.1.length≤x.1∧x.1≤190)∧(yi x.2.1=x.2.1∧yi x.2.2.1=x.2.2.1)∧Po.gok x.1 x.2.1 x.2.2.1∧Po.ge x.1 x.2.1 x.2.2.1=(yL (yc l1) (yc l2))) (fun x=>[(1,.slice (x.2.2.2.2.2.1) (x.2.2.1.length) (x.2.2.2.2.2.2)),(0,.slice (x.2.2.2.1) (x.2.1.length) (x.2.2.2.2.1)),(4,.slice none 0 0)]) (fun x=>[]) (fun x=>[zI rQ (x.2.2.2.1) (x.2.2.2.2.1) (x.2.1),zI rQ (x.2.2.2.2.2.1) (x.2.2.2.2.2.2) (x.2.2.1)]) (fun x:Nat×(List Rat)×(List Rat)×(Option Addr)×Nat×(Option Addr)×Nat=>x.2.2.1.length) (((yi (yc l2)).length),(Po.mo (yi (yc l1))),(Po.mo (yi (yc l2))),a1,a2,a3,a4) (by dsimp only;exact ⟨⟨Oo,Oo,Oo⟩,⟨Po.Vd _,Po.Vd _⟩,hok.2.2,rfl⟩) (mR rfl) (ho:=oN) ((.of [2,0] rfl):q9 _ _ _) ?_
 rintro ⟨f,p,q,pp,cp,pq,ck⟩ hI
 dsimp only at hI
 try dsimp only
 obtain ⟨⟨hpl,hqf,hf⟩,⟨hcp,hcq⟩,hgk,hge⟩:=hI
 refine qe<|k12 3 rfl<|zx rfl (fun a5=> ?_) (fun a5=> ?_)
 have hg:=Po.zp2 hgk (show q.length≠0 by omega) om
 have hrl:=(Po.zaG p q).2
 refine kk6<|zk<|jK 2 rfl<|vd (jC 0 rfl)<|vd (jC 2 rfl)<|zm (q7 rfl rfl) zP (Wa (by exact yM _) zL (by exact yM _) zL zL (by rw [yg];exact hg.1.1) (by rw [yg,yg];exact hg.1.2)) (vj 1 0 rfl rfl) ?_
 rintro ⟨p89,a9,b1,b4⟩ -
 refine vZ 7 rfl ?_
 have a6:(yK (yc (p.map some)) (yc (q.map some)):List Rat)=yK p q:=by rw [yg,yg]
 rw [a6]
 refine vM 2 rfl<|zm (qS rfl) zP (Kt zL zL (by exact Po.zgu _ _) (by exact hg.2.1)) (qX 1 rfl) ?_
 rintro ⟨a7,a8⟩ -
 dsimp only [aq,nq,cq]
 refine qY 2 rfl<|zG<|zW ((f - 1),q,(Po.mo (yK p q)),pq,ck,a7,a8) (by dsimp only;have h9:=Po.zp3 (p:=p) hcq (show q.length≠0 by omega) hqf;exact ⟨⟨Oo,h9,Oo⟩,⟨hcq,Po.Vd _⟩,hg.2.2,(Po.zsN om hqf).symm.trans hge⟩) (by have h9:=Po.Vu (yK p q);have h8:=Po.JB (p:=p) hcq (show q.length≠0 by omega);(show (Po.mo (yK p q)).length<q.length;omega)) (mR rfl) (ho:=oN) ((.of [6,0] rfl):q9 _ _ _)
 refine z7<|ze<|ze<|zn<|zi<|Zn 2 rfl ?_
 have a0:p=(yL (yc l1) (yc l2)):=(Po.zc2 om).symm.trans hge
 exact zq rfl (pp,cp) trivial (zj rfl) (by rw [← a0]) oN ((.e (j:=0) rfl (by rw [← a0]) .n))
theorem zpa {p1:Option Addr} {n1:Nat} {c1:Nat} {l1:List (Option Rat)} (hn1:l1.length=n1) (hm1:n1≤190) (hok:Po.zsM (yc l1)):CB 174 [.slice p1 n1 c1] [zI rE p1 c1 l1] (Y:=(Option Addr)×Nat) (fun y=> .slice (y.1) ((Po.ZL (yc l1)).length) (y.2)) (fun y=>[zI rQ (y.1) (y.2) (Po.ZL (yc l1))]):=by
 refine zg Tryz.func174 rfl rfl (fun c=> ?_)
 refine zN 0 rfl (fun hL0=> ?_)
 refine jS 1 rfl<|qJ rfl<|zm (qS rfl) zP (j5 qB zL) (qX 0 rfl) ?_
 rintro ⟨p91,c92⟩ -
 refine jn 1 rfl<|qe ?_
 obtain ⟨P,hP⟩:∃z,z=(yi (yc l1)):=⟨_,rfl⟩
 have e3:(yi (yc l1):List Rat)=P:=by exact hP.symm
 rw [e3]
 have hPl:P.length≤n1:=by rw [hP,←hn1,←Po.vT l1];exact Po.vI _
 have hPd:=Po.Wp P
 refine k22 3 rfl<|zx rfl (fun a4=> ?_) (fun a4=> ?_)
 refine Zn 1 rfl<|zD<|QR rQ ?_
 have a0:(Po.ZL (yc l1))=[]:=if_pos (by rw [← hP];omega)
 exact zq rfl (none,0) trivial (zj rfl) (by rw [a0];rfl) oN ((.e (j:=0) rfl (by rw [a0]) .n))
 obtain ⟨a2,a1,a3⟩:=hok.2.2 (by rw [← hP];omega)
 rw [← hP] at a2 a1 a3
 have hgl:=Po.zp6 P (yJ P)
 have hdl:=(Po.zaG P (yL P (yJ P))).1
 refine k80 3 rfl<|vd (jC 0 rfl)<|zm (qS rfl) zP (zbG (by exact yM _) zL (by intro i;rw [Po.Kx,hP,Po.Zf];exact yN (hok.1 i) dd)) (qX 0 rfl) ?_
 rintro ⟨p94,c95⟩ -
 have e6:(yJ (yc ((P).map some)):List Rat)=yJ P:=by rw [yg]
 rw [e6]
 refine vd (jC 0 rfl)<|zm (q7 rfl rfl) zP (zo9 (by exact yM _) zL (by exact yM _) zL (by rw [yg,yg];exact a2)) (vj 2 0 rfl rfl) ?_
 rintro ⟨p97,c98⟩ -
 have e9:(yL (yc ((P).map some)) (yc ((yJ P).map some)):List Rat)=yL P (yJ P):=by rw [yg,yg]
 rw [e9]
 refine vd (jC 0 rfl)<|zm (q7 rfl rfl) zP (Wa (by exact yM _) zL (by exact yM _) zL zL (by rw [yg];exact a1.1) (by rw [yg,yg];exact a1.2)) (vj 4 0 rfl rfl) ?_
 rintro ⟨a8,a9,b1,b4⟩ -
 refine jn 7 rfl ?_
 have a5:(Po.dq (yc ((P).map some)) (yc ((yL P (yJ P)).map some)):List Rat)=Po.dq P (yL P (yJ P)):=by rw [yg,yg]
 rw [a5]
 refine vM 1 rfl<|zm (qS rfl) zP (Kt zL zL (by exact Po.zgv _ _) (by exact a3)) (qX 0 rfl) ?_
 rintro ⟨a6,a7⟩ -
 refine Zp 1 rfl ?_
 have a0:(Po.ZL (yc l1))=Po.mo (Po.dq P (yL P (yJ P))):=by unfold Po.ZL;rw [← hP,if_neg om]
 exact zq rfl (a6,a7) trivial (zj rfl) (by rw [a0]) oN ((.e (j:=0) rfl (by rw [a0]) .n))
theorem zhg {pL:Option Addr} {nL:Nat} {cL:Nat} {L:List (List Rat)} {u1:Wd} {v1:Wd} {x1:Rat} (hnL:L.length=nL) (hmL:nL≤400) (hx:yh x1≤100000000000) (hv:Po.vok L x1):CA 180 [.slice pL nL cL,.agg #[u1.b,u1.l,v1.b,v1.l]] [zI (rS rQ) pL cL L,qF true u1 v1 x1] (.int .i64 (Po.vr L x1)):=by
 refine zg Tryz.func180 rfl rfl (fun c=> ?_)
 refine zN 0 rfl (fun hL0=> ?_)
 refine vg<|zB (zX rfl rfl) (fun b1=> ?_)
 refine jD 1 rfl<|jn 2 rfl<|jK 1 rfl<|zE (vL yo rfl)<|vZ 1 rfl<|zk<|Qr (X:=Nat×Int×Int) (fun x:Nat×Int×Int=>(x.1≤nL∧0≤x.2.1∧x.2.1≤x.1∧ -1≤x.2.2∧x.2.2≤1)∧Po.va x1 (L.drop x.1) x.2.1 x.2.2=Po.vr L x1) (fun x=>[(6,.int .i64 (x.2.2)),(5,.int .i64 (x.2.1)),(12,Vi x.1),(11,Vi nL),(10,.slice pL nL cL),(4,.int .i64 0),(3,Vp b1)]) (fun x=>[zK b1 32 (cw [u1,v1])]) (fun x=>[zI (rS rQ) pL cL L,qF true u1 v1 x1]) (fun x:Nat×Int×Int=>nL - x.1) (0,0,0) (by dsimp only;exact ⟨Oo,rfl⟩) ((.c rfl (.c rfl (.e rfl vA (.of rfl)))):vQ _ _) (ho:=(o0 rfl)) ((.of [0,1] rfl):q9 _ _ _) ?_
 rintro ⟨i,n,s⟩ hI
 dsimp only at hI
 obtain ⟨⟨hi,hn0,hni,a2,a3⟩,hvr⟩:=hI
 have hss: -1≤s∧s≤1:=⟨a2,a3⟩
 refine jg 1 rfl<|zx rfl (fun a4=> ?_) (fun a4=> ?_)
 have hiL:i<nL:=Oo
 have hw:=hv (L.getD i []) (by rw [yU,List.getElem?_eq_getElem om];exact List.getElem_mem _)
 have hva:=Po.zp4 x1 (show i<L.length by omega) n s
 refine vY<|zk<|vg<|vX (zM (x0:=(L.getD i [])) 0 i rfl yo sz64 rfl zL rfl rfl (gD (d:=[]) om)) ?_
 rintro ⟨b2,o3,p4,c5⟩ -
 refine zw (zf (j:=0) 0 ty64 rfl rfl rfl rfl)<|jD 1 rfl<|qJ rfl<|zw (za 0 qp rfl rfl (.t4 .nil))<|vd (zoL 3 rfl)<|vd (jC 2 rfl)<|zm (q7 rfl rfl) zP (zlG (by exact yM _) (by exact yN hw.1 dd) (by exact yN hx dd) (by intro j;rw [Po.Kx];exact yN (hw.2.1 j) dd) (by intro j;rw [yg];exact hw.2.2 j)) (vj 0 1 rfl rfl) ?_
 rintro ⟨w36,w47⟩ -
 dsimp only [aq,nq,cq]
 have e8:(yF ((some x1).getD 0) (yc ((L.getD i []).map some)):Rat)=yF x1 (L.getD i []):=by rw [yg];rfl
 rw [e8]
 refine VG rfl rfl (.c rfl .n) zP Vt (.c (j:=0) rfl .n) ?_
 refine jn 1 rfl<|k12 2 rfl<|zx rfl (fun a0=> ?_) (fun a0=> ?_)
 rw [if_pos a0] at hva
 refine z7<|ze<|zn<|zi<|zv<|zE (qj rfl rfl)<|qY 1 rfl<|zW ((i+1),n,s) (show ((i+1)≤nL∧0≤n∧n≤(i+1)∧ -1≤s∧s≤1)∧Po.va x1 (L.drop (i+1)) n s=Po.vr L x1 from by exact ⟨Oo,hva.symm.trans hvr⟩) (by show nL - (i+1)<nL - i;omega) (mR rfl) (ho:=(o0 rfl)) ((.of [5,6] rfl):q9 _ _ _)
 rw [if_neg a0] at hva
 refine qN<|zi<|qe<|jK 2 rfl<|zE (qw (z:=(s*Big.Zv (yF x1 (L.getD i [])))) rfl rfl (Q9 (by exact ⟨rfl,Po.zex hss (Big.Wh _)⟩)))<|vZ 1 rfl<|zx rfl (fun a1=> ?_) (fun a1=> ?_)
 rw [if_pos a1] at hva
 refine vM 1 rfl<|zE (qm rfl rfl w6)<|vZ 1 rfl<|k2n 2 rfl<|zG<|zi<|zv<|zE (qj rfl rfl)<|qY 1 rfl<|zW ((i+1),(n+1),Big.Zv (yF x1 (L.getD i []))) (show ((i+1)≤nL∧0≤(n+1)∧(n+1)≤(i+1)∧ -1≤(Big.Zv (yF x1 (L.getD i [])))∧(Big.Zv (yF x1 (L.getD i [])))≤1)∧Po.va x1 (L.drop (i+1)) (n+1) (Big.Zv (yF x1 (L.getD i [])))=Po.vr L x1 from by have h9:=Big.Wh (yF x1 (L.getD i []));exact ⟨Oo,hva.symm.trans hvr⟩) (by show nL - (i+1)<nL - i;omega) (mR rfl) (ho:=(o0 rfl)) ((.of [5,6] rfl):q9 _ _ _)
 rw [if_neg a1] at hva
 refine qN<|zi<|zv<|qJ rfl<|zE (zT rfl)<|jq<|zG<|zi<|zv<|zE (qm (z:=(((i+1):Nat):Int)) rfl rfl (Q9 om))<|qJ rfl<|jq<|zW ((i+1),n,Big.Zv (yF x1 (L.getD i []))) (by dsimp only;have h9:=Big.Wh (yF x1 (L.getD i []));exact ⟨Oo,hva.symm.trans hvr⟩) (by dsimp only;omega) (mR rfl) (ho:=(o0 rfl)) ((.of [5,6] rfl):q9 _ _ _)
 refine z7<|ze<|ze<|zn<|zi<|Zn 2 rfl ?_
 have a5:n=Po.vr L x1:=by rw [← hvr,List.drop_eq_nil_of_le om];rfl
 exact zq rfl () trivial (zj rfl) (by rw [a5]) oN sN
theorem zpb {pL:Option Addr} {nL:Nat} {cL:Nat} {L:List (List Rat)} {u1:Wd} {v1:Wd} {x1:Rat} {u2:Wd} {v2:Wd} {x2:Rat} (hnL:L.length=nL) (hmL:nL≤400) (hx1:yh x1≤100000000000) (hx2:yh x2≤100000000000) (hv1:Po.vok L x1) (hv2:Po.vok L x2):CA 99 [.slice pL nL cL,.agg #[u1.b,u1.l,v1.b,v1.l],.agg #[u2.b,u2.l,v2.b,v2.l]] [zI (rS rQ) pL cL L,qF true u1 v1 x1,qF true u2 v2 x2] (.int .i64 (Po.bt L x1 x2)):=by
 refine zg Tryz.func99 rfl rfl (fun c=> ?_)
 refine zN 0 rfl (fun hL0=> ?_)
 have g1:=Po.ze5 L x1
 have g2:=Po.ze5 L x2
 refine vg<|zB (zX rfl rfl) (fun b1=> ?_)
 refine zB (zX rfl rfl) (fun b2=> ?_)
 refine jn 1 rfl<|Jo 100000<|zQ 0 rfl rfl<|vE 1 rfl (za 1 qp rfl rfl (.t4 .nil))<|zQ 3 rfl rfl<|vE 4 rfl (za 0 qp rfl rfl (.t4 .nil))<|zt 2 (jU rfl (q7 rfl rfl) zP (zhg qB qB qB qB) (vj 0 1 rfl rfl) ?_)
 refine zt 5 (jU rfl (q7 rfl rfl) zP (zhg qB qB qB qB) (vj 0 2 rfl rfl) ?_)
 refine zC 6 rfl (qx rfl rfl w6)<|zC 7 rfl (zT rfl)<|zU kr<|zi<|vv ?_
 exact zq rfl () trivial (zj rfl) rfl oN sN
theorem zi7 {p1:Option Addr} {n1:Nat} {c1:Nat} {l1:List (Option Rat)} (hn1:l1.length=n1) (hm1:n1≤190) (hok:Po.sok (yc l1)):CB 96 [.slice p1 n1 c1] [zI rE p1 c1 l1] (Y:=(Option Addr)×Nat) (fun y=> .slice (y.1) ((yI (yc l1)).length) (y.2)) (fun y=>[zI (rS rQ) (y.1) (y.2) (yI (yc l1))]):=by
 refine zg Tryz.func96 rfl rfl (fun c=> ?_)
 refine zN 0 rfl (fun hL0=> ?_)
 refine jS 1 rfl<|qJ rfl<|zm (qS rfl) zP (zpa qB qB (by exact hok.1)) (qX 0 rfl) ?_
 rintro ⟨a4,a5⟩ -
 refine jn 1 rfl<|qe ?_
 obtain ⟨A0,a0⟩:∃z,z=(Po.ZL (yc l1)):=⟨_,rfl⟩
 have e3:(Po.ZL (yc l1):List Rat)=A0:=by exact a0.symm
 rw [e3]
 have hAl:A0.length≤n1:=by rw [a0,←hn1,←Po.vT l1];exact Po.ze3 _
 have hAc:yi A0=A0:=by rw [a0];exact Po.ze2 _
 obtain ⟨hk1,a2,a6,a3⟩:=hok
 rw [← a0] at a2 a6 a3
 have hAd:=Po.Wp A0
 refine k22 3 rfl<|zx rfl (fun a7=> ?_) (fun a7=> ?_)
 refine Zn 1 rfl<|zD<|QR (rS rQ) ?_
 have a1:(yI (yc l1))=[]:=if_pos (by rw [← a0];omega)
 exact zq rfl (none,0) trivial (zj rfl) (by rw [a1];rfl) oN ((.e (j:=0) rfl (by rw [a1]) .n))
 refine k80 1 rfl<|qZ (Vh 0 rfl yo zmb rfl zL) (fun b4 _=> ?_)
 refine jn 1 rfl<|jK 1 rfl<|vd (jC 0 rfl)<|zm (qS rfl) zP (zbG (by exact yM _) zL (by intro i;rw [Po.Kx];exact yN (a2 i) dd)) (qX 0 rfl) ?_
 rintro ⟨a8,a9⟩ -
 refine vZ 1 rfl<|zk ?_
 have e7:(yJ (yc ((A0).map some)):List Rat)=yJ A0:=by rw [yg]
 rw [e7]
 refine Qr (X:=Nat×(List Rat)×(List Rat)×(Option Addr)×Nat×(Option Addr)×Nat×(Option Addr)×Nat×(List (List Rat))) (fun x:Nat×(List Rat)×(List Rat)×(Option Addr)×Nat×(Option Addr)×Nat×(Option Addr)×Nat×(List (List Rat))=>(x.2.1.length≤190∧x.2.2.1.length≤x.1∧x.1≤190∧x.2.2.2.2.2.2.2.2.2.length+x.1≤200)∧(yi x.2.1=x.2.1∧yi x.2.2.1=x.2.2.1)∧Po.zlc x.1 x.2.1 x.2.2.1∧x.2.2.2.2.2.2.2.2.2++Po.st x.1 x.2.1 x.2.2.1=(yI (yc l1))) (fun x=>[(4,.slice (x.2.2.2.2.2.2.2.1) (x.2.2.2.2.2.2.2.2.2.length) (x.2.2.2.2.2.2.2.2.1)),(5,.slice (x.2.2.2.2.2.1) (x.2.2.1.length) (x.2.2.2.2.2.2.1)),(3,.slice (x.2.2.2.1) (x.2.1.length) (x.2.2.2.2.1))]) (fun x=>[rowA 64 (rS rQ) (x.2.2.2.2.2.2.2.1) (x.2.2.2.2.2.2.2.2.1) (x.2.2.2.2.2.2.2.2.2)]) (fun x=>[zI rQ (x.2.2.2.1) (x.2.2.2.2.1) (x.2.1),zI rQ (x.2.2.2.2.2.1) (x.2.2.2.2.2.2.1) (x.2.2.1)]) (fun x:Nat×(List Rat)×(List Rat)×(Option Addr)×Nat×(Option Addr)×Nat×(Option Addr)×Nat×(List (List Rat))=>x.2.2.1.length) (A0.length,A0,(yJ A0),a4,a5,a8,a9,Sb b4,1,[A0]) (by dsimp only;exact ⟨⟨Oo,Oo,Oo,by show 1+A0.length≤200;omega⟩,⟨hAc,Po.Qt _⟩,a3,by unfold yI;rw [← a0,if_neg om];rfl⟩) ((.e rfl vA (.c rfl (.e rfl vA .n))):vQ _ _) (ho:=((.e (i:=0) rfl vA .n):zJ _ _ _)) ((.e (j:=2) rfl (by first|rfl|simp_all) (.c (j:=0) rfl .n)):q9 _ _ _) ?_
 rintro ⟨f,a,b,pa,ca,pb,cb,pR,cR,A⟩ hI
 dsimp only at hI
 try dsimp only
 obtain ⟨⟨hal,hbf,hf,hAf⟩,⟨hca,hcb⟩,hsk,hst⟩:=hI
 refine qe<|k12 3 rfl<|zx rfl (fun b1=> ?_) (fun b1=> ?_)
 have hg:=Po.znl hsk (show b.length≠0 by omega) om
 have hrl:=(Po.zaG a b).2
 refine kk6<|zk<|jK 2 rfl<|qZ (Vh 1 rfl yo zmb rfl zL) (fun b8 _=> ?_)
 refine qt 0 rfl .z<|vO 1 rfl (qT 0 rfl yo zmb dd rfl rfl zL rfl zL om om) (fun _=>(.s .z)) ?_
 rintro ⟨p9,b5⟩ -
 refine jD 1 rfl<|kS 2 rfl<|vd (jC 1 rfl)<|vd (jC 3 rfl)<|zm (q7 rfl rfl) zP (Wa (by exact yM _) zL (by exact yM _) zL zL (by rw [yg];exact hg.2.1.1) (by rw [yg,yg];exact hg.2.1.2)) (vj 1 0 rfl rfl) ?_
 rintro ⟨c3,c4,c5,c6⟩ -
 refine vZ 7 rfl ?_
 have b6:(yK (yc (a.map some)) (yc (b.map some)):List Rat)=yK a b:=by rw [yg,yg]
 rw [b6]
 refine vM 2 rfl<|zm (qS rfl) zP (j4 zL) (.n) ?_
 rintro ⟨c7,c8⟩ -
 refine vd (zoL 0 rfl)<|vd (jC 3 rfl)<|zm (q7 rfl rfl) zP (zdo (by exact yM _) zL zL (by rw [yg];exact fun i=>yN (hg.2.2.1 i) dd) (by exact Po.jM (Po.znn (x:=((-1:Int):Rat)) (L:=1) dd) dd) (by rw [yg];intro k lo n h;exact yN (Po.zd2 (L:=1) (Po.zaC hg.2.2.1) dd k lo n h) dd)) (vj 0 1 rfl rfl) ?_
 rintro ⟨b7,b9⟩ -
 refine qY 2 rfl<|zG ?_
 have c2:(yl (yc ((yK a b).map some)) (yc [(some (((-1):Int):Rat))]):List Rat)=yl (yK a b) [((-1:Int):Rat)]:=by rw [yg];rfl
 rw [c2]
 refine zW ((f - 1),b,(yl (yK a b) [((-1:Int):Rat)]),pb,cb,b7,b9,p9,b5,(A++([b]))) (by dsimp only;have h9:=Po.zaF (a:=a) hcb (show b.length≠0 by omega) hbf;exact ⟨⟨Oo,h9,Oo,by rw [yV];show A.length+1+(f - 1)≤200;omega⟩,⟨hcb,Po.Q5 _ _⟩,hg.2.2.2,by rw [List.append_assoc,List.singleton_append,←Po.zie om hbf];exact hst⟩) (by have h9:=Po.zaF (n:=b.length) (a:=a) hcb (show b.length≠0 by omega) (yac _);(show (yl (yK a b) [((-1:Int):Rat)]).length<b.length;omega)) ((.e rfl (by simp) (.c rfl (.c rfl .n))):vQ _ _) (ho:=((.c (i:=1) rfl .n):zJ _ _ _)) ((.of [10,0] rfl):q9 _ _ _)
 refine z7<|ze<|ze<|zn<|zi<|Zn 2 rfl<|vK 0 rfl .z ?_
 have a1:A=(yI (yc l1)):=by rw [← hst,Po.zc3 om,yaa]
 exact zq rfl (pR,cR) trivial (zj rfl) (by rw [← a1]) oN ((.e (j:=0) rfl (by rw [← a1]) .n))
theorem zi8 {p1:Option Addr} {n1:Nat} {c1:Nat} {l1:List (Option Rat)} (hn1:l1.length=n1) (hm1:n1≤190) (hb:Po.bd 60000000000 (yc l1)) (hne:(yi (yc l1)).length≠0):CB 97 [.slice p1 n1 c1] [zI rE p1 c1 l1] (Y:=Wd×Wd) (fun y=> .tuple #[.agg #[y.1.b,y.1.l,y.2.b,y.2.l],.int .i64 0]) (fun y=>[qF true y.1 y.2 (yr (yi (yc l1)))]):=by
 refine zg Tryz.func97 rfl rfl (fun c=> ?_)
 refine zN 0 rfl (fun hL0=> ?_)
 refine vg<|zB (zo vh rfl) (fun b1=> ?_)
 refine jD 1 rfl<|qJ rfl<|zm (qS rfl) zP (j5 qB zL) (qX 0 rfl) ?_
 rintro ⟨a0,a1⟩ -
 refine jn 1 rfl<|qe ?_
 obtain ⟨P,hP⟩:∃z,z=(yi (yc l1)):=⟨_,rfl⟩
 have e4:(yi (yc l1):List Rat)=P:=by exact hP.symm
 rw [e4]
 refine zN 0 rfl (fun hLP=> ?_)
 have hPl:P.length≤n1:=by rw [hP,←hn1,←Po.vT l1];exact Po.vI _
 have hbP:Po.bd 60000000000 P:=by rw [hP];exact Po.zaC hb
 rw [← hP] at hne
 have hPn:P≠[]:=fun e=>hne (by rw [e];rfl)
 have a7:Po.lead P≠0:=Po.QH (by rw [hP];exact Po.vW _) hPn
 have hlq:=Po.VW hbP
 refine k22 3 rfl<|zx rfl (fun b8=> ?_) (fun b8=> ?_)
 omega
 refine kk8<|zm (.n) zP (JZ) (.n) ?_
 rintro ⟨c2,c3⟩ -
 refine zB (zo vh rfl) (fun b7=> ?_)
 refine zh 0 rfl rfl rfl rfl qk (.t4 .nil) .z<|ZI<|jK 3 rfl<|zE (qx rfl rfl w6) ?_
 have e8:(((((P).length:Nat):Int) - 1):Int)=(((P.length - 1):Nat):Int):=Oo
 rw [e8]
 refine zE (ZW (hi:=(P.length - 1)) yf qk rfl (.s rfl) (.inr ⟨_,rfl⟩) om)<|Vf (V3 1 rfl (P.length - 1) om) (fun _ _=> ?_)
 refine vZ 2 rfl<|zk<|z5 (X:=Nat×Wd×Wd) (fun x=>x.1≤P.length - 1) (fun x=>[(22,Vi x.1)]) [21,20,4,0,2] (fun x=>[zK b7 32 (cw [x.2.1,x.2.2]),zK b1 32 (cw [wz,wz])]) (fun x=>[qF true x.2.1 x.2.2 (Po.bm P x.1)]) [0,2] (fun x=>P.length - 1 - x.1) (0,c2,c3) (by exact yO _) (.e rfl vA .n) ((.of [0,0] rfl):zJ _ _ _) ((.e (j:=1) rfl rfl .n)) ?_
 rintro ⟨i,su,sv⟩ hI
 dsimp only at hI
 refine jg 1 rfl<|zx rfl (fun c4=> ?_) (fun c4=> ?_)
 refine qN<|zi<|qe<|zk<|qe<|zv<|vX (zM (x0:=(((P).take (P.length - 1)).getD i (0:Rat))) 1 i rfl yf qk rfl (by first|rfl|assumption|(simp;done)|omega|(rw [yP];omega)) rfl rfl (gD (d:=(0:Rat)) (by first|omega|(rw [yP];omega)))) ?_
 rintro ⟨b9,o10,a5,a6⟩ -
 refine vd qR<|zw (zA (j:=0) 0 qp rfl rfl rfl (.t4 .nil))<|zB (zo vh rfl) (fun a8=> ?_)
 refine zh 0 rfl rfl rfl rfl qk (.t4 .nil) .z<|ZI ?_
 have c5:((P).take (P.length - 1)).getD i (0:Rat)=P.getD i 0:=by exact Po.znj om
 rw [c5]
 refine Jo 12<|vE 0 rfl (za 0 qp rfl rfl (.t4 .nil))<|zQ 1 rfl rfl<|zQ 2 rfl rfl<|zC 3 rfl (vL yf rfl)<|zC 4 rfl (qx rfl rfl w6) ?_
 have c6:(((((P).length:Nat):Int) - 1):Int)=(((P.length - 1):Nat):Int):=Oo
 rw [c6]
 refine jc 5 rfl (zM (x0:=((P).getD (P.length - 1) (0:Rat))) 4 (P.length - 1) rfl yf qk rfl zL rfl rfl (gD (d:=(0:Rat)) om)) ?_
 rintro ⟨b16,o17,a9,b4⟩ -
 refine vi qR<|vE 6 rfl (zA (j:=0) 0 qp rfl rfl rfl (.t4 .nil))<|jP (m':=[(33,.agg (cw [a9,b4]).toArray),(27,.agg (cw [a5,a6]).toArray),(22,Vi i),(21,Vi (P.length - 1)),(20,.slice a0 (P.length - 1) a1),(4,Vp b7),(0,.slice a0 ((P).length) a1),(2,Vp b1)]) (R':=[qF true a9 b4 ((P).getD (P.length - 1) (0:Rat)),qF true a5 a6 (P.getD i 0),qF true su sv (Po.bm P i),zI rQ a0 a1 ((P).take (P.length - 1)),zI rQ a0 a1 P]) (mR rfl) (List.Perm.refl _) (List.Perm.refl _) ((.of [1,3,4,5,6] rfl))<|q6 (X:=Wd×Wd×Nat) (k':=0) (L':=(lb 14 16383)) (fun (a2,a3,a4)=>([(7,Vp a4),(22,Vi i),(21,Vi (P.length - 1)),(20,.slice a0 (P.length - 1) a1),(4,Vp b7),(0,.slice a0 ((P).length) a1),(2,Vp b1)],[zK a4 32 (cw [a2,a3])],[zK a8 32 (cw [a5,a6]),zK b7 32 (cw [su,sv]),zK b1 32 (cw [wz,wz])],[qF true a2 a3 ((P.getD i 0) / ((P).getD (P.length - 1) (0:Rat))),qF true a5 a6 (P.getD i 0),qF true su sv (Po.bm P i),zI rQ a0 a1 ((P).take (P.length - 1)),zI rQ a0 a1 P])) ?_ (fun c7=> ?_)
 rintro ⟨a2,a3,a4⟩
 refine zU kr<|zi<|vg<|zw (za 0 qp rfl rfl (.t4 .nil))<|zm (qS rfl) zP (zoT (by have h1:=hbP i;have h2:=Big.Qs (P.getD i 0) (y:=P.getD (P.length - 1) 0) a7;have h3:yh (P.getD (P.length - 1) 0)≤60000000000:=hbP _;omega)) (qX 0 rfl) ?_
 rintro ⟨c8,c9⟩ -
 refine zh 0 rfl rfl rfl rfl qk (.t4 .nil) .z<|Vj<|zw (za 0 qp rfl rfl (.t4 .nil))<|zw (za 2 qp rfl rfl (.t4 .nil))<|qg (q7 rfl rfl) zP (zeR (by have h1:=hbP i;have h2:=Big.Qs (P.getD i 0) (y:=P.getD (P.length - 1) 0) a7;have h3:yh (P.getD (P.length - 1) 0)≤60000000000:=hbP _;have h4:=Po.zjY hbP a7 i;rw [Big.zeK];omega)) (vj 0 3 rfl rfl)<|vZ 1 rfl<|zx rfl (fun b5=> ?_) (fun b5=> ?_)
 refine zv<|zw (za 0 qp rfl rfl (.t4 .nil))<|zh 2 rfl rfl rfl rfl qk (.t4 .nil) (.s (.s .z))<|jq<|zG<|zi<|zv<|zE (qj rfl rfl)<|qY 1 rfl<|zW ((i+1),c8,c9) Oo om (mR rfl) ((.of [2,2] rfl):zJ _ _ _) ((.e (j:=0) rfl (by rw [← Po.zjX];exact congrArg _ (if_pos (Po.znv.1 b5)).symm) (.of [4,5] rfl)))
 refine qN<|zG<|zi<|zv<|zE (qj rfl rfl)<|qY 1 rfl<|zW ((i+1),su,sv) Oo om (mR rfl) ((.of [2,2] rfl):zJ _ _ _) ((.e (j:=3) rfl (by rw [← Po.zjX];exact congrArg _ (if_neg (fun k=>b5 (Po.znv.2 k))).symm) (.of [4,5] rfl)))
 refine q6 (X:=Wd×Wd×Nat) (k':=2) (L':=(lb 14 4095)) (fun (a2,a3,a4)=>([(7,Vp a4),(36,.int .i64 0),(35,.agg (cw [a2,a3]).toArray),(22,Vi i),(21,Vi (P.length - 1)),(20,.slice a0 (P.length - 1) a1),(4,Vp b7),(0,.slice a0 ((P).length) a1),(2,Vp b1)],[zK a4 32 (cw [wz,wz])],[zK a8 32 (cw [a5,a6]),zK b7 32 (cw [su,sv]),zK b1 32 (cw [wz,wz])],[qF true a2 a3 ((P.getD i 0) / ((P).getD (P.length - 1) (0:Rat))),qF true a5 a6 (P.getD i 0),qF true su sv (Po.bm P i),zI rQ a0 a1 ((P).take (P.length - 1)),zI rQ a0 a1 P])) ?_ (fun b6=> ?_)
 rintro ⟨a2,a3,a4⟩
 refine jt 12 kr<|zH rfl rfl rfl rfl qk (.t4 .nil)<|zC 13 rfl (zT rfl) ?_
 exact qn (c7 (a2,a3,a4)) kr (mR rfl) .rfl .rfl ((.of [0,1,2,3,4] rfl))
 refine q6 (X:=Wd×Wd) (k':=3) (L':=(lb 14 2047)) (fun (a2,a3)=>([(36,.int .i64 0),(35,.agg (cw [a2,a3]).toArray),(22,Vi i),(21,Vi (P.length - 1)),(20,.slice a0 (P.length - 1) a1),(4,Vp b7),(0,.slice a0 ((P).length) a1),(2,Vp b1)],[],[zK a8 32 (cw [a5,a6]),zK b7 32 (cw [su,sv]),zK b1 32 (cw [wz,wz])],[qF true a2 a3 ((P.getD i 0) / ((P).getD (P.length - 1) (0:Rat))),qF true a5 a6 (P.getD i 0),qF true su sv (Po.bm P i),zI rQ a0 a1 ((P).take (P.length - 1)),zI rQ a0 a1 P])) ?_ (fun d0=> ?_)
 rintro ⟨a2,a3⟩
 refine jt 11 kr<|jr rfl (zo vh rfl) (fun a4 _=> ?_)
 exact qn (b6 (a2,a3,a4)) kr (mR rfl) .rfl .rfl ((.of [0,1,2,3,4] rfl))
 refine q6 (X:=Nat) (k':=6) (L':=(lb 14 2175)) (fun a4=>([(7,Vp a4),(33,.agg (cw [a9,b4]).toArray),(27,.agg (cw [a5,a6]).toArray),(22,Vi i),(21,Vi (P.length - 1)),(20,.slice a0 (P.length - 1) a1),(4,Vp b7),(0,.slice a0 ((P).length) a1),(2,Vp b1)],[zK a4 32 (cw [wz,wz])],[zK a8 32 (cw [a5,a6]),zK b7 32 (cw [su,sv]),zK b1 32 (cw [wz,wz])],[qF true a9 b4 ((P).getD (P.length - 1) (0:Rat)),qF true a5 a6 (P.getD i 0),qF true su sv (Po.bm P i),zI rQ a0 a1 ((P).take (P.length - 1)),zI rQ a0 a1 P])) ?_ (fun d1=> ?_)
 rintro a4
 refine jt 7 kr<|zp rfl (q7 rfl rfl) zP (ZE (by have h1:=hbP i;have h2:yh (P.getD (P.length - 1) 0)≤60000000000:=hbP _;omega) (by exact a7)) (vj 1 0 rfl rfl) ?_
 rintro ⟨a2,a3⟩ -
 refine zQ 8 rfl rfl<|zC 9 rfl (qD rfl rfl)<|zC 10 rfl (qD rfl rfl) ?_
 exact qn (b6 (a2,a3,a4)) kr (mR rfl) .rfl .rfl ((.of [0,2,3,4,5] rfl))
 refine Qq 7 11 kr ?_ ?_
 refine zp rfl (q7 rfl rfl) zP (ZE (by have h1:=hbP i;have h2:yh (P.getD (P.length - 1) 0)≤60000000000:=hbP _;omega) (by exact a7)) (vj 1 0 rfl rfl) ?_
 rintro ⟨a2,a3⟩ -
 refine zQ 8 rfl rfl<|zC 9 rfl (qD rfl rfl)<|zC 10 rfl (qD rfl rfl) ?_
 exact qn (d0 (a2,a3)) kr (mR rfl) .rfl .rfl ((.of [0,2,3,4,5] rfl))
 refine jr rfl (zo vh rfl) (fun a4 _=> ?_)
 exact qn (d1 a4) kr (mR rfl) .rfl .rfl ((.of [0,1,2,3,4] rfl))
 refine z7<|ze<|ze<|zn<|zi<|qe<|vk (.c (i:=1) rfl (.c (i:=0) rfl .n))<|Vk 3<|qy 0 rfl (za 1 qp rfl rfl (.t4 .nil))<|zt 1 (zp rfl (qS rfl) zP (j4 zL) (.n) ?_)
 rintro ⟨d4,d5⟩ -
 refine zt 2 (zp rfl q7 zP (Ji (k1:=true) (u1:=su) (v1:=sv) (q1:=(Po.bm P i)) (k2:=true) (u2:=d4) (v2:=d5) (q2:=((1:Int):Rat)) (by have h4:=Po.zjY hbP a7 i;have h5:yh ((1:Int):Rat)=1:=dd;omega)) (vj 1 0) ?_)
 rintro ⟨d6,d7⟩ -
 refine zt 3 (zH rfl rfl rfl rfl qk (.t4 .nil) ?_)
 refine zC 4 rfl (zT rfl)<|zU kr<|zi<|vv ?_
 have d8:i=P.length - 1:=Oo
 exact vD rfl (d6,d7) trivial (zy 0 qp rfl rfl (.t4 .nil)) (zj rfl) rfl oN ((.e (j:=0) rfl (by rw [d8];rfl) .n))
theorem zhh {u1:Wd} {v1:Wd} {x1:Rat} {u2:Wd} {v2:Wd} {x2:Rat} (hx1:yh x1≤100000000000) (hx2:yh x2≤100000000000):CB 100 [.agg #[u1.b,u1.l,v1.b,v1.l],.agg #[u2.b,u2.l,v2.b,v2.l]] [qF true u1 v1 x1,qF true u2 v2 x2] (Y:=Wd×Wd) (fun y=> .agg #[y.1.b,y.1.l,y.2.b,y.2.l]) (fun y=>[qF true y.1 y.2 (Po.mid x1 x2)]):=by
 refine zg Tryz.func100 rfl rfl (fun c=> ?_)
 refine vg<|zB (zX rfl rfl) (fun b1=> ?_)
 refine zB (zX rfl rfl) (fun b2=> ?_)
 refine zB (zo vh rfl) (fun b3=> ?_)
 refine Vj<|zm (q7 rfl rfl) zP (zdZ zL zL zL) (.n) ?_
 rintro ⟨w34,w45⟩ -
 refine kS 3 rfl<|zB (zo vh rfl) (fun b6=> ?_)
 refine zh 0 rfl rfl rfl rfl qk (.t4 .nil) .z<|jn 1 rfl<|vk (.c (i:=1) rfl (.c (i:=0) rfl (.c (i:=0) rfl (.c (i:=0) rfl .n))))<|Vk 5<|qy 0 rfl (za 3 qp rfl rfl (.t4 .nil))<|qy 1 rfl (za 2 qp rfl rfl (.t4 .nil))<|qy 3 rfl (za 1 qp rfl rfl (.t4 .nil))<|zt 2 (zp rfl (q7 rfl rfl) zP (Ji zL) (vj 1 2 rfl rfl) ?_)
 rintro ⟨w37,w48⟩ -
 refine zt 4 (zp rfl (q7 rfl rfl) zP (Jj (by have h1:=Big.QX x1 x2;have h5:yh (Rat.divInt 1 2)=1:=Oz;omega)) (vj 0 1 rfl rfl) ?_)
 rintro ⟨a0,a1⟩ -
 refine zt 5 (zH rfl rfl rfl rfl qk (.t4 .nil) ?_)
 refine zU kr<|zi<|vv ?_
 exact zq rfl (a0,a1) trivial (zy 0 qp rfl rfl (.t4 .nil)) rfl oN (s0 rfl)
theorem zpc (hnL:L.length=nL) (hmL:nL≤400) (hA:A.length+(yC L (n+1) x1 x2).length≤1000000) (hk:Po.isk L (n+1) x1 x2) (ih:∀(A:List (Rat×Rat)) (u1 v1:Wd) (x1:Rat) (u2 v2:Wd) (x2:Rat) (hA:A.length+(yC L n x1 x2).length≤1000000) (hk:Po.isk L n x1 x2),jI Tryz.prog 98 [.agg #[u1.b,u1.l,v1.b,v1.l],.agg #[u2.b,u2.l,v2.b,v2.l],Vp bl,Vp bo,Vp bd] [orA bo 74 96 rR A] [j8 bl 0 [.slice pL nL cL],j8 bd 0 [.func (.func 98) #[] #[Vp bl,Vp bo,Vp bd]],zI (rS rQ) pL cL L,qF true u1 v1 x1,qF true u2 v2 x2] (Y:=Unit) (fun y=>True) (fun y=> .tuple #[]) (fun y=>[orA bo 74 96 rR (A++(yC L n x1 x2))]) (fun y=>[])):jI Tryz.prog 98 [.agg #[u1.b,u1.l,v1.b,v1.l],.agg #[u2.b,u2.l,v2.b,v2.l],Vp bl,Vp bo,Vp bd] [orA bo 74 96 rR A] [j8 bl 0 [.slice pL nL cL],j8 bd 0 [.func (.func 98) #[] #[Vp bl,Vp bo,Vp bd]],zI (rS rQ) pL cL L,qF true u1 v1 x1,qF true u2 v2 x2] (Y:=Unit) (fun y=>True) (fun y=> .tuple #[]) (fun y=>[orA bo 74 96 rR (A++(yC L (n+1) x1 x2))]) (fun y=>[]):=by
 refine zg Tryz.func98 rfl rfl (fun c=> ?_)
 refine zN 2 rfl (fun hL2=> ?_)
 obtain ⟨⟨hx1,hx2,hv1,hv2⟩,hr⟩:=hk
 refine vg<|zB (zX rfl rfl) (fun b1=> ?_)
 refine zB (zX rfl rfl) (fun b2=> ?_)
 refine Vj<|zw (zf (j:=0) 0 zri rfl rfl rfl rfl)<|zw (za 1 qp rfl rfl (.t4 .nil))<|zw (za 0 qp rfl rfl (.t4 .nil))<|qg (ag3 rfl rfl rfl) zP (zpb qB qB zL zL zL zL) (sg3 2 3 4 rfl rfl rfl)<|Vc<|zk<|k12 2 rfl<|zx rfl (fun a2=> ?_) (fun a2=> ?_)
 have hmo:=Po.zc5 (n:=n+1) a2
 refine qN<|zG<|zje<|ZH (fun w mm=>mm.orCast (l2:=(A++yC L (n+1) x1 x2)) 2 rfl (by rw [hmo,yaa])) ?_
 dsimp only [yW]
 exact zeg Tryz.results98 () trivial rfl (o0 rfl) sN
 refine k12 2 rfl<|zx rfl (fun a3=> ?_) (fun a3=> ?_)
 have hmo:=Po.zb1 (n:=n) a3
 have hml:(yC L (n+1) x1 x2).length=1:=by rw [hmo];rfl
 refine zhz (fun w mm=>mm.orOpen 2 rfl) ?_
 rintro ⟨p3,c4⟩ -
 dsimp only [yW]
 refine zv<|zw (zc 0 ztL rfl rfl rfl)<|zw (za 3 qp rfl rfl (.t4 .nil))<|zw (za 2 qp rfl rfl (.t4 .nil))<|zE (qr zsf rfl yt (.c qk (.c qk .n)) (.c rfl (.c rfl .n)) (.c rfl rfl rfl (.t4 .nil) (.c rfl rfl rfl (.s4 (.t4 .nil)) .n)))<|qZ (qA (r:=rR) (k:=1) yv zrh rfl dd dd dd (.c (x:=(x1,x2)) (cs:=[u1.b,u1.l,v1.b,v1.l,u2.b,u2.l,v2.b,v2.l]) (u1,v1,u2,v2) rfl rfl rfl (fun g hr=>⟨Holds.get 3 rfl hr,Holds.get 4 rfl hr⟩) .n)) (fun b6 _=> ?_)
 refine qt 0 rfl .z<|vO 2 rfl (qT 0 rfl yv zrh dd rfl rfl zL rfl zL om om) (fun _=>(.s (.s .z))) ?_
 rintro ⟨p7,c8⟩ -
 refine zh 1 rfl rfl rfl rfl sz74 (.take .nil) (.s .z)<|jq<|zG<|zje<|ZH (fun w mm=>mm.orClose 1 1 rfl rfl (by simp)) ?_
 dsimp only [yW]
 refine ZH (fun w mm=>mm.orCast (l2:=(A++yC L (n+1) x1 x2)) 0 rfl (by rw [hmo])) ?_
 dsimp only [yW]
 exact zeg Tryz.results98 () trivial rfl (o0 rfl) sN
 obtain ⟨hr1,hr2⟩:=hr a2 a3
 have hmo:=Po.zaH (n:=n) a2 a3
 have hml:(yC L (n+1) x1 x2).length=(yC L n x1 (Po.mid x1 x2)).length+(yC L n (Po.mid x1 x2) x2).length:=by rw [hmo,yV]
 refine vg<|zw (za 1 qp rfl rfl (.t4 .nil))<|zw (za 0 qp rfl rfl (.t4 .nil))<|zm (q7 rfl rfl) zP (zhh zL zL) (vj 3 4 rfl rfl) ?_
 rintro ⟨a0,a1⟩ -
 refine zB (zo vh rfl) (fun a4=> ?_)
 refine zh 0 rfl rfl rfl rfl qk (.t4 .nil) .z<|Vj<|zw (zf (j:=0) 2 zmd rfl rfl rfl rfl)<|zw (za 2 qp rfl rfl (.t4 .nil))<|zw (za 0 qp rfl rfl (.t4 .nil))<|zhy (qP (i:=3) rfl)<|zbQ (A:=[orA bo 74 96 rR A]) (F:=[zK a4 32 [a0.b,a0.l,a1.b,a1.l],zK b2 32 [u2.b,u2.l,v2.b,v2.l],zK b1 32 [u1.b,u1.l,v1.b,v1.l]]) (first:=[]) (cap:=[Vp bl,Vp bo,Vp bd]) rfl rfl rfl q7 zP (ih (A:=A) (u1:=u1) (v1:=v1) (x1:=x1) (u2:=a0) (v2:=a1) (x2:=(Po.mid x1 x2)) (hA:=zL) (hk:=zL)) (.c (j:=1) rfl (.c (j:=2) rfl (.c (j:=3) rfl (.c (j:=4) rfl (.c (j:=0) rfl .n))))) ?_
 rintro ⟨⟩ -
 refine Vc<|zv<|zw (zf (j:=0) 2 zmd rfl rfl rfl rfl)<|zw (za 1 qp rfl rfl (.t4 .nil))<|zw (za 2 qp rfl rfl (.t4 .nil))<|zbQ (A:=[orA bo 74 96 rR (A++(yC L n x1 (Po.mid x1 x2)))]) (F:=[zK a4 32 [a0.b,a0.l,a1.b,a1.l],zK b2 32 [u2.b,u2.l,v2.b,v2.l],zK b1 32 [u1.b,u1.l,v1.b,v1.l]]) (first:=[]) (cap:=[Vp bl,Vp bo,Vp bd]) rfl rfl rfl q7 zP (ih (A:=(A++(yC L n x1 (Po.mid x1 x2)))) (u1:=a0) (v1:=a1) (x1:=(Po.mid x1 x2)) (u2:=u2) (v2:=v2) (x2:=x2) (hA:=by rw [yV];omega) (hk:=zL)) (.c (j:=1) rfl (.c (j:=2) rfl (.c (j:=3) rfl (.c (j:=0) rfl (.c (j:=5) rfl .n))))) ?_
 rintro ⟨⟩ -
 refine jq<|zG<|zje<|ZH (fun w mm=>mm.orCast (l2:=(A++yC L (n+1) x1 x2)) 0 rfl (by rw [hmo,List.append_assoc])) ?_
 dsimp only [yW]
 exact zeg Tryz.results98 () trivial rfl (o0 rfl) sN
theorem zq8 (hnL:L.length=nL) (hmL:nL≤400) (hA:A.length+(yC L n x1 x2).length≤1000000) (hk:Po.isk L n x1 x2):jI Tryz.prog 98 [.agg #[u1.b,u1.l,v1.b,v1.l],.agg #[u2.b,u2.l,v2.b,v2.l],yaf (some ⟨bl,0,none⟩),yaf (some ⟨bo,0,none⟩),yaf (some ⟨bd,0,none⟩)] [orA bo 74 96 (rR) (A)] [j8 bl (0) [.slice (pL) (nL) (cL)],j8 bd (0) [.func (.func 98) #[] #[yaf (some ⟨bl,0,none⟩),yaf (some ⟨bo,0,none⟩),yaf (some ⟨bd,0,none⟩)]],zI (rS (rQ)) (pL) (cL) (L),qF true u1 v1 (x1),qF true u2 v2 (x2)] (Y:=Unit) (fun y=>True) (fun y=> .tuple #[]) (fun y=>[orA bo 74 96 (rR) ((A++(yC L n x1 x2)))]) (fun y=>[]):=by
  induction n generalizing A u1 v1 x1 u2 v2 x2 with
  |zero=>exact hk.elim
  |succ n ih=>exact zpc hnL hmL hA hk (fun A u1 v1 x1 u2 v2 x2 hA hk=>by apply ih <;> assumption)
theorem zhi {p1:Option Addr} {n1:Nat} {c1:Nat} {l1:List (Option Rat)} (hn1:l1.length=n1) (hm1:n1≤1000):CA 114 [.slice p1 n1 c1] [zI rE p1 c1 l1] (.int .i64 ((((yi (yc l1)).length:Nat):Int) - 1)):=by
 refine zg Tryz.func114 rfl rfl (fun c=> ?_)
 refine zN 0 rfl (fun hL0=> ?_)
 have hcl:(yi (yc l1)).length≤n1:=by rw [← hn1,←Po.vT l1];exact Po.vI _
 refine jS 1 rfl<|qJ rfl<|zm (qS rfl) zP (j5 qB qB) (qX 0 rfl) ?_
 rintro ⟨p91,c92⟩ -
 refine kS 1 rfl<|zE (qx rfl rfl w6)<|Zp 1 rfl ?_
 exact zq rfl () trivial (zj rfl) rfl oN sN
theorem zlI {p1:Option Addr} {n1:Nat} {c1:Nat} {l1:List (Option Rat)} {n:Nat} (hn1:l1.length=n1) (hm1:n1≤190) (hok:Po.sok (yc l1)) (hb:Po.bd 40000000000 (yc l1)) (hnz:(yi (yc l1)).length≠0→(yI (yc l1)).length≠0∧(yI (yc l1)).length≤400∧Po.isk (yI (yc l1)) n (-(yr (yi (yc l1)))) (yr (yi (yc l1)))∧(yC (yI (yc l1)) n (-(yr (yi (yc l1)))) (yr (yi (yc l1)))).length≤5):CC 32 [.slice p1 n1 c1] [zI rE p1 c1 l1] (Y:=(Option Addr)×Nat×(List (Rat×Rat))×Int) (fun y=>(y.2.2.2=0∧(yi (yc l1)).length≠0∧y.2.2.1=(yC (yI (yc l1)) n (-(yr (yi (yc l1)))) (yr (yi (yc l1)))))∨(y.2.2.2=14∧(yi (yc l1)).length=0∧y.2.2.1=[])) (fun y=> .tuple #[.slice (y.1) (y.2.2.1.length) (y.2.1),.int .i64 (y.2.2.2)]) (fun y=>[zI rR (y.1) (y.2.1) (y.2.2.1)]):=by
 refine zg Tryz.func32 rfl rfl (fun c=> ?_)
 refine zN 0 rfl (fun hL0=> ?_)
 refine jS 2 rfl<|qJ rfl<|zm (qS rfl) zP (zi7 qB qB qB) (qX 0 rfl) ?_
 rintro ⟨a1,a2⟩ -
 refine zB (zo ztP rfl) (fun b3=> ?_)
 refine zh 0 rfl rfl rfl rfl ztO (.take .nil) .z<|ZI<|vg<|zw (zc 0 zri rfl rfl rfl)<|zE (vL yo rfl)<|vZ 1 rfl<|zx rfl (fun a3=> ?_) (fun a3=> ?_)
 refine Zn 2 rfl<|zD<|QR rR ?_
 have a4:(yi (yc l1)).length=0:=Decidable.byContradiction fun e=>(hnz e).1 om
 exact vD rfl (none,0,([]:List (Rat×Rat)),14) (.inr ⟨rfl,a4,rfl⟩) (zj rfl) (zj rfl) rfl oN (s0 rfl)
 have a0:(yi (yc l1)).length≠0:=fun e=>by have h9:=Po.sturm_zero9 e;omega
 obtain ⟨hne,hlS,hk,hA5⟩:=hnz a0
 have hA:(yC (yI (yc l1)) n (-(yr (yi (yc l1)))) (yr (yi (yc l1)))).length≤1000000:=Oo
 refine k80 1 rfl<|zm (qS rfl) zP (zi8 qB qB (by exact Po.jM hb dd) zL) (qX 1 rfl) ?_
 rintro ⟨a5,a6⟩ -
 refine kS 3 rfl<|zB (zo vh rfl) (fun b6=> ?_)
 refine zh 0 rfl rfl rfl rfl qk (.t4 .nil) .z<|jD 1 rfl<|zB (zo zr74 rfl) (fun b7=> ?_)
 refine Vj<|zB (zo ztR rfl) (fun b8=> ?_)
 refine Vj<|zE (v6 .n (.c rfl (.c rfl (.c rfl .n))))<|zh 0 rfl rfl rfl rfl ztQ (.take .nil) .z<|ZI<|vU 3 rfl (.s (.s (.s .z)))<|vU 0 rfl .z<|Zj 96 rR<|JO (fun w mm=>mm.orClose 2 0 rfl rfl (by rfl)) ?_
 dsimp only [yW]
 refine Vk 4<|vE 0 rfl (zf (j:=0) 0 zmd rfl rfl rfl rfl)<|qy 1 rfl (za 2 qp rfl rfl (.t4 .nil))<|qy 3 rfl (za 2 qp rfl rfl (.t4 .nil))<|zt 2 (zp rfl (qS rfl) zP (zcU (by exact yN (Po.zgz (Po.zaC hb) (Po.QH (Po.vW _) (fun e=>a0 (by rw [e];rfl)))) dd)) (qX 2 rfl) ?_)
 rintro ⟨a7,a8⟩ -
 refine zt 4 (zjm (first:=[]) (cap:=[Vp b3,Vp b7,Vp b8]) (A':=fun y=>orA b7 74 96 rR (([])++(yC (yI (yc l1)) n (- (yr (yi (yc l1)))) (yr (yi (yc l1)))))) kr rfl rfl rfl rfl (.c rfl (.c rfl .n)) zP (zq8 (pL:=a1) (nL:=(yI (yc l1)).length) (cL:=a2) (L:=(yI (yc l1))) (bl:=b3) (bo:=b7) (bd:=b8) (n:=n) (A:=[]) (u1:=a7) (v1:=a8) (x1:= - (yr (yi (yc l1)))) (u2:=a5) (v2:=a6) (x2:=(yr (yi (yc l1)))) (hnL:=by rfl) (hmL:=zL) (hA:=by show 0+_≤_;rw [Nat.zero_add];exact hA) (hk:=zL)) (.c (j:=2) rfl (.c (j:=1) rfl (.c (j:=4) rfl (.c (j:=0) rfl (.c (j:=3) rfl .n))))) ?_)
 rintro ⟨⟩ -
 refine zU kr<|zi<|qe<|zhz (fun w mm=>mm.orOpen 0 rfl) ?_
 rintro ⟨a9,b1⟩ -
 dsimp only [yW]
 refine zv<|zw (zc 0 ztL rfl rfl rfl)<|Zp 2 rfl<|vK 1 rfl (.s .z) ?_
 exact vD rfl (a9,b1,(yC (yI (yc l1)) n (-(yr (yi (yc l1)))) (yr (yi (yc l1)))),0) (.inl ⟨rfl,a0,rfl⟩) (zj rfl) (zj rfl) rfl oN (s0 rfl)
theorem zlJ {p:Option Addr} {cap:Nat} {l:List Cm} (hl7:l.length=7) (hnr:∀jj,jj<7→Ro.nr (l.getD jj yk)):CC 37 [.slice p 7 cap] [zI (rI4 .i64) p cap l] (Y:=(Option Addr)×Nat×(List Ro.Pc)×Int) (fun y=>Ro.Out l y.2.2.1 y.2.2.2) (fun y=> .tuple #[.slice (y.1) (y.2.2.1.length) (y.2.1),.int .i64 (y.2.2.2)]) (fun y=>[zI rPn (y.1) (y.2.1) (y.2.2.1)]):=by
 refine zg Tryz.func37 rfl rfl (fun c=> ?_)
 refine zN 0 rfl (fun hL0=> ?_)
 refine jg 2 rfl<|k12 3 rfl<|qW rfl<|vY<|jK 1 rfl<|qg (qS rfl) zP (ziW qB qB) (qX 0 rfl)<|jD 1 rfl<|vZ 2 rfl<|qW rfl<|k80 1 rfl<|zm (qS rfl) zP (zo4 qB zL qB) (qX 0 rfl) ?_
 rintro ⟨p31,c32⟩ -
 refine zm (qS rfl) zP (zo5 (N:=9) (b:=1) (by exact Ro.zob hl7) dd (by exact Ro.zoc hl7) dd (by exact Ro.zuv hl7 hnr) Oz dd) (qX 0 rfl) ?_
 rintro ⟨p33,c34,M5,qs⟩ hnul
 dsimp only [aq,nq,cq]
 dsimp only at hnul
 refine jn 5 rfl<|jK 1 rfl<|zE (vL yn rfl)<|vZ 1 rfl<|zx rfl (fun d6=> ?_) (fun d6=> ?_)
 refine Zn 2 rfl<|zD<|QR rPn ?_
 exact vD Tryz.results37 (none,0,([]:List Ro.Pc),13) (.inl ⟨rfl,rfl⟩) (zj rfl) (zj rfl) rfl (ho:=oN) (s0 rfl)
 have d7:(Ro.nl 9 M5 qs 9).length=2:=Oo
 obtain ⟨v0,v1,j0,j1,hnl,hTwo⟩:=Ro.zpU hnul.1 d7
 have e5:(Ro.nl 9 M5 qs 9:List (List Rat))=[v0,v1]:=by exact hnl
 rw [e5]
 obtain ⟨a5,a6,hcb⟩:=Ro.zs5 hl7 hnr hTwo
 obtain ⟨kk,d8,d9,a3⟩:=Ro.zqr hcb
 have h2l:([v0,v1]:List (List Rat)).length=2:=rfl
 refine vY<|Jo 100000<|zQ 0 rfl rfl<|jc 1 rfl (zM (x0:=(([v0,v1]).getD 0 [])) 0 0 rfl yn vC rfl zL rfl rfl (gD (d:=[]) om)) ?_
 rintro ⟨b6,o7,p8,c9⟩ -
 refine vE 2 rfl (zf (j:=0) 0 vF rfl rfl rfl rfl)<|zQ 4 rfl rfl<|jc 5 rfl (zM (x0:=(([v0,v1]).getD 1 [])) 2 1 rfl yn vC rfl zL rfl rfl (gD (d:=[]) om)) ?_
 rintro ⟨b10,o11,b8,b9⟩ -
 refine vE 6 rfl (zf (j:=0) 0 vF rfl rfl rfl rfl) ?_
 have e0:(.slice p8 ((([v0,v1]).getD 0 []).length) c9:Value)= .slice p8 9 c9:=by rw [show (([v0,v1]:List (List Rat)).getD 0 []).length=9 from hTwo.l0]
 rw [e0]
 refine zt 3 (zp rfl (qS rfl) zP (K9 (by exact hTwo.l0)) (qX 3 rfl) ?_)
 rintro ⟨c1,c2⟩ -
 have e3:(ys (([v0,v1]).getD 0 []):List (List Rat))=ys v0:=by rfl
 rw [e3]
 have e4:(.slice b8 ((([v0,v1]).getD 1 []).length) b9:Value)= .slice b8 9 b9:=by rw [show (([v0,v1]:List (List Rat)).getD 1 []).length=9 from hTwo.l1]
 rw [e4]
 refine zt 7 (zp rfl (qS rfl) zP (K9 (by exact hTwo.l1)) (qX 2 rfl) ?_)
 rintro ⟨g2,g3⟩ -
 have e6:(ys (([v0,v1]).getD 1 []):List (List Rat))=ys v1:=by rfl
 rw [e6]
 refine zC 8 rfl (zT rfl) ?_
 refine zC 9 rfl (zT rfl) ?_
 refine zU kr<|zi<|jK 2 rfl<|zm (.c rfl (.c rfl .n)) zP (zo8 (by first|rfl|assumption|omega|exact ⟨Oo,Oo⟩|exact hTwo.l0|exact hTwo.l1|decide|exact yQ) (by first|rfl|assumption|omega|exact ⟨Oo,Oo⟩|exact hTwo.l0|exact hTwo.l1|decide|exact yQ) (by exact a5) (by exact a6)) (vj 1 0 rfl rfl) ?_
 rintro ⟨g4,g5⟩ -
 refine jD 1 rfl<|qJ rfl<|vd (jC 0 rfl)<|zm (qS rfl) zP (zlI (n:=kk) (by exact yM _) (by have:=Ro.zfj (ye v0) (ye v1);show (Ro.KA v0 v1).length≤190;show (Ro.chP (ye v0) (ye v1)).length≤190;omega) (by rw [yg];exact d8) (by rw [yg];exact d9) (by rw [yg];exact a3)) (qX 0 rfl) ?_
 rintro ⟨g6,g7,I9,cd⟩ hiso
 dsimp only [aq,nq,cq]
 dsimp only at hiso
 refine jn 5 rfl<|k12 2 rfl<|zx rfl (fun e7=> ?_) (fun e7=> ?_)
 refine Zn 2 rfl<|zD<|QR rPn ?_
 exact vD Tryz.results37 (none,0,([]:List Ro.Pc),13) (.inl ⟨rfl,rfl⟩) (zj rfl) (zj rfl) rfl (ho:=oN) (s0 rfl)
 rw [yg] at hiso
 have a4:Ro.Hid _:=⟨hiso.resolve_right (fun z=>by have h9:=z.1;omega)⟩
 clear hiso
 have g8:I9.length≤5:=by rw [a4.out.2.2];exact (a3 a4.out.2.1).2.2.2
 have hcc:yi (Ro.KA v0 v1)=Ro.KA v0 v1:=Ro.zn2 _ _
 refine k83 1 rfl<|qe<|Zj 98 rPn<|vM 1 rfl<|zE (vL yv rfl)<|vZ 1 rfl<|zk<|z5 (X:=Nat×(Option Addr)×Nat×(List Ro.Pc)) (fun x=>x.1≤I9.length∧x.2.2.2=((I9.take x.1).map (Ro.pen v0 v1))) (fun x=>[(12,.slice (x.2.1) (x.2.2.2.length) (x.2.2.1)),(53,Vi x.1)]) [52,51,9,7,5] (fun x=>[rowA 98 rPn (x.2.1) (x.2.2.1) (x.2.2.2)]) (fun x=>[]) [0,1,2,4,9] (fun x=>I9.length - x.1) (0,none,0,([]:List Ro.Pc)) (by exact ⟨yO _,rfl⟩) (.e rfl vA (.e rfl vA .n)) ((.e (i:=0) rfl vA .n):zJ _ _ _) sN ?_
 rintro ⟨i,pL,cL,A⟩ hI
 dsimp only at hI
 obtain ⟨hi,hA⟩:=hI
 have hAl:A.length=i:=by rw [hA,yM,yP];omega
 refine jg 1 rfl<|zx rfl (fun e8=> ?_) (fun e8=> ?_)
 refine vY<|zk<|vg<|vX (zM (x0:=(I9.getD i ((0:Rat),(0:Rat)))) 0 i rfl yv zkM rfl zL rfl rfl (gD (d:=((0:Rat),(0:Rat))) om)) ?_
 rintro ⟨b27,o28,a7,a8,a9,b1⟩ -
 refine vd zq7<|zw (zA (j:=0) 0 ztM rfl rfl rfl (.t8 .nil))<|zB (zo zsf rfl) (fun b34=> ?_)
 refine zh 0 rfl rfl rfl rfl zkM (.t8 .nil) .z<|Vc<|vk (.c (i:=1) rfl (.c (i:=0) rfl .n))<|Vk 12<|zQ 0 rfl rfl<|zQ 1 rfl rfl<|jc 2 rfl (zM (x0:=(([v0,v1]).getD 0 [])) 7 0 rfl yn vC rfl zL rfl rfl (gD (d:=[]) om)) ?_
 rintro ⟨b35,o36,c3,c4⟩ -
 refine vE 3 rfl (zf (j:=0) 0 vF rfl rfl rfl rfl)<|zQ 5 rfl rfl<|jc 6 rfl (zM (x0:=(([v0,v1]).getD 1 [])) 9 1 rfl yn vC rfl zL rfl rfl (gD (d:=[]) om)) ?_
 rintro ⟨b39,o40,c5,c6⟩ -
 refine vE 7 rfl (zf (j:=0) 0 vF rfl rfl rfl rfl)<|qy 9 rfl (za 1 ztM rfl rfl (.t8 .nil)) ?_
 have e9:(.slice c3 ((([v0,v1]).getD 0 []).length) c4:Value)= .slice c3 9 c4:=by rw [show (([v0,v1]:List (List Rat)).getD 0 []).length=9 from hTwo.l0]
 rw [e9]
 refine zt 4 (zp rfl (qS rfl) zP (K9 (by exact hTwo.l0)) (qX 3 rfl) ?_)
 rintro ⟨c7,c8⟩ -
 have f0:(ys (([v0,v1]).getD 0 []):List (List Rat))=ys v0:=by rfl
 rw [f0]
 have f1:(.slice c5 ((([v0,v1]).getD 1 []).length) c6:Value)= .slice c5 9 c6:=by rw [show (([v0,v1]:List (List Rat)).getD 1 []).length=9 from hTwo.l1]
 rw [f1]
 refine zt 8 (zp rfl (qS rfl) zP (K9 (by exact hTwo.l1)) (qX 2 rfl) ?_)
 rintro ⟨d0,d1⟩ -
 dsimp only [aq,nq,cq]
 have f2:(ys (([v0,v1]).getD 1 []):List (List Rat))=ys v1:=by rfl
 rw [f2]
 refine KR 10 rfl rfl (qr ztN rfl yp (.c zdu (.c zdu (.c zkM .n))) (.c rfl (.c rfl (.c rfl .n))) (.c rfl rfl rfl (.take .nil) (.c rfl rfl rfl (.skip (.take .nil)) (.c rfl rfl rfl (.s2 (.t8 .nil)) .n)))) ?_
 refine zt 11 (zl0 rfl rfl rfl rfl (qA (r:=rPn) (k:=1) yq zjo rfl dd dd dd (.c (x:=(((ys v0),(ys v1),((I9.getD i ((0:Rat),(0:Rat))).1),((I9.getD i ((0:Rat),(0:Rat))).2)):Pn)) (cs:=[.slice c7 3 c8,.slice d0 3 d1,a7.b,a7.l,a8.b,a8.l,a9.b,a9.l,b1.b,b1.l]) (c7,c8,d0,d1,a7,a8,a9,b1) rfl rfl rfl (fun g hr=>⟨Holds.get 1 rfl hr,Holds.get 0 rfl hr,Holds.get 7 rfl hr,Holds.get 8 rfl hr⟩) .n)) (fun b51 _=> ?_))
 refine Qw 0 rfl .z<|zt 12 (zcm (A':=fun v:Option Addr×Nat=>rowA 98 rPn v.1 v.2 (A++([(((ys v0),(ys v1),((I9.getD i ((0:Rat),(0:Rat))).1),((I9.getD i ((0:Rat),(0:Rat))).2)):Pn)]))) kr rfl rfl rfl (qT 0 rfl yq zjo dd rfl rfl zL rfl zL om om) ?_)
 rintro ⟨f3,f4⟩ -
 refine zC 13 rfl (zT rfl)<|zU kr<|zG<|zi<|zv<|zE (qj rfl rfl)<|qY 1 rfl<|zW ((i+1),f3,f4,(A++([(((ys v0),(ys v1),((I9.getD i ((0:Rat),(0:Rat))).1),((I9.getD i ((0:Rat),(0:Rat))).2)):Pn)]))) (by exact ⟨Oo,by rw [hA];exact Ro.zaL om⟩) om ((.e rfl (by simp) (.of rfl))) (o0 rfl) ((.of [10,11,12,13,14] rfl))
 refine z7<|ze<|ze<|zn<|zi<|qe<|jK 1 rfl<|qg (qS rfl) zP (zhi (by exact yM _) (by have:=Ro.zfj (ye v0) (ye v1);show (Ro.chP (ye v0) (ye v1)).length≤1000;omega)) (qX 1 rfl)<|vZ 1 rfl<|zx rfl (fun b4=> ?_) (fun b4=> ?_)
 refine vg<|zm (qS rfl) zP (j4 zL) (.n) ?_
 rintro ⟨a0,a1⟩ -
 refine zB (zo vh rfl) (fun b56=> ?_)
 refine zh 0 rfl rfl rfl rfl qk (.t4 .nil) .z<|Vc<|vk (.c (i:=1) rfl (.c (i:=0) rfl .n))<|Vk 11<|zQ 0 rfl rfl<|qy 1 rfl (za 1 qp rfl rfl (.t4 .nil))<|zQ 5 rfl rfl<|qy 6 rfl (za 1 qp rfl rfl (.t4 .nil))<|qy 7 rfl (za 1 qp rfl rfl (.t4 .nil))<|zC 8 rfl (qr zsf rfl yt (.c qk (.c qk .n)) (.c rfl (.c rfl .n)) (.c rfl rfl rfl (.t4 .nil) (.c rfl rfl rfl (.s4 (.t4 .nil)) .n)))<|zt 2 (V5 rfl (qA (r:=rE) (k:=1) yd jf rfl dd dd dd (.c (x:=(some ((0:Int):Rat))) (cs:=[a0.b,a0.l,a1.b,a1.l]) (a0,a1) rfl rfl rfl (fun g hr=>Kz (Holds.get 0 rfl hr)) .n)) (fun b57 _=> ?_))
 refine Qw 0 rfl .z<|zt 3 (zp rfl (q7 rfl rfl) zP zi4 (qX 0 rfl) ?_)
 rintro ⟨g9,h0⟩ -
 refine zt 4 (zp rfl (qS rfl) zP (K9 (by exact yQ)) (qX 0 rfl) ?_)
 rintro ⟨d4,d5⟩ -
 dsimp only [aq,nq,cq]
 refine zC 9 rfl (qr ztN rfl yp (.c zdu (.c zdu (.c zkM .n))) (.c rfl (.c rfl (.c rfl .n))) (.c rfl rfl rfl (.take .nil) (.c rfl rfl rfl (.skip (.take .nil)) (.c rfl rfl rfl (.s2 (.t8 .nil)) .n)))) ?_
 refine zt 10 (V5 rfl (qA (r:=rPn) (k:=1) yq zjo rfl dd dd dd (.c (x:=(((ys (yS 9 ((0:Int):Rat))),(ys v0),((0:Int):Rat),((0:Int):Rat)):Pn)) (cs:=[.slice d4 3 d5,.slice c1 3 c2,a0.b,a0.l,a1.b,a1.l,a0.b,a0.l,a1.b,a1.l]) (d4,d5,c1,c2,a0,a1,a0,a1) rfl rfl rfl (fun g hr=>⟨Holds.get 0 rfl hr,Holds.get 7 rfl hr,Holds.get 3 rfl hr,Holds.get 3 rfl hr⟩) .n)) (fun b62 _=> ?_))
 refine Qw 0 rfl .z<|zt 11 (zcm (A':=fun v:Option Addr×Nat=>rowA 98 rPn v.1 v.2 (A++([(((ys (yS 9 ((0:Int):Rat))),(ys v0),((0:Int):Rat),((0:Int):Rat)):Pn)]))) kr rfl rfl rfl (qT 0 rfl yq zjo dd rfl rfl zL rfl zL om om) ?_)
 rintro ⟨f5,f6⟩ -
 refine zC 12 rfl (zT rfl)<|zU kr<|zi<|Zn 3 rfl ?_
 obtain ⟨f7,hcn,hIe⟩:=a4.out
 obtain ⟨f8,f9,b5,b7⟩:=a3 hcn
 have hAm:A=I9.map (Ro.pen v0 v1):=by rw [hA,yR om]
 have a2:(Ro.KA v0 v1).length<4:=by have h9:=b4;rw [yg,hcc] at h9;omega
 have g0:(A++([(((ys (yS 9 ((0:Int):Rat))),(ys v0),((0:Int):Rat),((0:Int):Rat)):Pn)]))=(Ro.sv v0 v1 I9):=by rw [hAm,Ro.sv,if_pos a2];rfl
 rw [g0]
 have hvl:(Ro.sv v0 v1 I9).length=A.length+1:=by rw [Ro.sv,if_pos a2,←hAm];exact yV
 refine vK 0 rfl .z ?_
 exact vD rfl (f5,f6,(Ro.sv v0 v1 I9),0) (.inr ⟨rfl,v0,v1,j0,j1,kk,hTwo,a5,a6,by rw [← hcc];exact hcn,b5,b7,by rw [hIe]⟩) (zj rfl) (zj rfl) (by rw [hvl]) oN (s0 rfl)
 refine k85 3 rfl ?_
 obtain ⟨f7,hcn,hIe⟩:=a4.out
 obtain ⟨f8,f9,b5,b7⟩:=a3 hcn
 have hAm:A=I9.map (Ro.pen v0 v1):=by rw [hA,yR om]
 have a2:¬(Ro.KA v0 v1).length<4:=by have h9:=b4;rw [yg,hcc] at h9;omega
 have g1:A=(Ro.sv v0 v1 I9):=by rw [hAm,Ro.sv,if_neg a2,yaa]
 rw [g1]
 have hvl:(Ro.sv v0 v1 I9).length=A.length:=by rw [Ro.sv,if_neg a2,yaa,←hAm]
 refine vK 0 rfl .z ?_
 exact vD rfl (pL,cL,(Ro.sv v0 v1 I9),0) (.inr ⟨rfl,v0,v1,j0,j1,kk,hTwo,a5,a6,by rw [← hcc];exact hcn,b5,b7,by rw [hIe]⟩) (zj rfl) (zj rfl) (by rw [hvl]) oN (s0 rfl)
end Sp
namespace Ro
open Mx Big Td Po
abbrev zhj (s:St) (x y z:Int):Nat→Rat:=fun j=>(dv s x y z).getD j 0
theorem zi9 (s:St) (x y z:Int) {i:Nat} (hi:i<3):(dd s x y z).getD i 0=app (V1 (K7 s)) (zhj s x y z) i:=by
  unfold dd
  rw [zoC _ _ hi,zqL]
theorem zpd {s:St} {x y z a b:Int} (h2:(dd s x y z).getD 2 0≠0) (ha:((a:Int):Rat)=(im s x y z).getD 0 0) (hb:((b:Int):Rat)=(im s x y z).getD 1 0):
    ∀i,i<3→Jq s (zhj s x y z) i=(dd s x y z).getD 2 0*((([a,b,1]:List Int).getD i 0:Int):Rat):=fun i hi=>by
  have e0:=zi9 s x y z (i:=0) Od
  have e1:=zi9 s x y z (i:=1) Od
  have e2:=zi9 s x y z (i:=2) Od
  have ha:(a:Rat)=(s.f:Rat)*(dd s x y z).getD 0 0 / (dd s x y z).getD 2 0+(s.u:Rat):=ha
  have hb:(b:Rat)=(s.f:Rat)*(dd s x y z).getD 1 0 / (dd s x y z).getD 2 0+(s.v:Rat):=hb
  unfold Jq
  rcases n3 hi with rfl|rfl|rfl
  · rw [zuF, ← e0, ← e2]
    show _=_*((a:Int):Rat)
    rw [ha]
    have:=Rat.div_mul_cancel (a:=(s.f:Rat)*(dd s x y z).getD 0 0) h2
    grind
  · rw [zuG, ← e1, ← e2]
    show _=_*((b:Int):Rat)
    rw [hb]
    have:=Rat.div_mul_cancel (a:=(s.f:Rat)*(dd s x y z).getD 1 0) h2
    grind
  · rw [zuH, ← e2]
    show _=_*((1:Int):Rat)
    rw [i1];grind
theorem ztr {s t:St} (hs:s.ok) (ht:t.ok) {q:Rd.Cm} (h:rel s t q):dt3 (fun i=>((([q.d,q.w,1]:List Int).getD i 0:Int):Rat)) (app (fm s t) (fun i=>((([q.a,q.b,1]:List Int).getD i 0:Int):Rat)))=0:=by
  obtain ⟨x,y,z,_,⟨h1,h2,h3⟩,k1,k2,k3⟩:=h
  have e1:=zpd h1 h2 h3
  have e2:=zpd k1 k2 k3
  have h:=zoA hs ht (zhj t x y z) (zhj s x y z)
  rw [zbk (v:=app (fm s t) (Jq s (zhj s x y z))) (fun j _=>ZY e1 j),W2 e2] at h
  have c:=zaR s t (zhj s x y z)
  have z0:dt3 (zhj t x y z) (app (crs s t) (zhj s x y z))=0:=by
    unfold dt3
    rw [c.1,c.2.1,c.2.2]
    show ((x - t.x:Int):Rat)*(-((t.z:Rat) - s.z)*((y - s.y:Int):Rat)+((t.y:Rat) - s.y)*((z - s.z:Int):Rat))+((y - t.y:Int):Rat)*(((t.z:Rat) - s.z)*((x - s.x:Int):Rat) - ((t.x:Rat) - s.x)*((z - s.z:Int):Rat))+((z - t.z:Int):Rat)*(-((t.y:Rat) - s.y)*((x - s.x:Int):Rat)+((t.x:Rat) - s.x)*((y - s.y:Int):Rat))=0
    simp only [Rat.intCast_sub]
    grind
  rw [z0] at h
  unfold dt3 at h ⊢
  simp only [W0] at h ⊢
  generalize (dd s x y z).getD 2 0=m at*
  generalize (dd t x y z).getD 2 0=n at*
  generalize (([q.d,q.w,1]:List Int).getD 0 0:Int)=u0 at*
  generalize (([q.d,q.w,1]:List Int).getD 1 0:Int)=u1 at*
  generalize (([q.d,q.w,1]:List Int).getD 2 0:Int)=u2 at*
  generalize (([q.a,q.b,1]:List Int).getD 0 0:Int)=v0 at*
  generalize (([q.a,q.b,1]:List Int).getD 1 0:Int)=v1 at*
  generalize (([q.a,q.b,1]:List Int).getD 2 0:Int)=v2 at*
  have h':n*(m*((u0:Rat)*(e (fm s t) 0 0*v0+e (fm s t) 0 1*v1+e (fm s t) 0 2*v2)+(u1:Rat)*(e (fm s t) 1 0*v0+e (fm s t) 1 1*v1+e (fm s t) 1 2*v2)+(u2:Rat)*(e (fm s t) 2 0*v0+e (fm s t) 2 1*v1+e (fm s t) 2 2*v2)))=0:=by rw [← h];grind
  exact (yT.1 ((yT.1 h').resolve_left k1)).resolve_left h1
theorem zq9 {s t:St} (hs:s.ok) (ht:t.ok) {q:Rd.Cm} (h:rel s t q):sm 9 (fun c=>(rv q).getD c 0*(Vx s t).getD c 0)=0:=by
  have h:=ztr hs ht h
  unfold dt3 at h
  simp only [W0] at h
  have r:=fun c (hc:c<9)=>ziq q hc
  have f:=fun i j (hi:i<3) (hj:j<3)=>zca s t hi hj
  show (((((((((0:Rat)+_)+_)+_)+_)+_)+_)+_)+_)+_=0
  dsimp only
  rw [r 0 Od,r 1 Od,r 2 Od,r 3 Od,r 4 Od,r 5 Od,r 6 Od,r 7 Od,r 8 Od]
  rw [show (Vx s t).getD 0 0=e (fm s t) 0 0 from f 0 0 Od Od,show (Vx s t).getD 1 0=e (fm s t) 0 1 from f 0 1 Od Od,show (Vx s t).getD 2 0=e (fm s t) 0 2 from f 0 2 Od Od,show (Vx s t).getD 3 0=e (fm s t) 1 0 from f 1 0 Od Od,show (Vx s t).getD 4 0=e (fm s t) 1 1 from f 1 1 Od Od,show (Vx s t).getD 5 0=e (fm s t) 1 2 from f 1 2 Od Od,show (Vx s t).getD 6 0=e (fm s t) 2 0 from f 2 0 Od Od,show (Vx s t).getD 7 0=e (fm s t) 2 1 from f 2 1 Od Od,show (Vx s t).getD 8 0=e (fm s t) 2 2 from f 2 2 Od Od]
  simp only [Rat.intCast_mul,List.getD_cons_zero,List.getD_cons_succ,Nat.reduceMod,Nat.reduceDiv] at h ⊢
  rw [← h];grind
theorem zts {s t:St} (hs:s.ok) (ht:t.ok) (hne:¬(s.x=t.x∧s.y=t.y∧s.z=t.z)):T3 (vf (Vx s t)) (vf (Vx s t)) (vf (Vx s t))=0:=by
  let d:Nat→Rat:=fun j=>([(t.x:Rat) - s.x,(t.y:Rat) - s.y,(t.z:Rat) - s.z]:List Rat).getD j 0
  have d0:d 0=(t.x:Rat) - s.x:=rfl
  have d1:d 1=(t.y:Rat) - s.y:=rfl
  have d2:d 2=(t.z:Rat) - s.z:=rfl
  have c:=zaR s t d
  have hz:∀j,j<3→app (crs s t) d j=(fun _=>0) j:=fun j hj=>by
    rcases n3 hj with rfl|rfl|rfl
    · rw [c.1,d1,d2];grind
    · rw [c.2.1,d0,d2];grind
    · rw [c.2.2,d0,d1];grind
  have z3:∀A:Mt,∀j,app A (fun _=>0) j=0:=fun A j=>by rw [W0];grind
  have hnul:∀i,i<3→app (fm s t) (Jq s d) i=0:=fun i hi=>by
    rw [zoz hs d i hi,ZY (fun j _=>ZY hz j) i,ZY (fun j _=>z3 _ j) i,z3]
  have hw:∃i,i<3∧Jq s d i≠0:=yab fun hn=>by
    have h0:∀i,i<3→Jq s d i=(fun _=>0) i:=fun i hi=>yab fun k=>hn ⟨i,hi,k⟩
    have h1:∀i,i<3→app (V1 (K7 s)) d i=(fun _=>0) i:=fun i hi=>by
      rw [← zft hs.f1 (app (V1 (K7 s)) d) i hi]
      exact (ZY h0 i).trans (z3 _ i)
    have h2:∀i,i<3→d i=0:=fun i hi=>by
      rw [← ziy hs.q d i hi]
      exact (ZY h1 i).trans (z3 _ i)
    have a0:=h2 0 Od;have a1:=h2 1 Od;have a2:=h2 2 Od
    rw [d0] at a0;rw [d1] at a1;rw [d2] at a2
    exact hne ⟨zbl a0,zbl a1,zbl a2⟩
  have n0:=hnul 0 Od;have n1:=hnul 1 Od;have n2:=hnul 2 Od
  rw [W0] at n0 n1 n2
  have f:=fun i j (hi:i<3) (hj:j<3)=>zca s t hi hj
  unfold T3 vf
  rw [show (Vx s t).getD 0 0=e (fm s t) 0 0 from f 0 0 Od Od,show (Vx s t).getD 1 0=e (fm s t) 0 1 from f 0 1 Od Od,show (Vx s t).getD 2 0=e (fm s t) 0 2 from f 0 2 Od Od,show (Vx s t).getD 3 0=e (fm s t) 1 0 from f 1 0 Od Od,show (Vx s t).getD 4 0=e (fm s t) 1 1 from f 1 1 Od Od,show (Vx s t).getD 5 0=e (fm s t) 1 2 from f 1 2 Od Od,show (Vx s t).getD 6 0=e (fm s t) 2 0 from f 2 0 Od Od,show (Vx s t).getD 7 0=e (fm s t) 2 1 from f 2 1 Od Od,show (Vx s t).getD 8 0=e (fm s t) 2 2 from f 2 2 Od Od]
  generalize e (fm s t) 0 0=m0 at*
  generalize e (fm s t) 0 1=m1 at*
  generalize e (fm s t) 0 2=m2 at*
  generalize e (fm s t) 1 0=m3 at*
  generalize e (fm s t) 1 1=m4 at*
  generalize e (fm s t) 1 2=m5 at*
  generalize e (fm s t) 2 0=m6 at*
  generalize e (fm s t) 2 1=m7 at*
  generalize e (fm s t) 2 2=m8 at*
  obtain ⟨i,hi,hwi⟩:=hw
  rcases n3 hi with rfl|rfl|rfl
  · have:Jq s d 0*(m0*(m4*m8 - m5*m7) - m1*(m3*m8 - m5*m6)+m2*(m3*m7 - m4*m6))=0:=by
      have:Jq s d 0*(m0*(m4*m8 - m5*m7) - m1*(m3*m8 - m5*m6)+m2*(m3*m7 - m4*m6))=(m4*m8 - m5*m7)*(m0*Jq s d 0+m1*Jq s d 1+m2*Jq s d 2) - (m1*m8 - m2*m7)*(m3*Jq s d 0+m4*Jq s d 1+m5*Jq s d 2)+(m1*m5 - m2*m4)*(m6*Jq s d 0+m7*Jq s d 1+m8*Jq s d 2):=Og
      rw [this,n0,n1,n2];grind
    exact (yT.1 this).resolve_left hwi
  · have:Jq s d 1*(m0*(m4*m8 - m5*m7) - m1*(m3*m8 - m5*m6)+m2*(m3*m7 - m4*m6))=0:=by
      have:Jq s d 1*(m0*(m4*m8 - m5*m7) - m1*(m3*m8 - m5*m6)+m2*(m3*m7 - m4*m6))= -(m3*m8 - m5*m6)*(m0*Jq s d 0+m1*Jq s d 1+m2*Jq s d 2)+(m0*m8 - m2*m6)*(m3*Jq s d 0+m4*Jq s d 1+m5*Jq s d 2) - (m0*m5 - m2*m3)*(m6*Jq s d 0+m7*Jq s d 1+m8*Jq s d 2):=Og
      rw [this,n0,n1,n2];grind
    exact (yT.1 this).resolve_left hwi
  · have:Jq s d 2*(m0*(m4*m8 - m5*m7) - m1*(m3*m8 - m5*m6)+m2*(m3*m7 - m4*m6))=0:=by
      have:Jq s d 2*(m0*(m4*m8 - m5*m7) - m1*(m3*m8 - m5*m6)+m2*(m3*m7 - m4*m6))=(m3*m7 - m4*m6)*(m0*Jq s d 0+m1*Jq s d 1+m2*Jq s d 2) - (m0*m7 - m1*m6)*(m3*Jq s d 0+m4*Jq s d 1+m5*Jq s d 2)+(m0*m4 - m1*m3)*(m6*Jq s d 0+m7*Jq s d 1+m8*Jq s d 2):=Og
      rw [this,n0,n1,n2];grind
    exact (yT.1 this).resolve_left hwi
def j3 (s t:St):List Rat:=ZM (jN (Vx s t))
theorem zra (s t:St):(j3 s t).length=9:=K8 s t
theorem VM {l:List Rat} (h:l.length=9):(Qu l).flatten=l:=by
  match l,h with
  |[a,b,c,d,e,f,g,i,j],_=>rfl
theorem zky {l:List Rat} (h:l.length=9):m33 (Qu l):=⟨rfl,fun i hi=>zaM h hi⟩
theorem ztt {s t:St} (hs:s.ok) (ht:t.ok) (hne:¬(s.x=t.x∧s.y=t.y∧s.z=t.z)) (i:Nat):hq ((j3 s t).getD i 0)≤3000000:=by
  unfold j3
  rw [zgS]
  have h1:=zkf (zfu hs ht hne) (fun i=>zoo (fun i=>zow hs ht i) i) i
  have h2:=zcC ((jN (Vx s t)).getD i 0)
  rw [JC] at h1
  omega
theorem zdp {S:List (List Rat)}:∀(n:Nat) (a b:Rat),isk S n a b→∀q,q∈K0 S n a b→hq q.1≤100000000000∧hq q.2≤100000000000
  |0,_,_,h,_,_=>h.elim
  |n+1,a,b,h,q,hq=>by
    by_cases h0:bt S a b=0
    · rw [zc5 h0] at hq;cases hq
    · by_cases h1 : bt S a b = 1
      · rw [zb1 h1] at hq
        rw [yY.1 hq]
        exact ⟨h.1.1,h.1.2.1⟩
      · rw [zaH h0 h1] at hq
        have k:=h.2 h0 h1
        rcases yZ.1 hq with hq|hq
        · exact zdp n _ _ k.1 q hq
        · exact zdp n _ _ k.2 q hq
theorem zfD:z9.length=9:=rfl
theorem zja (i:Nat):z9.getD i 0=0:=by
  by_cases h:i<9
  · unfold z9
    rw [yU,List.getElem?_replicate,if_pos h];exact z0
  · rw [yU,List.getElem?_eq_none (by rw [zfD];omega)];rfl
theorem out_ok {l:List Rd.Cm} (hl:l.length=7) (hn:∀jj,jj<7→nr (l.getD jj yk)) {L:List Pc} {code:Int} (h:Out l L code):∀q,q∈L→okP q:=fun q hq=>by
  rcases h with ⟨_,rfl⟩|⟨_,v0,v1,j0,j1,n,hT,a8,b8,hc,hk,_,rfl⟩
  · cases hq
  · have f0 : ∀ i, yh ((Qu v0).flatten.getD i 0) ≤ 1000 := fun i => by rw [VM hT.l0]; exact yN (a8 i) Od
    rcases yZ.1 hq with hq|hq
    · obtain ⟨I, hI, rfl⟩ := List.mem_map.1 hq
      have he:=zdp _ _ _ hk I hI
      exact ⟨zky hT.l0,zky hT.l1,f0,fun i=>by show yh ((Qu v1).flatten.getD i 0)≤1000;rw [VM hT.l1];exact yN (b8 i) Od,he.1,he.2⟩
    · by_cases h4 : (KA v0 v1).length < 4
      · rw [if_pos h4] at hq
        rw [yY.1 hq]
        refine ⟨zky zfD,zky hT.l0,fun i=> ?_,f0,?_,?_⟩
        · show yh ((Qu z9).flatten.getD i 0) ≤ 1000
          rw [VM zfD,zja,vN];decide
        · show yh ((0:Int):Rat)≤_;decide
        · show yh ((0:Int):Rat)≤_;decide
      · rw [if_neg h4] at hq;cases hq
theorem zrb {s t:St} (hs:s.ok) (ht:t.ok) (hne:¬(s.x=t.x∧s.y=t.y∧s.z=t.z)) {l:List Rd.Cm} (hl:l.length=7) (hr:∀z,z∈l→rel s t z) {L:List Pc} (h:Out l L 0):∃q,q∈L∧zq4 (j3 s t) q:=by
  rcases h with ⟨h,_⟩|⟨_,v0,v1,j0,j1,n,hT,_,_,hc,hk,_,rfl⟩
  · omega
  obtain ⟨k,hk0,hkm⟩:=zos (zfu hs ht hne)
  rw [JC] at hkm
  have hG:∀c,c<9→(j3 s t).getD c 0=k*(Vx s t).getD c 0:=fun c hc=>by unfold j3;rw [zgS];exact hkm c hc
  have hnul:Nul 9 7 (rm l) (fun c=>(j3 s t).getD c 0):=fun i hi=>by
    have e1:sm 9 (fun c=>e (rm l) i c*(j3 s t).getD c 0)=sm 9 (fun c=>k*((rv (l.getD i yk)).getD c 0*(Vx s t).getD c 0)):=vo fun c hc=>by
      rw [hG c hc]
      have:e (rm l) i c=(rv (l.getD i yk)).getD c 0:=by
        show ((l.map rv).getD i []).getD c 0=_
        rw [JX (d:=yk) Oo]
      rw [this];grind
    rw [e1,Vo,zq9 hs ht (hr _ (get_mem Oo))];grind
  have hall:=hT.all _ hnul
  have hdet:T3 (vf (j3 s t)) (vf (j3 s t)) (vf (j3 s t))=0:=by
    have h0:=zts hs ht hne
    unfold T3 vf at h0 ⊢
    rw [hG 0 Od,hG 1 Od,hG 2 Od,hG 3 Od,hG 4 Od,hG 5 Od,hG 6 Od,hG 7 Od,hG 8 Od]
    generalize (Vx s t).getD 0 0=m0 at*
    generalize (Vx s t).getD 1 0=m1 at*
    generalize (Vx s t).getD 2 0=m2 at*
    generalize (Vx s t).getD 3 0=m3 at*
    generalize (Vx s t).getD 4 0=m4 at*
    generalize (Vx s t).getD 5 0=m5 at*
    generalize (Vx s t).getD 6 0=m6 at*
    generalize (Vx s t).getD 7 0=m7 at*
    generalize (Vx s t).getD 8 0=m8 at*
    have:k*m0*(k*m4*(k*m8) - k*m5*(k*m7)) - k*m1*(k*m3*(k*m8) - k*m5*(k*m6))+k*m2*(k*m3*(k*m7) - k*m4*(k*m6))=k*k*k*(m0*(m4*m8 - m5*m7) - m1*(m3*m8 - m5*m6)+m2*(m3*m7 - m4*m6)):=Og
    rw [this,h0];grind
  have hj0:j0<9:=Nat.lt_trans hT.lt hT.hN
  generalize hp:(j3 s t).getD j0 0=p at hall
  generalize hq:(j3 s t).getD j1 0=q at hall
  have hall:∀c,c<9→(j3 s t).getD c 0=p*v0.getD c 0+q*v1.getD c 0:=fun c hc=>hall c hc
  by_cases hq0:q=0
  · -- the last pencil
    subst hq0
    have hp0:p≠0:=fun z=>by
      obtain ⟨i,hi,hi0⟩:=zfu hs ht hne
      rw [JC] at hi
      have h1:=hG i hi
      rw [hall i hi,z] at h1
      have h2:k*(Vx s t).getD i 0=0:=by rw [← h1];grind
      rcases yT.1 h2 with h|h
      · exact hk0 h
      · exact hi0 h
    have hlow:T3 (vf v0) (vf v0) (vf v0)=0:=by
      unfold T3 vf at hdet ⊢
      rw [hall 0 Od,hall 1 Od,hall 2 Od,hall 3 Od,hall 4 Od,hall 5 Od,hall 6 Od,hall 7 Od,hall 8 Od] at hdet
      have:p*(p*(p*(v0.getD 0 0*(v0.getD 4 0*v0.getD 8 0 - v0.getD 5 0*v0.getD 7 0) - v0.getD 1 0*(v0.getD 3 0*v0.getD 8 0 - v0.getD 5 0*v0.getD 6 0)+v0.getD 2 0*(v0.getD 3 0*v0.getD 7 0 - v0.getD 4 0*v0.getD 6 0))))=0:=by rw [← hdet];grind
      exact (yT.1 ((yT.1 ((yT.1 this).resolve_left hp0)).resolve_left hp0)).resolve_left hp0
    have h3:(KA v0 v1).length<4:=by have:=zqi (b:=vf v1) hlow;show (chP (vf v0) (vf v1)).length<4;omega
    refine ⟨(Qu z9,Qu v0,(((0:Int)):Rat),(((0:Int)):Rat)),yZ.2 (.inr (by rw [if_pos h3];exact yY.2 rfl)),.inr ?_⟩
    show ztq (Qu z9).flatten (Qu v0).flatten (j3 s t)
    rw [VM zfD,VM hT.l0]
    refine ⟨fun i j _ _=> ?_,⟨j0,hj0,by rw [hT.a00];decide +kernel⟩,p,fun c hc=>by rw [hall c hc];grind⟩
    unfold D2;rw [zja,zja];grind
  · -- a root of the cubic
    have hroot:ev (p / q) (KA v0 v1)=0:=by
      have hqi:=Rat.mul_inv_cancel _ hq0
      show ev (p / q) (chP (vf v0) (vf v1))=0
      rw [zfi,KZ,zrP]
      have hw:∀c,c<9→p / q*vf v0 c+vf v1 c=q⁻¹ *(j3 s t).getD c 0:=fun c hc=>by
        rw [hall c hc,Rat.div_def]
        show p*q⁻¹ *v0.getD c 0+v1.getD c 0=_
        have:v1.getD c 0=q*q⁻¹ *v1.getD c 0:=by rw [hqi];grind
        rw [this];grind
      unfold T3 at hdet ⊢
      unfold vf at hdet
      dsimp only
      rw [hw 0 Od,hw 1 Od,hw 2 Od,hw 3 Od,hw 4 Od,hw 5 Od,hw 6 Od,hw 7 Od,hw 8 Od]
      generalize q⁻¹ =k at*
      generalize (j3 s t).getD 0 0=m0 at*
      generalize (j3 s t).getD 1 0=m1 at*
      generalize (j3 s t).getD 2 0=m2 at*
      generalize (j3 s t).getD 3 0=m3 at*
      generalize (j3 s t).getD 4 0=m4 at*
      generalize (j3 s t).getD 5 0=m5 at*
      generalize (j3 s t).getD 6 0=m6 at*
      generalize (j3 s t).getD 7 0=m7 at*
      generalize (j3 s t).getD 8 0=m8 at*
      have:k*m0*(k*m4*(k*m8) - k*m5*(k*m7)) - k*m1*(k*m3*(k*m8) - k*m5*(k*m6))+k*m2*(k*m3*(k*m7) - k*m4*(k*m6))=k*k*k*(m0*(m4*m8 - m5*m7) - m1*(m3*m8 - m5*m6)+m2*(m3*m7 - m4*m6)):=Og
      rw [this,hdet];grind
    have hcl:(cl (KA v0 v1)).length≠0:=by rw [show cl (KA v0 v1)=KA v0 v1 from zn2 _ _];exact hc
    obtain ⟨I,hI,hI1,hI2⟩:=zn1 hcl hroot hk
    refine ⟨pen v0 v1 I,zqs hI,.inl ?_⟩
    show ztp (Qu v0).flatten (Qu v1).flatten (j3 s t) I.1 I.2
    rw [VM hT.l0,VM hT.l1]
    refine ⟨⟨j0,j1,hj0,hT.hN,?_⟩,fun i j hi hj hd=> ?_⟩
    · unfold D2;rw [hT.a00,hT.a01,hT.a11];grind
    · have hdi := Rat.mul_inv_cancel _ hd
      have eT:Tq v0 v1 (j3 s t) i j=q:=by
        have:D2 v0 (j3 s t) i j=q*D2 v0 v1 i j:=by
          unfold D2;rw [hall i hi,hall j hj];grind
        unfold Tq;rw [this,Rat.div_def,Rat.mul_assoc,hdi,Rat.mul_one]
      have eS:Sq v0 v1 (j3 s t) i j=p:=by
        have:D2 (j3 s t) v1 i j=p*D2 v0 v1 i j:=by
          unfold D2;rw [hall i hi,hall j hj];grind
        unfold Sq;rw [this,Rat.div_def,Rat.mul_assoc,hdi,Rat.mul_one]
      rw [eT,eS]
      exact ⟨hq0,hI1,hI2⟩
theorem zjb {α:Type} {P:α→Prop} {L:List α} (h:∀q,q∈L→P q) (d:α):∀i,i<L.length→P (L.getD i d):=fun i hi=>h _ (get_mem hi)
theorem zuK {α:Type} {P:α→Prop} {L:List α} (h:∃q,q∈L∧P q) (d:α):∃k,k<L.length∧P (L.getD k d):=by
  obtain ⟨q,hq,hp⟩:=h
  obtain ⟨k,hk,rfl⟩:=List.mem_iff_getElem.1 hq
  exact ⟨k,hk,by rw [yU,List.getElem?_eq_getElem hk];exact hp⟩
end Ro
namespace Sp
open Go
set_option maxRecDepth 100000
set_option maxHeartbeats 8000000
theorem zfE {s:St} {t:St} {pP:Option Addr} {nP:Nat} {cP:Nat} {lP:List (Int×Int×Int)} (hnP:lP.length=nP) (hs:zhW .i64 s) (ht:zhW .i64 t):CA 5 [.agg #[.int .i64 (s.x),.int .i64 (s.y),.int .i64 (s.z),.int .i64 (s.a),.int .i64 (s.b),.int .i64 (s.c),.int .i64 (s.d),.int .i64 (s.f),.int .i64 (s.u),.int .i64 (s.v)],.agg #[.int .i64 (t.x),.int .i64 (t.y),.int .i64 (t.z),.int .i64 (t.a),.int .i64 (t.b),.int .i64 (t.c),.int .i64 (t.d),.int .i64 (t.f),.int .i64 (t.u),.int .i64 (t.v)],.slice pP nP cP] [zI (rI3 .i64) pP cP lP] (.bool true):=by
 refine zg Tryz.func5 rfl rfl (fun c=> ?_)
 refine zN 0 rfl (fun hL0=> ?_)
 refine vg<|zB (zX rfl rfl) (fun b1=> ?_)
 refine zB (zX rfl rfl) (fun b2=> ?_)
 refine jn 1 rfl<|vg<|qg (.n) zP (ziY) (.n)<|zE (Zo rfl)<|Vc<|qW rfl<|vY<|vg<|zw (za 1 JQ rfl rfl (.t8 (.t2 .nil)))<|zw (za 0 JQ rfl rfl (.t8 (.t2 .nil)))<|qJ rfl<|zm (ag3 rfl rfl rfl) zP (zdz qB qB qB) (qX 0 rfl) ?_
 rintro vb1 hmod
 refine zE (Zo rfl)<|Vc<|ZN rfl (fun a1=> ?_) (fun a1=> ?_)
 refine Zn 1 rfl<|zD ?_
 exact zq rfl () trivial (zj rfl) rfl oN sN
 obtain ⟨⟨hso,hto⟩,hne,a7,hpt⟩:=hmod (by simpa using a1)
 refine kk8<|zw (za 1 JQ rfl rfl (.t8 (.t2 .nil)))<|zw (za 0 JQ rfl rfl (.t8 (.t2 .nil)))<|qJ rfl<|zm (ag3 rfl rfl rfl) zP (zhd qB (by exact hso) (by exact hto) (by exact a7) (by exact hpt)) (qX 0 rfl) ?_
 rintro ⟨pL1,cL1,L1⟩ hpr
 dsimp only [aq,nq,cq]
 dsimp only at hpr
 refine zm (.c rfl .n) zP (zlB zL om (by exact Ro.zjb (fun z hz=>(hpr.2 z hz).1) _)) (qX 0 rfl) ?_
 rintro ⟨pL2,cL2,L2⟩ hnear
 dsimp only [aq,nq,cq]
 dsimp only at hnear
 refine jn 1 rfl<|k12 3 rfl<|zx rfl (fun a8=> ?_) (fun a8=> ?_)
 refine Zn 1 rfl<|zD ?_
 exact zq Tryz.results5 () trivial (zj rfl) rfl (ho:=oN) sN
 have b5:7≤L2.length:=Oo
 have a0:(L2.take 7).length=7:=by rw [yP];omega
 have a2:∀z,z∈(L2.take 7)→Ro.nr z∧Ro.rel s t z:=fun z hz=>by have h9:=hnear.2 z (List.mem_of_mem_take hz);exact ⟨h9.2,(hpr.2 z h9.1).2⟩
 have hnr:∀jj,jj<7→Ro.nr ((L2.take 7).getD jj yk):=fun jj hj=>Ro.zjb (fun z hz=>(a2 z hz).1) _ jj om
 refine vY<|zN 0 rfl (fun hL8=> ?_)
 refine vM 1 rfl<|zE (ZW (hi:=7) yu zcn rfl (.s rfl) (.inr ⟨_,rfl⟩) om)<|Vf (V3 0 rfl 7 om) (fun _ _=> ?_)
 refine zm (qS rfl) zP (zlJ (by exact a0) (by exact hnr)) (qX 0 rfl) ?_
 rintro ⟨pL3,cL3,L3,a3⟩ hout
 refine jD 5 rfl<|zw (za 1 JQ rfl rfl (.t8 (.t2 .nil)))<|zw (za 0 JQ rfl rfl (.t8 (.t2 .nil)))<|zm (q7 rfl rfl) zP (zg9 (by exact hso) (by exact hto) (by exact hne)) (.n) ?_
 rintro ⟨p33,c34⟩ -
 dsimp only [aq,nq,cq]
 refine jn 5 rfl<|k12 2 rfl<|qW rfl ?_
 refine qN<|zi<|qe<|k12 2 rfl<|zx rfl (fun a4=> ?_) (fun a4=> ?_)
 refine qe<|zv<|qJ rfl<|zE (zce rfl rfl) ?_
 rw [show (decide (a3=13))=true from by exact decide_eq_true (hout.elim (fun z=>z.1) (fun z=>absurd z.1 a4))]
 refine Zp 1 rfl<|zD ?_
 exact zq Tryz.results5 () trivial (zj rfl) rfl (ho:=oN) sN
 have a9:a3=0:=Oo
 rw [a9] at hout
 have hokp:∀i,i<L3.length→Ro.okP (L3.getD i pn0):=Ro.zjb (Ro.out_ok a0 hnr hout) pn0
 have hex:=Ro.zuK (Ro.zrb hso hto hne a0 (fun z hz=>(a2 z hz).2) hout) pn0
 refine k80 1 rfl<|zm (qS rfl) zP (Ks (by rfl) dd (by exact fun i hi=>Ro.zaM (Ro.K8 _ _) hi)) (qX 0 rfl) ?_
 rintro ⟨a5,a6⟩ -
 have e7:((ys (Ro.ZM (Ro.jN (Ro.Vx s t)))).flatten:List Rat)=(Ro.ZM (Ro.jN (Ro.Vx s t))):=by exact Ro.VM (Ro.K8 s t)
 rw [e7]
 have e8:(.slice a5 ((Ro.ZM (Ro.jN (Ro.Vx s t))).length) a6:Value)= .slice a5 9 a6:=by rw [Ro.K8]
 rw [e8]
 refine zB (zo ztK rfl) (fun b9=> ?_)
 refine zh 0 rfl rfl rfl rfl vC (.take .nil) .z<|ZI<|vU 0 rfl .z<|zv<|zw (zf (j:=0) 0 vF rfl rfl rfl rfl)<|kS 4 rfl<|zE (v6 .n (.c rfl .n))<|zm (q7 rfl rfl) zP (zlE zL (by exact hokp) (by exact Ro.zra s t) (by exact Ro.ztt hso hto hne)) (sg3 3 0 1 rfl rfl rfl) ?_
 rintro b4 hcf
 rw [show b4=true from by exact hcf hex]
 refine Zp 2 rfl ?_
 exact zq rfl () trivial (zj rfl) rfl oN sN
end Sp
namespace Sp
open Go Go.RowKit Go.ChangeShapes Go.WideShapes
structure Bk (B:{H:Type}→DataW H→Nat):Prop where
  one:∀{H:Type} (d:DataW H),1≤B d
  slice:∀{H:Type} (es sp:List (DataW H)),(es.map B).sum+1≤B (.slice es sp)
  agg:∀{H:Type} (ps:List (DataW H)),(ps.map B).sum+1≤B (.agg ps)
section
variable {B : {H : Type} → DataW H → Nat} {P : Program} {t e : TypeId} {α β : Type} {r : Rp α} {s : Rp β} {mz : α → Nat} {mw : β → Nat}
end
end Sp
end Go.Proofs.YtpdbimfnhglhpaaGreat
