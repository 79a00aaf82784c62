/- Lemmas on the walk and plain lemmas that the claim of this folder uses; each states its own conditions. Lines were printed by a program of ours. -/
import Derived.Test.YtjeahiahjgifgaaGreatDoorZ6D
set_option linter.unusedVariables false
set_option linter.unusedSimpArgs false
set_option linter.unusedSectionVars false
namespace Go.Proofs.YtjeahiahjgifgaaGreatDoor.Sp
open Go
set_option linter.unusedVariables false
set_option maxRecDepth 100000
set_option maxHeartbeats 8000000
theorem zid {ce:Int} {u1:Wd} {v1:Wd} {q1:Rat} {bc:Nat} {bd:Nat} {fo:Int} {fx:Int} {fy:Int} {e1:Wd} {e2:Wd} {e3:Wd} {e4:Wd} {e5:Wd} {e6:Wd} {qz:Rat} (hce: -1048576≤ce∧ce≤1048576) (hfo: -1048576≤fo∧fo≤1048576) (hq1:Big.hq q1≤1398) (hqz:Big.hq qz≤1398) (hne:qz≠0):Con Tryz.prog 82 [.int .i64 ce,.agg #[u1.b,u1.l,v1.b,v1.l],.pointer (some ⟨bc,0,none⟩),.pointer (some ⟨bd,0,none⟩)] [] [qF true u1 v1 q1,atF bc 0 [.int .i64 fo,.int .i64 fx,.int .i64 fy],atF bd 0 [e1.b,e1.l,e2.b,e2.l,e3.b,e3.l,e4.b,e4.l,e5.b,e5.l,e6.b,e6.l],qF true e5 e6 qz] (Y:=Wd×Wd) (fun y=>True) (fun y=> .agg #[y.1.b,y.1.l,y.2.b,y.2.l]) (fun y=>[]) (fun y=>[qF true y.1 y.2 (((ce:Int):Rat)+((((fo:Int):Rat)*q1) / qz))]):=by
 refine zA Tryz.func82 rfl rfl rfl (fun c=> ?_)
 show RunC _ _ _ _ _ [(0,.int .i64 ce),(1,.agg #[u1.b,u1.l,v1.b,v1.l]),(2,.pointer (some ⟨bc,0,none⟩)),(3,.pointer (some ⟨bd,0,none⟩))] [] [qF true u1 v1 q1,atF bc 0 [.int .i64 fo,.int .i64 fx,.int .i64 fy],atF bd 0 [e1.b,e1.l,e2.b,e2.l,e3.b,e3.l,e4.b,e4.l,e5.b,e5.l,e6.b,e6.l],qF true e5 e6 qz]
 refine zk<|zc<|zK rfl rfl (zfa rfl rfl) (fun b1=> ?_)
 refine zK rfl rfl (zq zr44 rfl) (fun b2=> ?_)
 refine zl<|zg<|zk<|zS (OW:=[]) (O:=[boxA b2 44 (cw [wz,wz]),boxA b1 44 (cw [u1,v1])]) 12 mixed (.then .ret) (by kernel_rfl)<|d_pv 0 rfl rfl (by kernel_rfl) (by kernel_rfl) rfl rfl (zi Tryz.underlying37 rfl sz3 rfl rfl)<|d_u 1 rfl rfl (by kernel_rfl) (by kernel_rfl) rfl rfl (zC (j:=0) 1 ty3 rfl rfl rfl rfl)<|d_u 3 rfl rfl (by kernel_rfl) (by kernel_rfl) rfl rfl (ze 1 ty44 rfl rfl (.take (.take (.take (.take .nil)))))<|d_pv 5 rfl rfl (by kernel_rfl) (by kernel_rfl) rfl rfl (zj (i:=2) Tryz.underlying106 sz44 rfl rfl (by decide) rfl)<|d_u 6 rfl rfl (by kernel_rfl) (by kernel_rfl) rfl rfl (zY (j:=8) 2 ty44 rfl rfl rfl (.skip (.skip (.skip (.skip (.skip (.skip (.skip (.skip (.take (.take (.take (.take .nil)))))))))))))<|zFc (m':=[(16,.agg (cw [e5,e6]).toArray),(13,.agg (cw [u1,v1]).toArray),(11,.int .i64 fo),(6,.pointer (some ⟨b2,0,none⟩)),(0,.int .i64 ce)]) (R':=[qF true u1 v1 q1,atF bc 0 [.int .i64 fo,.int .i64 fx,.int .i64 fy],atF bd 0 [e1.b,e1.l,e2.b,e2.l,e3.b,e3.l,e4.b,e4.l,e5.b,e5.l,e6.b,e6.l],qF true e5 e6 qz]) ((.of rfl):SubM _ _) (List.Perm.refl _) (List.Perm.refl _) ((.of [0,1,2,3] rfl):SelR _ _ _)<|zka (X:=Wd×Wd×Wd×Wd×Wd×Wd×Nat) (k':=0) (L':=(lb 14 16383)) (fun (u2_1,u2_2,u4_1,u4_2,u7_1,u7_2,u11_1)=>([(7,.pointer (some ⟨u11_1,0,none⟩)),(6,.pointer (some ⟨b2,0,none⟩)),(0,.int .i64 ce)],[boxA u11_1 44 (cw [u7_1,u7_2])],[boxA b2 44 (cw [wz,wz]),boxA b1 44 (cw [u1,v1])],[qF true u7_1 u7_2 ((((fo:Int):Rat)*q1) / qz),qF true u4_1 u4_2 (((fo:Int):Rat)*q1),qF true u2_1 u2_2 ((fo:Int):Rat),qF true u1 v1 q1,atF bc 0 [.int .i64 fo,.int .i64 fx,.int .i64 fy],atF bd 0 [e1.b,e1.l,e2.b,e2.l,e3.b,e3.l,e4.b,e4.l,e5.b,e5.l,e6.b,e6.l],qF true e5 e6 qz])) ?_ (fun hD0=> ?_)
 ·
  rintro ⟨u2_1,u2_2,u4_1,u4_2,u7_1,u7_2,u11_1⟩
  dsimp only [cw,cS]
  refine zR (by kernel_rfl)<|zg<|zk<|zea (.c (i:=1) rfl (.c (i:=0) rfl (.c (i:=0) rfl .n)))<|zS (OW:=[boxA b2 44 (cw [wz,wz])]) (O:=[boxA u11_1 44 (cw [u7_1,u7_2]),boxA b1 44 (cw [u1,v1])]) 4 mixed (.then .ret) (by kernel_rfl)<|d_pv 0 rfl rfl (by kernel_rfl) (by kernel_rfl) rfl rfl (zd rfl)<|d_uw 2 rfl rfl (by kernel_rfl) (by kernel_rfl) (by kernel_rfl) rfl rfl (ze 1 ty44 rfl rfl (.take (.take (.take (.take .nil)))))<|zt 1 (by kernel_rfl) (zo rfl rfl rfl rfl (.c rfl .n) ce71 (zB (z:=ce) (hz:=by first|rfl|assumption|omega|(exact Sh.hqX))) (.n) ?_)
  rintro ⟨w33,w44⟩ -
  dsimp only [List.append_eq,List.nil_append,List.cons_append]
  refine zt 3 (by kernel_rfl) (zo rfl rfl rfl rfl (.c rfl (.c rfl .n)) ce80 (zla (k1:=true) (u1:=w33) (v1:=w44) (q1:=((ce:Int):Rat)) (k2:=true) (u2:=u7_1) (v2:=u7_2) (q2:=(((fo:Int):Rat)*q1) / qz) (hl:=by first|rfl|assumption|omega|(exact Sh.hqX))) (.c (j:=0) rfl (.c (j:=1) rfl .n)) ?_)
  rintro ⟨w35,w46⟩ -
  dsimp only [List.append_eq,List.nil_append,List.cons_append]
  refine zt 4 (by kernel_rfl) (zr (by kernel_rfl) rfl rfl rfl rfl rfl sz44 rfl (.take (.take (.take (.take .nil)))) ?_)
  refine zR (by kernel_rfl)<|zg<|zT ?_
  exact zO Tryz.results82 (w35,w46) trivial (zu 0 ty44 rfl rfl (.take (.take (.take (.take .nil))))) rfl (ho:=(.n:PickO _ _ _)) ((.c (j:=0) rfl .n):SelR _ _ _)
 refine zka (X:=Wd×Wd×Wd×Wd×Wd×Wd×Nat) (k':=2) (L':=(lb 14 4095)) (fun (u2_1,u2_2,u4_1,u4_2,u7_1,u7_2,u11_1)=>([(7,.pointer (some ⟨u11_1,0,none⟩)),(19,.int .i64 0),(18,.agg (cw [u7_1,u7_2]).toArray),(6,.pointer (some ⟨b2,0,none⟩)),(0,.int .i64 ce)],[boxA u11_1 44 (cw [wz,wz])],[boxA b2 44 (cw [wz,wz]),boxA b1 44 (cw [u1,v1])],[qF true u7_1 u7_2 ((((fo:Int):Rat)*q1) / qz),qF true u4_1 u4_2 (((fo:Int):Rat)*q1),qF true u2_1 u2_2 ((fo:Int):Rat),qF true u1 v1 q1,atF bc 0 [.int .i64 fo,.int .i64 fx,.int .i64 fy],atF bd 0 [e1.b,e1.l,e2.b,e2.l,e3.b,e3.l,e4.b,e4.l,e5.b,e5.l,e6.b,e6.l],qF true e5 e6 qz])) ?_ (fun hD1=> ?_)
 ·
  rintro ⟨u2_1,u2_2,u4_1,u4_2,u7_1,u7_2,u11_1⟩
  dsimp only [cw,cS]
  refine zt 12 (by kernel_rfl) ?_
  ·
   refine zr (by kernel_rfl) rfl rfl rfl rfl rfl sz44 rfl (.take (.take (.take (.take .nil))))<|d_pv 13 rfl rfl (by kernel_rfl) (by kernel_rfl) rfl rfl (zh rfl) ?_
   exact zP (hD0 (u2_1,u2_2,u4_1,u4_2,u7_1,u7_2,u11_1)) (by kernel_rfl) ((.of rfl):SubM _ _) .rfl .rfl ((.of [0,1,2,3,4,5,6] rfl):SelR _ _ _)
 refine zka (X:=Wd×Wd×Wd×Wd×Wd×Wd) (k':=3) (L':=(lb 14 2047)) (fun (u2_1,u2_2,u4_1,u4_2,u7_1,u7_2)=>([(19,.int .i64 0),(18,.agg (cw [u7_1,u7_2]).toArray),(6,.pointer (some ⟨b2,0,none⟩)),(0,.int .i64 ce)],[],[boxA b2 44 (cw [wz,wz]),boxA b1 44 (cw [u1,v1])],[qF true u7_1 u7_2 ((((fo:Int):Rat)*q1) / qz),qF true u4_1 u4_2 (((fo:Int):Rat)*q1),qF true u2_1 u2_2 ((fo:Int):Rat),qF true u1 v1 q1,atF bc 0 [.int .i64 fo,.int .i64 fx,.int .i64 fy],atF bd 0 [e1.b,e1.l,e2.b,e2.l,e3.b,e3.l,e4.b,e4.l,e5.b,e5.l,e6.b,e6.l],qF true e5 e6 qz])) ?_ (fun hD2=> ?_)
 ·
  rintro ⟨u2_1,u2_2,u4_1,u4_2,u7_1,u7_2⟩
  dsimp only [cw,cS]
  refine zt 11 (by kernel_rfl) ?_
  ·
   refine zxa rfl rfl rfl rfl (zq zr44 rfl) (fun u11_1 _=> ?_)
   exact zP (hD1 (u2_1,u2_2,u4_1,u4_2,u7_1,u7_2,u11_1)) (by kernel_rfl) ((.of rfl):SubM _ _) .rfl .rfl ((.of [0,1,2,3,4,5,6] rfl):SelR _ _ _)
 refine zka (X:=Wd×Wd×Wd×Wd×Nat) (k':=6) (L':=(lb 14 2175)) (fun (u2_1,u2_2,u4_1,u4_2,u11_1)=>([(7,.pointer (some ⟨u11_1,0,none⟩)),(14,.agg (cw [u4_1,u4_2]).toArray),(16,.agg (cw [e5,e6]).toArray),(6,.pointer (some ⟨b2,0,none⟩)),(0,.int .i64 ce)],[boxA u11_1 44 (cw [wz,wz])],[boxA b2 44 (cw [wz,wz]),boxA b1 44 (cw [u1,v1])],[qF true u4_1 u4_2 (((fo:Int):Rat)*q1),qF true u2_1 u2_2 ((fo:Int):Rat),qF true u1 v1 q1,atF bc 0 [.int .i64 fo,.int .i64 fx,.int .i64 fy],atF bd 0 [e1.b,e1.l,e2.b,e2.l,e3.b,e3.l,e4.b,e4.l,e5.b,e5.l,e6.b,e6.l],qF true e5 e6 qz])) ?_ (fun hD3=> ?_)
 ·
  rintro ⟨u2_1,u2_2,u4_1,u4_2,u11_1⟩
  dsimp only [cw,cS]
  refine zt 7 (by kernel_rfl) ?_
  ·
   refine zo rfl rfl rfl rfl (.c rfl (.c rfl .n)) ce77 (zqc (k1:=true) (u1:=u4_1) (v1:=u4_2) (q1:=((fo:Int):Rat)*q1) (k2:=true) (u2:=e5) (v2:=e6) (q2:=qz) (hl:=by first|rfl|assumption|omega|(exact Sh.hqX)) (hy:=by assumption)) (.c (j:=0) rfl (.c (j:=5) rfl .n)) ?_
   rintro ⟨u7_1,u7_2⟩ -
   dsimp only [List.append_eq,List.nil_append,List.cons_append]
   refine d_pv 8 rfl rfl (by kernel_rfl) (by kernel_rfl) rfl rfl (zd rfl)<|d_pv 9 rfl rfl (by kernel_rfl) (by kernel_rfl) rfl rfl (zy rfl rfl)<|d_pv 10 rfl rfl (by kernel_rfl) (by kernel_rfl) rfl rfl (zy rfl rfl) ?_
   exact zP (hD1 (u2_1,u2_2,u4_1,u4_2,u7_1,u7_2,u11_1)) (by kernel_rfl) ((.of rfl):SubM _ _) .rfl .rfl ((.of [0,1,2,3,4,5,6] rfl):SelR _ _ _)
 refine zka (X:=Wd×Wd×Wd×Wd) (k':=7) (L':=(lb 14 127)) (fun (u2_1,u2_2,u4_1,u4_2)=>([(14,.agg (cw [u4_1,u4_2]).toArray),(16,.agg (cw [e5,e6]).toArray),(6,.pointer (some ⟨b2,0,none⟩)),(0,.int .i64 ce)],[],[boxA b2 44 (cw [wz,wz]),boxA b1 44 (cw [u1,v1])],[qF true u4_1 u4_2 (((fo:Int):Rat)*q1),qF true u2_1 u2_2 ((fo:Int):Rat),qF true u1 v1 q1,atF bc 0 [.int .i64 fo,.int .i64 fx,.int .i64 fy],atF bd 0 [e1.b,e1.l,e2.b,e2.l,e3.b,e3.l,e4.b,e4.l,e5.b,e5.l,e6.b,e6.l],qF true e5 e6 qz])) ?_ (fun hD4=> ?_)
 ·
  rintro ⟨u2_1,u2_2,u4_1,u4_2⟩
  dsimp only [cw,cS]
  refine zrb 7 11 (by kernel_rfl) ?_ ?_
  ·
   refine zo rfl rfl rfl rfl (.c rfl (.c rfl .n)) ce77 (zqc (k1:=true) (u1:=u4_1) (v1:=u4_2) (q1:=((fo:Int):Rat)*q1) (k2:=true) (u2:=e5) (v2:=e6) (q2:=qz) (hl:=by first|rfl|assumption|omega|(exact Sh.hqX)) (hy:=by assumption)) (.c (j:=0) rfl (.c (j:=5) rfl .n)) ?_
   rintro ⟨u7_1,u7_2⟩ -
   dsimp only [List.append_eq,List.nil_append,List.cons_append]
   refine d_pv 8 rfl rfl (by kernel_rfl) (by kernel_rfl) rfl rfl (zd rfl)<|d_pv 9 rfl rfl (by kernel_rfl) (by kernel_rfl) rfl rfl (zy rfl rfl)<|d_pv 10 rfl rfl (by kernel_rfl) (by kernel_rfl) rfl rfl (zy rfl rfl) ?_
   exact zP (hD2 (u2_1,u2_2,u4_1,u4_2,u7_1,u7_2)) (by kernel_rfl) ((.of rfl):SubM _ _) .rfl .rfl ((.of [0,1,2,3,4,5,6] rfl):SelR _ _ _)
  ·
   refine zxa rfl rfl rfl rfl (zq zr44 rfl) (fun u11_1 _=> ?_)
   exact zP (hD3 (u2_1,u2_2,u4_1,u4_2,u11_1)) (by kernel_rfl) ((.of rfl):SubM _ _) .rfl .rfl ((.of [0,1,2,3,4,5] rfl):SelR _ _ _)
 refine zka (X:=Wd×Wd×Nat) (k':=7) (L':=(lb 14 2159)) (fun (u2_1,u2_2,u11_1)=>([(7,.pointer (some ⟨u11_1,0,none⟩)),(12,.agg (cw [u2_1,u2_2]).toArray),(16,.agg (cw [e5,e6]).toArray),(13,.agg (cw [u1,v1]).toArray),(6,.pointer (some ⟨b2,0,none⟩)),(0,.int .i64 ce)],[boxA u11_1 44 (cw [wz,wz])],[boxA b2 44 (cw [wz,wz]),boxA b1 44 (cw [u1,v1])],[qF true u2_1 u2_2 ((fo:Int):Rat),qF true u1 v1 q1,atF bc 0 [.int .i64 fo,.int .i64 fx,.int .i64 fy],atF bd 0 [e1.b,e1.l,e2.b,e2.l,e3.b,e3.l,e4.b,e4.l,e5.b,e5.l,e6.b,e6.l],qF true e5 e6 qz])) ?_ (fun hD5=> ?_)
 ·
  rintro ⟨u2_1,u2_2,u11_1⟩
  dsimp only [cw,cS]
  refine zt 4 (by kernel_rfl) ?_
  ·
   refine zo rfl rfl rfl rfl (.c rfl (.c rfl .n)) ce81 (zZ (k1:=true) (u1:=u2_1) (v1:=u2_2) (q1:=((fo:Int):Rat)) (k2:=true) (u2:=u1) (v2:=v1) (q2:=q1) (hl:=by first|rfl|assumption|omega|(exact Sh.hqX))) (.c (j:=0) rfl (.c (j:=1) rfl .n)) ?_
   rintro ⟨u4_1,u4_2⟩ -
   dsimp only [List.append_eq,List.nil_append,List.cons_append]
   exact zP (hD3 (u2_1,u2_2,u4_1,u4_2,u11_1)) (by kernel_rfl) ((.of rfl):SubM _ _) .rfl .rfl ((.of [0,1,2,3,4,5] rfl):SelR _ _ _)
 refine zka (X:=Wd×Wd) (k':=8) (L':=(lb 14 111)) (fun (u2_1,u2_2)=>([(12,.agg (cw [u2_1,u2_2]).toArray),(16,.agg (cw [e5,e6]).toArray),(13,.agg (cw [u1,v1]).toArray),(6,.pointer (some ⟨b2,0,none⟩)),(0,.int .i64 ce)],[],[boxA b2 44 (cw [wz,wz]),boxA b1 44 (cw [u1,v1])],[qF true u2_1 u2_2 ((fo:Int):Rat),qF true u1 v1 q1,atF bc 0 [.int .i64 fo,.int .i64 fx,.int .i64 fy],atF bd 0 [e1.b,e1.l,e2.b,e2.l,e3.b,e3.l,e4.b,e4.l,e5.b,e5.l,e6.b,e6.l],qF true e5 e6 qz])) ?_ (fun hD6=> ?_)
 ·
  rintro ⟨u2_1,u2_2⟩
  dsimp only [cw,cS]
  refine zrb 4 11 (by kernel_rfl) ?_ ?_
  ·
   refine zo rfl rfl rfl rfl (.c rfl (.c rfl .n)) ce81 (zZ (k1:=true) (u1:=u2_1) (v1:=u2_2) (q1:=((fo:Int):Rat)) (k2:=true) (u2:=u1) (v2:=v1) (q2:=q1) (hl:=by first|rfl|assumption|omega|(exact Sh.hqX))) (.c (j:=0) rfl (.c (j:=1) rfl .n)) ?_
   rintro ⟨u4_1,u4_2⟩ -
   dsimp only [List.append_eq,List.nil_append,List.cons_append]
   exact zP (hD4 (u2_1,u2_2,u4_1,u4_2)) (by kernel_rfl) ((.of rfl):SubM _ _) .rfl .rfl ((.of [0,1,2,3,4,5] rfl):SelR _ _ _)
  ·
   refine zxa rfl rfl rfl rfl (zq zr44 rfl) (fun u11_1 _=> ?_)
   exact zP (hD5 (u2_1,u2_2,u11_1)) (by kernel_rfl) ((.of rfl):SubM _ _) .rfl .rfl ((.of [0,1,2,3,4] rfl):SelR _ _ _)
 refine zka (X:=Nat) (k':=8) (L':=(lb 14 2155)) (fun u11_1=>([(7,.pointer (some ⟨u11_1,0,none⟩)),(16,.agg (cw [e5,e6]).toArray),(13,.agg (cw [u1,v1]).toArray),(11,.int .i64 fo),(6,.pointer (some ⟨b2,0,none⟩)),(0,.int .i64 ce)],[boxA u11_1 44 (cw [wz,wz])],[boxA b2 44 (cw [wz,wz]),boxA b1 44 (cw [u1,v1])],[qF true u1 v1 q1,atF bc 0 [.int .i64 fo,.int .i64 fx,.int .i64 fy],atF bd 0 [e1.b,e1.l,e2.b,e2.l,e3.b,e3.l,e4.b,e4.l,e5.b,e5.l,e6.b,e6.l],qF true e5 e6 qz])) ?_ (fun hD7=> ?_)
 ·
  rintro u11_1
  dsimp only [cw,cS]
  refine zt 2 (by kernel_rfl) ?_
  ·
   refine zo rfl rfl rfl rfl (.c rfl .n) ce71 (zB (z:=fo) (hz:=by first|rfl|assumption|omega|(exact Sh.hqX))) (.n) ?_
   rintro ⟨u2_1,u2_2⟩ -
   dsimp only [List.append_eq,List.nil_append,List.cons_append]
   exact zP (hD5 (u2_1,u2_2,u11_1)) (by kernel_rfl) ((.of rfl):SubM _ _) .rfl .rfl ((.of [0,1,2,3,4] rfl):SelR _ _ _)
 refine zrb 2 11 (by kernel_rfl) ?_ ?_
 ·
  refine zo rfl rfl rfl rfl (.c rfl .n) ce71 (zB (z:=fo) (hz:=by first|rfl|assumption|omega|(exact Sh.hqX))) (.n) ?_
  rintro ⟨u2_1,u2_2⟩ -
  dsimp only [List.append_eq,List.nil_append,List.cons_append]
  exact zP (hD6 (u2_1,u2_2)) (by kernel_rfl) ((.of rfl):SubM _ _) .rfl .rfl ((.of [0,1,2,3,4] rfl):SelR _ _ _)
 ·
  refine zxa rfl rfl rfl rfl (zq zr44 rfl) (fun u11_1 _=> ?_)
  exact zP (hD7 u11_1) (by kernel_rfl) ((.of rfl):SubM _ _) .rfl .rfl ((.of [0,1,2,3] rfl):SelR _ _ _)
theorem zRe {s:Sh.S} {cm:Sh.C} {r:Int} {k1:Bool} {u1:Wd} {v1:Wd} {ax:Rat} {k2:Bool} {u2:Wd} {v2:Wd} {ay:Rat} {h:Int} (hok:Sh.Ok s) (hlt:s.ta<s.tb) (hc:Sh.cam cm) (hr:0≤r∧r<64) (hqx:Big.hq ax≤400) (hqy:Big.hq ay≤400) (hh:Sh.inb h):Con Tryz.prog 48 [.agg #[.int .i64 (s.fi),.int .i64 (s.st),.int .i64 (s.ta),.int .i64 (s.xa),.int .i64 (s.ya),.int .i64 (s.za),.int .i64 (s.qa),.int .i64 (s.qb),.int .i64 (s.qc),.int .i64 (s.qd),.int .i64 (s.tb),.int .i64 (s.xb),.int .i64 (s.yb),.int .i64 (s.zb),.int .i64 (s.ra),.int .i64 (s.rb),.int .i64 (s.rc),.int .i64 (s.rd)],.agg #[.int .i64 (cm.fo),.int .i64 (cm.cx),.int .i64 (cm.cy)],.int .i64 r,.agg #[u1.b,u1.l,v1.b,v1.l,u2.b,u2.l,v2.b,v2.l],.int .i64 h] [] [sgF,qF k1 u1 v1 ax,qF k2 u2 v2 ay] (Y:=Wd×Wd×Wd×Wd) (fun y=>Sh.ic s r ax ay h≠0→y.1=wz∧y.2.1=wz∧y.2.2.1=wz∧y.2.2.2=wz) (fun y=> .tuple #[.agg #[y.1.b,y.1.l,y.2.1.b,y.2.1.l,y.2.2.1.b,y.2.2.1.l,y.2.2.2.b,y.2.2.2.l],.int .i64 (Sh.ic s r ax ay h)]) (fun y=>[]) (fun y=>[qF (decide (Sh.ic s r ax ay h=0)) y.1 y.2.1 (Sh.ix s cm r ax ay h),qF (decide (Sh.ic s r ax ay h=0)) y.2.2.1 y.2.2.2 (Sh.iy s cm r ax ay h)]):=by
 refine zA Tryz.func48 rfl rfl rfl (fun c=> ?_)
 show RunC _ _ _ _ _ [(0,.agg #[.int .i64 (s.fi),.int .i64 (s.st),.int .i64 (s.ta),.int .i64 (s.xa),.int .i64 (s.ya),.int .i64 (s.za),.int .i64 (s.qa),.int .i64 (s.qb),.int .i64 (s.qc),.int .i64 (s.qd),.int .i64 (s.tb),.int .i64 (s.xb),.int .i64 (s.yb),.int .i64 (s.zb),.int .i64 (s.ra),.int .i64 (s.rb),.int .i64 (s.rc),.int .i64 (s.rd)]),(1,.agg #[.int .i64 (cm.fo),.int .i64 (cm.cx),.int .i64 (cm.cy)]),(2,.int .i64 r),(3,.agg #[u1.b,u1.l,v1.b,v1.l,u2.b,u2.l,v2.b,v2.l]),(4,.int .i64 h)] [] [sgF,qF k1 u1 v1 ax,qF k2 u2 v2 ay]
 have hr2:0≤r∧r≤64:=⟨hr.1,Int.le_of_lt hr.2⟩
 have hcu:=hc
 unfold Sh.cam at hcu
 have hh2:=hh
 unfold Sh.inb at hh2
 have hpq:=Sh.pos_hq hok hr2
 obtain ⟨hp1,hp2,hp3⟩:=hpq
 have hsm:=Sh.rot_b hok hr2
 obtain ⟨hi1,hi2,hi3⟩:=Sh.id_hq hok hr hqx hqy hh
 refine zk<|zc<|zK rfl rfl (zfa rfl rfl) (fun b1=> ?_)
 refine zK rfl rfl (zfa rfl rfl) (fun b2=> ?_)
 refine zK rfl rfl (zfa rfl rfl) (fun b3=> ?_)
 refine zK rfl rfl (zq zr46 rfl) (fun b4=> ?_)
 refine r_pv rfl rfl (zh rfl)<|zl<|zg<|zk<|zc<|r_u rfl rfl (ze 3 ty29 rfl rfl (.take (.take (.take (.take (.take (.take (.take (.take (.take (.take (.take (.take (.take (.take (.take (.take (.take (.take .nil)))))))))))))))))))<|r_pv rfl rfl (zd rfl)<|zX rfl rfl (.c rfl (.c rfl .n)) ce43 (zzb (s:=s) (r:=r) (hok:=by assumption) (hr:=by first|rfl|assumption|omega|(exact Sh.hqX))) (.n)<|zK rfl rfl (zq zr25 rfl) (fun b5=> ?_)
 refine zn 0 rfl rfl rfl rfl rfl sz25 rfl (.take (.take (.take (.take .nil)))) .z<|zl<|zg<|zk<|zk<|zc<|r_u rfl rfl (ze 0 ty25 rfl rfl (.take (.take (.take (.take .nil)))))<|r_pv rfl rfl (zw zr25 rfl Tryz.underlying25 (.c sz3 (.c sz3 (.c sz3 (.c sz3 .n)))) .n .n)<|r_pv rfl rfl (zvb (p:=(Sh.rot s r).1=0∧(Sh.rot s r).2.1=0∧(Sh.rot s r).2.2.1=0∧(Sh.rot s r).2.2.2=0) (by kernel_rfl) rfl rfl (zub Tryz.underlying25 (by kernel_rfl) (zHa (by decide) ty3 rfl rfl (zGa Tryz.underlying3) (zHa (by decide) ty3 rfl rfl (zGa Tryz.underlying3) (zHa (by decide) ty3 rfl rfl (zGa Tryz.underlying3) (zHa (by decide) ty3 rfl rfl (zGa Tryz.underlying3) zvc))))) (by simp [Bool.decide_and]))<|zl<|zg<|zV rfl (fun hz4=> ?_) (fun hz4=> ?_)
 ·
  refine zk<|zc<|r_pv rfl rfl (zw zr46 rfl Tryz.underlying46 (.c sz44 (.c sz44 .n)) .n .n)<|zn 1 rfl rfl rfl rfl rfl sz46 rfl (.take (.take (.take (.take (.take (.take (.take (.take .nil)))))))) (.s .z)<|r_pv rfl rfl (zh rfl)<|zl<|zg<|zT<|zx<|zQa (qF false wz wz 0) (fun g _=>qF_none g) ?_
  have hg9:Sh.ic s r ax ay h=13:=if_pos hz4
  have hg8:¬Sh.ic s r ax ay h=0:=by rw [hg9];decide
  have hx9:Sh.ix s cm r ax ay h=0:=if_neg hg8
  have hy9:Sh.iy s cm r ax ay h=0:=if_neg hg8
  exact zDa Tryz.results48 (wz,wz,wz,wz) (fun _=>⟨rfl,rfl,rfl,rfl⟩) (zu 1 ty46 rfl rfl (.take (.take (.take (.take (.take (.take (.take (.take .nil))))))))) (zG rfl) (by rw [hg9];rfl) (ho:=(.n:PickO _ _ _)) ((.e (j:=0) rfl (by rw [hx9,decide_eq_false hg8]) (.e (j:=0) rfl (by rw [hy9,decide_eq_false hg8]) .n)):SelR _ _ _)
 ·
  refine zE<|zg<|zk<|zc<|r_u rfl rfl (ze 4 ty29 rfl rfl (.take (.take (.take (.take (.take (.take (.take (.take (.take (.take (.take (.take (.take (.take (.take (.take (.take (.take .nil)))))))))))))))))))<|r_pv rfl rfl (zd rfl)<|zJ rfl rfl (.c rfl (.c rfl .n)) ce61 (zSb (s:=s) (r:=r) (hok:=by assumption) (hr:=by first|rfl|assumption|omega|(exact Sh.hqX)) (hlt:=by assumption)) (.n) ?_
  rintro ⟨w16,w27,w38,w49,w510,w611⟩ -
  dsimp only [List.append_eq,List.nil_append,List.cons_append]
  refine zK rfl rfl (zq zr106 rfl) (fun b12=> ?_)
  refine zn 0 rfl rfl rfl rfl rfl sz106 rfl (.take (.take (.take (.take (.take (.take (.take (.take (.take (.take (.take (.take .nil)))))))))))) .z<|zl<|zg<|zk<|zS (OW:=[]) (O:=[boxA b12 106 (cw [w16,w27,w38,w49,w510,w611]),boxA b5 25 [.int .i64 ((Sh.rot s r).1),.int .i64 ((Sh.rot s r).2.1),.int .i64 ((Sh.rot s r).2.2.1),.int .i64 ((Sh.rot s r).2.2.2)],boxA b4 46 (cw [wz,wz,wz,wz]),boxA b3 46 (cw [u1,v1,u2,v2]),boxA b2 37 [.int .i64 (cm.fo),.int .i64 (cm.cx),.int .i64 (cm.cy)],boxA b1 29 (cS s)]) 20 mixed (.then .ret) (by kernel_rfl)<|d_u 0 rfl rfl (by kernel_rfl) (by kernel_rfl) rfl rfl (ze 1 ty25 rfl rfl (.take (.take (.take (.take .nil)))))<|d_pv 2 rfl rfl (by kernel_rfl) (by kernel_rfl) rfl rfl (zi Tryz.underlying46 rfl sz44 rfl rfl)<|d_u 3 rfl rfl (by kernel_rfl) (by kernel_rfl) rfl rfl (ze 3 ty44 rfl rfl (.take (.take (.take (.take .nil)))))<|d_pv 4 rfl rfl (by kernel_rfl) (by kernel_rfl) rfl rfl (zj (i:=0) Tryz.underlying106 sz44 rfl rfl (by decide) rfl)<|d_u 5 rfl rfl (by kernel_rfl) (by kernel_rfl) rfl rfl (ze 0 ty44 rfl rfl (.take (.take (.take (.take .nil)))))<|d_pv 7 rfl rfl (by kernel_rfl) (by kernel_rfl) rfl rfl (zi Tryz.underlying46 rfl sz44 rfl rfl)<|d_u 8 rfl rfl (by kernel_rfl) (by kernel_rfl) rfl rfl (ze 3 ty44 rfl rfl (.skip (.skip (.skip (.skip (.take (.take (.take (.take .nil)))))))))<|d_pv 9 rfl rfl (by kernel_rfl) (by kernel_rfl) rfl rfl (zj (i:=1) Tryz.underlying106 sz44 rfl rfl (by decide) rfl)<|d_u 10 rfl rfl (by kernel_rfl) (by kernel_rfl) rfl rfl (ze 0 ty44 rfl rfl (.skip (.skip (.skip (.skip (.take (.take (.take (.take .nil)))))))))<|d_pv 12 rfl rfl (by kernel_rfl) (by kernel_rfl) rfl rfl (zd rfl)<|d_pv 14 rfl rfl (by kernel_rfl) (by kernel_rfl) rfl rfl (zj (i:=2) Tryz.underlying106 sz44 rfl rfl (by decide) rfl)<|d_u 15 rfl rfl (by kernel_rfl) (by kernel_rfl) rfl rfl (ze 0 ty44 rfl rfl (.skip (.skip (.skip (.skip (.skip (.skip (.skip (.skip (.take (.take (.take (.take .nil)))))))))))))<|zFc (m':=[(41,.agg (cw [w510,w611]).toArray),(38,.int .i64 h),(36,.agg (cw [w38,w49]).toArray),(34,.agg (cw [u2,v2]).toArray),(31,.agg (cw [w16,w27]).toArray),(29,.agg (cw [u1,v1]).toArray),(26,.agg #[.int .i64 ((Sh.rot s r).1),.int .i64 ((Sh.rot s r).2.1),.int .i64 ((Sh.rot s r).2.2.1),.int .i64 ((Sh.rot s r).2.2.2)]),(10,.pointer (some ⟨b4,0,none⟩)),(6,.pointer (some ⟨b2,0,none⟩))]) (R':=[qF true w16 w27 ((Sh.pos s r).1),qF true w38 w49 ((Sh.pos s r).2.1),qF true w510 w611 ((Sh.pos s r).2.2),sgF,qF k1 u1 v1 ax,qF k2 u2 v2 ay]) ((.of rfl):SubM _ _) (List.Perm.refl _) (List.Perm.refl _) ((.of [0,1,2,3,4,5] rfl):SelR _ _ _)<|zka (X:=Wd×Wd×Wd×Wd×Wd×Wd×Nat) (k':=0) (L':=(lb 21 2097151)) (fun (u18_1,u18_2,u18_3,u18_4,u18_5,u18_6,u19_1)=>([(14,.pointer (some ⟨u19_1,0,none⟩)),(10,.pointer (some ⟨b4,0,none⟩)),(6,.pointer (some ⟨b2,0,none⟩))],[boxA u19_1 106 (cw [u18_1,u18_2,u18_3,u18_4,u18_5,u18_6])],[boxA b12 106 (cw [w16,w27,w38,w49,w510,w611]),boxA b5 25 [.int .i64 ((Sh.rot s r).1),.int .i64 ((Sh.rot s r).2.1),.int .i64 ((Sh.rot s r).2.2.1),.int .i64 ((Sh.rot s r).2.2.2)],boxA b4 46 (cw [wz,wz,wz,wz]),boxA b3 46 (cw [u1,v1,u2,v2]),boxA b2 37 [.int .i64 (cm.fo),.int .i64 (cm.cx),.int .i64 (cm.cy)],boxA b1 29 (cS s)],[qF true u18_1 u18_2 ((Sh.tim (Sh.pk true (Sh.mat (Sh.rot s r))) (Sh.iv s r ax ay h)).1),qF true u18_3 u18_4 ((Sh.tim (Sh.pk true (Sh.mat (Sh.rot s r))) (Sh.iv s r ax ay h)).2.1),qF true u18_5 u18_6 ((Sh.tim (Sh.pk true (Sh.mat (Sh.rot s r))) (Sh.iv s r ax ay h)).2.2),qF true w16 w27 ((Sh.pos s r).1),qF true w38 w49 ((Sh.pos s r).2.1),qF true w510 w611 ((Sh.pos s r).2.2),sgF,qF k1 u1 v1 ax,qF k2 u2 v2 ay])) ?_ (fun hD0=> ?_)
  ·
   rintro ⟨u18_1,u18_2,u18_3,u18_4,u18_5,u18_6,u19_1⟩
   dsimp only [cw,cS]
   refine zR (by kernel_rfl)<|zg<|zk<|zk ?_
   have e13:Sh.tim (Sh.pk true (Sh.mat (Sh.rot s r))) (Sh.iv s r ax ay h)=Sh.id s r ax ay h:=by rfl
   rw [e13]
   refine zc<|r_pv rfl rfl (zj (i:=2) Tryz.underlying106 sz44 rfl rfl (by decide) rfl)<|r_u rfl rfl (ze 0 ty44 rfl rfl (.skip (.skip (.skip (.skip (.skip (.skip (.skip (.skip (.take (.take (.take (.take .nil)))))))))))))<|zX rfl rfl (.c rfl .n) ce79 (zMd (k1:=true) (u1:=u18_5) (v1:=u18_6) (q1:=(Sh.id s r ax ay h).2.2)) (.c (j:=2) rfl .n)<|r_pv rfl rfl (zLc rfl rfl)<|zl<|zg<|zV rfl (fun hs=> ?_) (fun hs=> ?_)
   ·
    have hs0:=Big.sgq_le.1 hs
    refine zk<|zc<|r_pv rfl rfl (zw zr46 rfl Tryz.underlying46 (.c sz44 (.c sz44 .n)) .n .n)<|zn 3 rfl rfl rfl rfl rfl sz46 rfl (.take (.take (.take (.take (.take (.take (.take (.take .nil)))))))) (.s (.s (.s .z)))<|r_pv rfl rfl (zh rfl)<|zl<|zg<|zT<|zx<|zQa (qF false wz wz 0) (fun g _=>qF_none g) ?_
    have hg9:Sh.ic s r ax ay h=20:=by unfold Sh.ic;rw [if_neg hz4,if_pos hs0]
    have hg8:¬Sh.ic s r ax ay h=0:=by rw [hg9];decide
    have hx9:Sh.ix s cm r ax ay h=0:=if_neg hg8
    have hy9:Sh.iy s cm r ax ay h=0:=if_neg hg8
    exact zDa Tryz.results48 (wz,wz,wz,wz) (fun _=>⟨rfl,rfl,rfl,rfl⟩) (zu 3 ty46 rfl rfl (.take (.take (.take (.take (.take (.take (.take (.take .nil))))))))) (zG rfl) (by rw [hg9];rfl) (ho:=(.n:PickO _ _ _)) ((.e (j:=0) rfl (by rw [hx9,decide_eq_false hg8]) (.e (j:=0) rfl (by rw [hy9,decide_eq_false hg8]) .n)):SelR _ _ _)
   ·
    have hs0:¬(Sh.id s r ax ay h).2.2≤0:=fun k=>hs (Big.sgq_le.2 k)
    have hg9:Sh.ic s r ax ay h=0:=by unfold Sh.ic;rw [if_neg hz4,if_neg hs0]
    have hne9:(Sh.id s r ax ay h).2.2≠0:=fun k=>hs0 (by rw [k];exact Rat.le_refl)
    refine zE<|zg<|zk<|zQc 5 rfl (.s (.s (.s (.s (.s .z)))))<|zQc 0 rfl .z<|zc<|r_pv rfl rfl (zdc .n (.c rfl (.c rfl .n)))<|r_pv rfl rfl (zh rfl)<|zl<|zg<|zk<|zea (.c (i:=3) rfl .n)<|zS (OW:=[boxA b4 46 (cw [wz,wz,wz,wz])]) (O:=[]) 15 mixed (.then .ret) (by kernel_rfl)<|d_pv 0 rfl rfl (by kernel_rfl) (by kernel_rfl) rfl rfl (zd rfl)<|d_pv 1 rfl rfl (by kernel_rfl) (by kernel_rfl) rfl rfl (zi Tryz.underlying37 rfl sz35 rfl rfl)<|d_pv 2 rfl rfl (by kernel_rfl) (by kernel_rfl) rfl rfl (zi Tryz.underlying35 rfl sz3 rfl rfl)<|d_u 3 rfl rfl (by kernel_rfl) (by kernel_rfl) rfl rfl (zC (j:=1) 1 ty3 rfl rfl rfl rfl)<|d_pv 4 rfl rfl (by kernel_rfl) (by kernel_rfl) rfl rfl (zj (i:=0) Tryz.underlying106 sz44 rfl rfl (by decide) rfl)<|d_u 5 rfl rfl (by kernel_rfl) (by kernel_rfl) rfl rfl (zY (j:=0) 0 ty44 rfl rfl rfl (.take (.take (.take (.take .nil)))))<|d_pv 7 rfl rfl (by kernel_rfl) (by kernel_rfl) rfl rfl (zd rfl)<|d_pv 8 rfl rfl (by kernel_rfl) (by kernel_rfl) rfl rfl (zi Tryz.underlying37 rfl sz35 rfl rfl)<|d_pv 9 rfl rfl (by kernel_rfl) (by kernel_rfl) rfl rfl (zi Tryz.underlying35 rfl sz3 rfl rfl)<|d_u 10 rfl rfl (by kernel_rfl) (by kernel_rfl) rfl rfl (zC (j:=2) 1 ty3 rfl rfl rfl rfl)<|d_pv 11 rfl rfl (by kernel_rfl) (by kernel_rfl) rfl rfl (zj (i:=1) Tryz.underlying106 sz44 rfl rfl (by decide) rfl)<|d_u 12 rfl rfl (by kernel_rfl) (by kernel_rfl) rfl rfl (zY (j:=4) 0 ty44 rfl rfl rfl (.skip (.skip (.skip (.skip (.take (.take (.take (.take .nil)))))))))<|zt 6 (by kernel_rfl) (zdd (first:=[]) (cap:=[.pointer (some ⟨b2,0,none⟩),.pointer (some ⟨u19_1,0,none⟩)]) rfl rfl rfl rfl rfl (.c rfl (.c rfl .n)) ce82 (zid (ce:=cm.cx) (u1:=u18_1) (v1:=u18_2) (q1:=(Sh.id s r ax ay h).1) (bc:=b2) (bd:=u19_1) (fo:=cm.fo) (fx:=cm.cx) (fy:=cm.cy) (e1:=u18_1) (e2:=u18_2) (e3:=u18_3) (e4:=u18_4) (e5:=u18_5) (e6:=u18_6) (qz:=(Sh.id s r ax ay h).2.2) (hce:=by first|rfl|assumption|omega|(exact Sh.hqX)) (hfo:=by first|rfl|assumption|omega|(exact Sh.hqX)) (hq1:=by first|rfl|assumption|omega|(exact Sh.hqX)) (hqz:=by first|rfl|assumption|omega|(exact Sh.hqX)) (hne:=by first|rfl|assumption|omega|(exact Sh.hqX))) (.c (j:=2) rfl (.c (j:=1) rfl (.c (j:=0) rfl (.c (j:=4) rfl .n)))) ?_)
    rintro ⟨w314,w415⟩ -
    dsimp only [List.append_eq,List.nil_append,List.cons_append]
    refine zt 13 (by kernel_rfl) (zdd (first:=[]) (cap:=[.pointer (some ⟨b2,0,none⟩),.pointer (some ⟨u19_1,0,none⟩)]) rfl rfl rfl rfl rfl (.c rfl (.c rfl .n)) ce82 (zid (ce:=cm.cy) (u1:=u18_3) (v1:=u18_4) (q1:=(Sh.id s r ax ay h).2.1) (bc:=b2) (bd:=u19_1) (fo:=cm.fo) (fx:=cm.cx) (fy:=cm.cy) (e1:=u18_1) (e2:=u18_2) (e3:=u18_3) (e4:=u18_4) (e5:=u18_5) (e6:=u18_6) (qz:=(Sh.id s r ax ay h).2.2) (hce:=by first|rfl|assumption|omega|(exact Sh.hqX)) (hfo:=by first|rfl|assumption|omega|(exact Sh.hqX)) (hq1:=by first|rfl|assumption|omega|(exact Sh.hqX)) (hqz:=by first|rfl|assumption|omega|(exact Sh.hqX)) (hne:=by first|rfl|assumption|omega|(exact Sh.hqX))) (.c (j:=4) rfl (.c (j:=2) rfl (.c (j:=1) rfl (.c (j:=5) rfl .n)))) ?_)
    rintro ⟨w316,w417⟩ -
    dsimp only [List.append_eq,List.nil_append,List.cons_append]
    refine d_pv 14 rfl rfl (by kernel_rfl) (by kernel_rfl) rfl rfl (zw zr46 rfl Tryz.underlying46 (.c sz44 (.c sz44 .n)) (.c rfl (.c rfl .n)) (.c rfl rfl rfl (.take (.take (.take (.take .nil)))) (.c rfl rfl rfl (.skip (.skip (.skip (.skip (.take (.take (.take (.take .nil)))))))) .n)))<|zt 15 (by kernel_rfl) (zr (by kernel_rfl) rfl rfl rfl rfl rfl sz46 rfl (.take (.take (.take (.take (.take (.take (.take (.take .nil)))))))) ?_)
    refine d_pv 16 rfl rfl (by kernel_rfl) (by kernel_rfl) rfl rfl (zh rfl)<|zR (by kernel_rfl)<|zg<|zT ?_
    have hx9:Sh.ix s cm r ax ay h=_:=if_pos hg9
    have hy9:Sh.iy s cm r ax ay h=_:=if_pos hg9
    exact zDa Tryz.results48 (w314,w415,w316,w417) (fun k=>absurd hg9 k) (zu 0 ty46 rfl rfl (.take (.take (.take (.take (.take (.take (.take (.take .nil))))))))) (zG rfl) (by rw [hg9]) (ho:=(.n:PickO _ _ _)) ((.e (j:=1) rfl (by rw [hx9,decide_eq_true hg9]) (.e (j:=0) rfl (by rw [hy9,decide_eq_true hg9]) .n)):SelR _ _ _)
  refine zka (X:=Wd×Wd×Wd×Wd×Wd×Wd×Nat) (k':=1) (L':=(lb 21 1048575)) (fun (u18_1,u18_2,u18_3,u18_4,u18_5,u18_6,u19_1)=>([(14,.pointer (some ⟨u19_1,0,none⟩)),(44,.agg (cw [u18_1,u18_2,u18_3,u18_4,u18_5,u18_6]).toArray),(10,.pointer (some ⟨b4,0,none⟩)),(6,.pointer (some ⟨b2,0,none⟩))],[boxA u19_1 106 (cw [wz,wz,wz,wz,wz,wz])],[boxA b12 106 (cw [w16,w27,w38,w49,w510,w611]),boxA b5 25 [.int .i64 ((Sh.rot s r).1),.int .i64 ((Sh.rot s r).2.1),.int .i64 ((Sh.rot s r).2.2.1),.int .i64 ((Sh.rot s r).2.2.2)],boxA b4 46 (cw [wz,wz,wz,wz]),boxA b3 46 (cw [u1,v1,u2,v2]),boxA b2 37 [.int .i64 (cm.fo),.int .i64 (cm.cx),.int .i64 (cm.cy)],boxA b1 29 (cS s)],[qF true u18_1 u18_2 ((Sh.tim (Sh.pk true (Sh.mat (Sh.rot s r))) (Sh.iv s r ax ay h)).1),qF true u18_3 u18_4 ((Sh.tim (Sh.pk true (Sh.mat (Sh.rot s r))) (Sh.iv s r ax ay h)).2.1),qF true u18_5 u18_6 ((Sh.tim (Sh.pk true (Sh.mat (Sh.rot s r))) (Sh.iv s r ax ay h)).2.2),qF true w16 w27 ((Sh.pos s r).1),qF true w38 w49 ((Sh.pos s r).2.1),qF true w510 w611 ((Sh.pos s r).2.2),sgF,qF k1 u1 v1 ax,qF k2 u2 v2 ay])) ?_ (fun hD1=> ?_)
  ·
   rintro ⟨u18_1,u18_2,u18_3,u18_4,u18_5,u18_6,u19_1⟩
   dsimp only [cw,cS]
   refine zt 20 (by kernel_rfl) ?_
   ·
    refine zr (by kernel_rfl) rfl rfl rfl rfl rfl sz106 rfl (.take (.take (.take (.take (.take (.take (.take (.take (.take (.take (.take (.take .nil)))))))))))) ?_
    exact zP (hD0 (u18_1,u18_2,u18_3,u18_4,u18_5,u18_6,u19_1)) (by kernel_rfl) ((.of rfl):SubM _ _) .rfl .rfl ((.of [0,1,2,3,4,5,6,7,8] rfl):SelR _ _ _)
  refine zka (X:=Wd×Wd×Wd×Wd×Wd×Wd) (k':=2) (L':=(lb 21 524287)) (fun (u18_1,u18_2,u18_3,u18_4,u18_5,u18_6)=>([(44,.agg (cw [u18_1,u18_2,u18_3,u18_4,u18_5,u18_6]).toArray),(10,.pointer (some ⟨b4,0,none⟩)),(6,.pointer (some ⟨b2,0,none⟩))],[],[boxA b12 106 (cw [w16,w27,w38,w49,w510,w611]),boxA b5 25 [.int .i64 ((Sh.rot s r).1),.int .i64 ((Sh.rot s r).2.1),.int .i64 ((Sh.rot s r).2.2.1),.int .i64 ((Sh.rot s r).2.2.2)],boxA b4 46 (cw [wz,wz,wz,wz]),boxA b3 46 (cw [u1,v1,u2,v2]),boxA b2 37 [.int .i64 (cm.fo),.int .i64 (cm.cx),.int .i64 (cm.cy)],boxA b1 29 (cS s)],[qF true u18_1 u18_2 ((Sh.tim (Sh.pk true (Sh.mat (Sh.rot s r))) (Sh.iv s r ax ay h)).1),qF true u18_3 u18_4 ((Sh.tim (Sh.pk true (Sh.mat (Sh.rot s r))) (Sh.iv s r ax ay h)).2.1),qF true u18_5 u18_6 ((Sh.tim (Sh.pk true (Sh.mat (Sh.rot s r))) (Sh.iv s r ax ay h)).2.2),qF true w16 w27 ((Sh.pos s r).1),qF true w38 w49 ((Sh.pos s r).2.1),qF true w510 w611 ((Sh.pos s r).2.2),sgF,qF k1 u1 v1 ax,qF k2 u2 v2 ay])) ?_ (fun hD2=> ?_)
  ·
   rintro ⟨u18_1,u18_2,u18_3,u18_4,u18_5,u18_6⟩
   dsimp only [cw,cS]
   refine zt 19 (by kernel_rfl) ?_
   ·
    refine zxa rfl rfl rfl rfl (zq zr106 rfl) (fun u19_1 _=> ?_)
    exact zP (hD1 (u18_1,u18_2,u18_3,u18_4,u18_5,u18_6,u19_1)) (by kernel_rfl) ((.of rfl):SubM _ _) .rfl .rfl ((.of [0,1,2,3,4,5,6,7,8] rfl):SelR _ _ _)
  refine zka (X:=Wd×Wd×Wd×Wd×Wd×Wd×Wd×Wd×Wd×Wd×Wd×Wd×Wd×Wd×Wd×Wd×Wd×Wd×Wd×Wd×Wd×Wd×Wd×Wd×Nat) (k':=2) (L':=(lb 21 786431)) (fun (u1_1,u1_2,u1_3,u1_4,u1_5,u1_6,u1_7,u1_8,u1_9,u1_10,u1_11,u1_12,u1_13,u1_14,u1_15,u1_16,u1_17,u1_18,u6_1,u6_2,u11_1,u11_2,u16_1,u16_2,u19_1)=>([(14,.pointer (some ⟨u19_1,0,none⟩)),(43,.agg (cw [u6_1,u6_2,u11_1,u11_2,u16_1,u16_2]).toArray),(27,.agg (cw [u1_1,u1_2,u1_3,u1_4,u1_5,u1_6,u1_7,u1_8,u1_9,u1_10,u1_11,u1_12,u1_13,u1_14,u1_15,u1_16,u1_17,u1_18]).toArray),(10,.pointer (some ⟨b4,0,none⟩)),(6,.pointer (some ⟨b2,0,none⟩))],[boxA u19_1 106 (cw [wz,wz,wz,wz,wz,wz])],[boxA b12 106 (cw [w16,w27,w38,w49,w510,w611]),boxA b5 25 [.int .i64 ((Sh.rot s r).1),.int .i64 ((Sh.rot s r).2.1),.int .i64 ((Sh.rot s r).2.2.1),.int .i64 ((Sh.rot s r).2.2.2)],boxA b4 46 (cw [wz,wz,wz,wz]),boxA b3 46 (cw [u1,v1,u2,v2]),boxA b2 37 [.int .i64 (cm.fo),.int .i64 (cm.cx),.int .i64 (cm.cy)],boxA b1 29 (cS s)],[qF true u16_1 u16_2 (((h:Int):Rat) - ((Sh.pos s r).2.2)),qF true u11_1 u11_2 (ay - ((Sh.pos s r).2.1)),qF true u6_1 u6_2 (ax - ((Sh.pos s r).1)),qF true u1_1 u1_2 ((Sh.mat (Sh.rot s r)).1.1),qF true u1_3 u1_4 ((Sh.mat (Sh.rot s r)).1.2.1),qF true u1_5 u1_6 ((Sh.mat (Sh.rot s r)).1.2.2),qF true u1_7 u1_8 ((Sh.mat (Sh.rot s r)).2.1.1),qF true u1_9 u1_10 ((Sh.mat (Sh.rot s r)).2.1.2.1),qF true u1_11 u1_12 ((Sh.mat (Sh.rot s r)).2.1.2.2),qF true u1_13 u1_14 ((Sh.mat (Sh.rot s r)).2.2.1),qF true u1_15 u1_16 ((Sh.mat (Sh.rot s r)).2.2.2.1),qF true u1_17 u1_18 ((Sh.mat (Sh.rot s r)).2.2.2.2),qF true w16 w27 ((Sh.pos s r).1),qF true w38 w49 ((Sh.pos s r).2.1),qF true w510 w611 ((Sh.pos s r).2.2),sgF,qF k1 u1 v1 ax,qF k2 u2 v2 ay])) ?_ (fun hD3=> ?_)
  ·
   rintro ⟨u1_1,u1_2,u1_3,u1_4,u1_5,u1_6,u1_7,u1_8,u1_9,u1_10,u1_11,u1_12,u1_13,u1_14,u1_15,u1_16,u1_17,u1_18,u6_1,u6_2,u11_1,u11_2,u16_1,u16_2,u19_1⟩
   dsimp only [cw,cS]
   refine zt 18 (by kernel_rfl) ?_
   ·
    refine zo rfl rfl rfl rfl (.c rfl (.c rfl (.c rfl .n))) ce75 (zWb (u1:=u1_1) (u2:=u1_2) (u3:=u1_3) (u4:=u1_4) (u5:=u1_5) (u6:=u1_6) (u7:=u1_7) (u8:=u1_8) (u9:=u1_9) (u10:=u1_10) (u11:=u1_11) (u12:=u1_12) (u13:=u1_13) (u14:=u1_14) (u15:=u1_15) (u16:=u1_16) (u17:=u1_17) (u18:=u1_18) (mm:=(Sh.mat (Sh.rot s r))) (x1:=u6_1) (x2:=u6_2) (x3:=u11_1) (x4:=u11_2) (x5:=u16_1) (x6:=u16_2) (vv:=(Sh.iv s r ax ay h)) (tp:=true) (k:=414) (hm:=by exact Sh.mat_hq hsm) (hv:=by exact Sh.iv_hq hok hr hqx hqy hh) (hk:=by first|rfl|assumption|omega|(exact Sh.hqX))) (.c (j:=3) rfl (.c (j:=4) rfl (.c (j:=5) rfl (.c (j:=6) rfl (.c (j:=7) rfl (.c (j:=8) rfl (.c (j:=9) rfl (.c (j:=10) rfl (.c (j:=11) rfl (.c (j:=2) rfl (.c (j:=1) rfl (.c (j:=0) rfl .n)))))))))))) ?_
    rintro ⟨u18_1,u18_2,u18_3,u18_4,u18_5,u18_6⟩ -
    dsimp only [List.append_eq,List.nil_append,List.cons_append]
    exact zP (hD1 (u18_1,u18_2,u18_3,u18_4,u18_5,u18_6,u19_1)) (by kernel_rfl) ((.of rfl):SubM _ _) .rfl .rfl ((.of [0,1,2,15,16,17,18,19,20] rfl):SelR _ _ _)
  refine zka (X:=Wd×Wd×Wd×Wd×Wd×Wd×Wd×Wd×Wd×Wd×Wd×Wd×Wd×Wd×Wd×Wd×Wd×Wd×Wd×Wd×Wd×Wd×Wd×Wd) (k':=3) (L':=(lb 21 262143)) (fun (u1_1,u1_2,u1_3,u1_4,u1_5,u1_6,u1_7,u1_8,u1_9,u1_10,u1_11,u1_12,u1_13,u1_14,u1_15,u1_16,u1_17,u1_18,u6_1,u6_2,u11_1,u11_2,u16_1,u16_2)=>([(43,.agg (cw [u6_1,u6_2,u11_1,u11_2,u16_1,u16_2]).toArray),(27,.agg (cw [u1_1,u1_2,u1_3,u1_4,u1_5,u1_6,u1_7,u1_8,u1_9,u1_10,u1_11,u1_12,u1_13,u1_14,u1_15,u1_16,u1_17,u1_18]).toArray),(10,.pointer (some ⟨b4,0,none⟩)),(6,.pointer (some ⟨b2,0,none⟩))],[],[boxA b12 106 (cw [w16,w27,w38,w49,w510,w611]),boxA b5 25 [.int .i64 ((Sh.rot s r).1),.int .i64 ((Sh.rot s r).2.1),.int .i64 ((Sh.rot s r).2.2.1),.int .i64 ((Sh.rot s r).2.2.2)],boxA b4 46 (cw [wz,wz,wz,wz]),boxA b3 46 (cw [u1,v1,u2,v2]),boxA b2 37 [.int .i64 (cm.fo),.int .i64 (cm.cx),.int .i64 (cm.cy)],boxA b1 29 (cS s)],[qF true u16_1 u16_2 (((h:Int):Rat) - ((Sh.pos s r).2.2)),qF true u11_1 u11_2 (ay - ((Sh.pos s r).2.1)),qF true u6_1 u6_2 (ax - ((Sh.pos s r).1)),qF true u1_1 u1_2 ((Sh.mat (Sh.rot s r)).1.1),qF true u1_3 u1_4 ((Sh.mat (Sh.rot s r)).1.2.1),qF true u1_5 u1_6 ((Sh.mat (Sh.rot s r)).1.2.2),qF true u1_7 u1_8 ((Sh.mat (Sh.rot s r)).2.1.1),qF true u1_9 u1_10 ((Sh.mat (Sh.rot s r)).2.1.2.1),qF true u1_11 u1_12 ((Sh.mat (Sh.rot s r)).2.1.2.2),qF true u1_13 u1_14 ((Sh.mat (Sh.rot s r)).2.2.1),qF true u1_15 u1_16 ((Sh.mat (Sh.rot s r)).2.2.2.1),qF true u1_17 u1_18 ((Sh.mat (Sh.rot s r)).2.2.2.2),qF true w16 w27 ((Sh.pos s r).1),qF true w38 w49 ((Sh.pos s r).2.1),qF true w510 w611 ((Sh.pos s r).2.2),sgF,qF k1 u1 v1 ax,qF k2 u2 v2 ay])) ?_ (fun hD4=> ?_)
  ·
   rintro ⟨u1_1,u1_2,u1_3,u1_4,u1_5,u1_6,u1_7,u1_8,u1_9,u1_10,u1_11,u1_12,u1_13,u1_14,u1_15,u1_16,u1_17,u1_18,u6_1,u6_2,u11_1,u11_2,u16_1,u16_2⟩
   dsimp only [cw,cS]
   refine zrb 18 19 (by kernel_rfl) ?_ ?_
   ·
    refine zo rfl rfl rfl rfl (.c rfl (.c rfl (.c rfl .n))) ce75 (zWb (u1:=u1_1) (u2:=u1_2) (u3:=u1_3) (u4:=u1_4) (u5:=u1_5) (u6:=u1_6) (u7:=u1_7) (u8:=u1_8) (u9:=u1_9) (u10:=u1_10) (u11:=u1_11) (u12:=u1_12) (u13:=u1_13) (u14:=u1_14) (u15:=u1_15) (u16:=u1_16) (u17:=u1_17) (u18:=u1_18) (mm:=(Sh.mat (Sh.rot s r))) (x1:=u6_1) (x2:=u6_2) (x3:=u11_1) (x4:=u11_2) (x5:=u16_1) (x6:=u16_2) (vv:=(Sh.iv s r ax ay h)) (tp:=true) (k:=414) (hm:=by exact Sh.mat_hq hsm) (hv:=by exact Sh.iv_hq hok hr hqx hqy hh) (hk:=by first|rfl|assumption|omega|(exact Sh.hqX))) (.c (j:=3) rfl (.c (j:=4) rfl (.c (j:=5) rfl (.c (j:=6) rfl (.c (j:=7) rfl (.c (j:=8) rfl (.c (j:=9) rfl (.c (j:=10) rfl (.c (j:=11) rfl (.c (j:=2) rfl (.c (j:=1) rfl (.c (j:=0) rfl .n)))))))))))) ?_
    rintro ⟨u18_1,u18_2,u18_3,u18_4,u18_5,u18_6⟩ -
    dsimp only [List.append_eq,List.nil_append,List.cons_append]
    exact zP (hD2 (u18_1,u18_2,u18_3,u18_4,u18_5,u18_6)) (by kernel_rfl) ((.of rfl):SubM _ _) .rfl .rfl ((.of [0,1,2,15,16,17,18,19,20] rfl):SelR _ _ _)
   ·
    refine zxa rfl rfl rfl rfl (zq zr106 rfl) (fun u19_1 _=> ?_)
    exact zP (hD3 (u1_1,u1_2,u1_3,u1_4,u1_5,u1_6,u1_7,u1_8,u1_9,u1_10,u1_11,u1_12,u1_13,u1_14,u1_15,u1_16,u1_17,u1_18,u6_1,u6_2,u11_1,u11_2,u16_1,u16_2,u19_1)) (by kernel_rfl) ((.of rfl):SubM _ _) .rfl .rfl ((.of [0,1,2,3,4,5,6,7,8,9,10,11,12,13,14,15,16,17] rfl):SelR _ _ _)
  refine zka (X:=Wd×Wd×Wd×Wd×Wd×Wd×Wd×Wd×Wd×Wd×Wd×Wd×Wd×Wd×Wd×Wd×Wd×Wd×Wd×Wd×Wd×Wd×Wd×Wd×Nat) (k':=4) (L':=(lb 21 589823)) (fun (u1_1,u1_2,u1_3,u1_4,u1_5,u1_6,u1_7,u1_8,u1_9,u1_10,u1_11,u1_12,u1_13,u1_14,u1_15,u1_16,u1_17,u1_18,u6_1,u6_2,u11_1,u11_2,u13_1,u13_2,u19_1)=>([(14,.pointer (some ⟨u19_1,0,none⟩)),(39,.agg (cw [u13_1,u13_2]).toArray),(37,.agg (cw [u11_1,u11_2]).toArray),(32,.agg (cw [u6_1,u6_2]).toArray),(27,.agg (cw [u1_1,u1_2,u1_3,u1_4,u1_5,u1_6,u1_7,u1_8,u1_9,u1_10,u1_11,u1_12,u1_13,u1_14,u1_15,u1_16,u1_17,u1_18]).toArray),(41,.agg (cw [w510,w611]).toArray),(10,.pointer (some ⟨b4,0,none⟩)),(6,.pointer (some ⟨b2,0,none⟩))],[boxA u19_1 106 (cw [wz,wz,wz,wz,wz,wz])],[boxA b12 106 (cw [w16,w27,w38,w49,w510,w611]),boxA b5 25 [.int .i64 ((Sh.rot s r).1),.int .i64 ((Sh.rot s r).2.1),.int .i64 ((Sh.rot s r).2.2.1),.int .i64 ((Sh.rot s r).2.2.2)],boxA b4 46 (cw [wz,wz,wz,wz]),boxA b3 46 (cw [u1,v1,u2,v2]),boxA b2 37 [.int .i64 (cm.fo),.int .i64 (cm.cx),.int .i64 (cm.cy)],boxA b1 29 (cS s)],[qF true u13_1 u13_2 ((h:Int):Rat),qF true u11_1 u11_2 (ay - ((Sh.pos s r).2.1)),qF true u6_1 u6_2 (ax - ((Sh.pos s r).1)),qF true u1_1 u1_2 ((Sh.mat (Sh.rot s r)).1.1),qF true u1_3 u1_4 ((Sh.mat (Sh.rot s r)).1.2.1),qF true u1_5 u1_6 ((Sh.mat (Sh.rot s r)).1.2.2),qF true u1_7 u1_8 ((Sh.mat (Sh.rot s r)).2.1.1),qF true u1_9 u1_10 ((Sh.mat (Sh.rot s r)).2.1.2.1),qF true u1_11 u1_12 ((Sh.mat (Sh.rot s r)).2.1.2.2),qF true u1_13 u1_14 ((Sh.mat (Sh.rot s r)).2.2.1),qF true u1_15 u1_16 ((Sh.mat (Sh.rot s r)).2.2.2.1),qF true u1_17 u1_18 ((Sh.mat (Sh.rot s r)).2.2.2.2),qF true w16 w27 ((Sh.pos s r).1),qF true w38 w49 ((Sh.pos s r).2.1),qF true w510 w611 ((Sh.pos s r).2.2),sgF,qF k1 u1 v1 ax,qF k2 u2 v2 ay])) ?_ (fun hD5=> ?_)
  ·
   rintro ⟨u1_1,u1_2,u1_3,u1_4,u1_5,u1_6,u1_7,u1_8,u1_9,u1_10,u1_11,u1_12,u1_13,u1_14,u1_15,u1_16,u1_17,u1_18,u6_1,u6_2,u11_1,u11_2,u13_1,u13_2,u19_1⟩
   dsimp only [cw,cS]
   refine zt 16 (by kernel_rfl) ?_
   ·
    refine zo rfl rfl rfl rfl (.c rfl (.c rfl .n)) ce78 (zAb (k1:=true) (u1:=u13_1) (v1:=u13_2) (q1:=((h:Int):Rat)) (k2:=true) (u2:=w510) (v2:=w611) (q2:=(Sh.pos s r).2.2) (hl:=by first|rfl|assumption|omega|(exact Sh.hqX))) (.c (j:=0) rfl (.c (j:=14) rfl .n)) ?_
    rintro ⟨u16_1,u16_2⟩ -
    dsimp only [List.append_eq,List.nil_append,List.cons_append]
    refine d_pv 17 rfl rfl (by kernel_rfl) (by kernel_rfl) rfl rfl (zBa zr106 rfl Tryz.underlying106 sz44 (.c rfl (.c rfl (.c rfl .n))) (.c rfl rfl rfl (.take (.take (.take (.take .nil)))) (.c rfl rfl rfl (.skip (.skip (.skip (.skip (.take (.take (.take (.take .nil)))))))) (.c rfl rfl rfl (.skip (.skip (.skip (.skip (.skip (.skip (.skip (.skip (.take (.take (.take (.take .nil)))))))))))) .n)))) ?_
    exact zP (hD3 (u1_1,u1_2,u1_3,u1_4,u1_5,u1_6,u1_7,u1_8,u1_9,u1_10,u1_11,u1_12,u1_13,u1_14,u1_15,u1_16,u1_17,u1_18,u6_1,u6_2,u11_1,u11_2,u16_1,u16_2,u19_1)) (by kernel_rfl) ((.of rfl):SubM _ _) .rfl .rfl ((.of [0,2,3,4,5,6,7,8,9,10,11,12,13,14,15,16,17,18] rfl):SelR _ _ _)
  refine zka (X:=Wd×Wd×Wd×Wd×Wd×Wd×Wd×Wd×Wd×Wd×Wd×Wd×Wd×Wd×Wd×Wd×Wd×Wd×Wd×Wd×Wd×Wd×Wd×Wd) (k':=5) (L':=(lb 21 65535)) (fun (u1_1,u1_2,u1_3,u1_4,u1_5,u1_6,u1_7,u1_8,u1_9,u1_10,u1_11,u1_12,u1_13,u1_14,u1_15,u1_16,u1_17,u1_18,u6_1,u6_2,u11_1,u11_2,u13_1,u13_2)=>([(39,.agg (cw [u13_1,u13_2]).toArray),(37,.agg (cw [u11_1,u11_2]).toArray),(32,.agg (cw [u6_1,u6_2]).toArray),(27,.agg (cw [u1_1,u1_2,u1_3,u1_4,u1_5,u1_6,u1_7,u1_8,u1_9,u1_10,u1_11,u1_12,u1_13,u1_14,u1_15,u1_16,u1_17,u1_18]).toArray),(41,.agg (cw [w510,w611]).toArray),(10,.pointer (some ⟨b4,0,none⟩)),(6,.pointer (some ⟨b2,0,none⟩))],[],[boxA b12 106 (cw [w16,w27,w38,w49,w510,w611]),boxA b5 25 [.int .i64 ((Sh.rot s r).1),.int .i64 ((Sh.rot s r).2.1),.int .i64 ((Sh.rot s r).2.2.1),.int .i64 ((Sh.rot s r).2.2.2)],boxA b4 46 (cw [wz,wz,wz,wz]),boxA b3 46 (cw [u1,v1,u2,v2]),boxA b2 37 [.int .i64 (cm.fo),.int .i64 (cm.cx),.int .i64 (cm.cy)],boxA b1 29 (cS s)],[qF true u13_1 u13_2 ((h:Int):Rat),qF true u11_1 u11_2 (ay - ((Sh.pos s r).2.1)),qF true u6_1 u6_2 (ax - ((Sh.pos s r).1)),qF true u1_1 u1_2 ((Sh.mat (Sh.rot s r)).1.1),qF true u1_3 u1_4 ((Sh.mat (Sh.rot s r)).1.2.1),qF true u1_5 u1_6 ((Sh.mat (Sh.rot s r)).1.2.2),qF true u1_7 u1_8 ((Sh.mat (Sh.rot s r)).2.1.1),qF true u1_9 u1_10 ((Sh.mat (Sh.rot s r)).2.1.2.1),qF true u1_11 u1_12 ((Sh.mat (Sh.rot s r)).2.1.2.2),qF true u1_13 u1_14 ((Sh.mat (Sh.rot s r)).2.2.1),qF true u1_15 u1_16 ((Sh.mat (Sh.rot s r)).2.2.2.1),qF true u1_17 u1_18 ((Sh.mat (Sh.rot s r)).2.2.2.2),qF true w16 w27 ((Sh.pos s r).1),qF true w38 w49 ((Sh.pos s r).2.1),qF true w510 w611 ((Sh.pos s r).2.2),sgF,qF k1 u1 v1 ax,qF k2 u2 v2 ay])) ?_ (fun hD6=> ?_)
  ·
   rintro ⟨u1_1,u1_2,u1_3,u1_4,u1_5,u1_6,u1_7,u1_8,u1_9,u1_10,u1_11,u1_12,u1_13,u1_14,u1_15,u1_16,u1_17,u1_18,u6_1,u6_2,u11_1,u11_2,u13_1,u13_2⟩
   dsimp only [cw,cS]
   refine zrb 16 19 (by kernel_rfl) ?_ ?_
   ·
    refine zo rfl rfl rfl rfl (.c rfl (.c rfl .n)) ce78 (zAb (k1:=true) (u1:=u13_1) (v1:=u13_2) (q1:=((h:Int):Rat)) (k2:=true) (u2:=w510) (v2:=w611) (q2:=(Sh.pos s r).2.2) (hl:=by first|rfl|assumption|omega|(exact Sh.hqX))) (.c (j:=0) rfl (.c (j:=14) rfl .n)) ?_
    rintro ⟨u16_1,u16_2⟩ -
    dsimp only [List.append_eq,List.nil_append,List.cons_append]
    refine d_pv 17 rfl rfl (by kernel_rfl) (by kernel_rfl) rfl rfl (zBa zr106 rfl Tryz.underlying106 sz44 (.c rfl (.c rfl (.c rfl .n))) (.c rfl rfl rfl (.take (.take (.take (.take .nil)))) (.c rfl rfl rfl (.skip (.skip (.skip (.skip (.take (.take (.take (.take .nil)))))))) (.c rfl rfl rfl (.skip (.skip (.skip (.skip (.skip (.skip (.skip (.skip (.take (.take (.take (.take .nil)))))))))))) .n)))) ?_
    exact zP (hD4 (u1_1,u1_2,u1_3,u1_4,u1_5,u1_6,u1_7,u1_8,u1_9,u1_10,u1_11,u1_12,u1_13,u1_14,u1_15,u1_16,u1_17,u1_18,u6_1,u6_2,u11_1,u11_2,u16_1,u16_2)) (by kernel_rfl) ((.of rfl):SubM _ _) .rfl .rfl ((.of [0,2,3,4,5,6,7,8,9,10,11,12,13,14,15,16,17,18] rfl):SelR _ _ _)
   ·
    refine zxa rfl rfl rfl rfl (zq zr106 rfl) (fun u19_1 _=> ?_)
    exact zP (hD5 (u1_1,u1_2,u1_3,u1_4,u1_5,u1_6,u1_7,u1_8,u1_9,u1_10,u1_11,u1_12,u1_13,u1_14,u1_15,u1_16,u1_17,u1_18,u6_1,u6_2,u11_1,u11_2,u13_1,u13_2,u19_1)) (by kernel_rfl) ((.of rfl):SubM _ _) .rfl .rfl ((.of [0,1,2,3,4,5,6,7,8,9,10,11,12,13,14,15,16,17] rfl):SelR _ _ _)
  refine zka (X:=Wd×Wd×Wd×Wd×Wd×Wd×Wd×Wd×Wd×Wd×Wd×Wd×Wd×Wd×Wd×Wd×Wd×Wd×Wd×Wd×Wd×Wd×Nat) (k':=5) (L':=(lb 21 581631)) (fun (u1_1,u1_2,u1_3,u1_4,u1_5,u1_6,u1_7,u1_8,u1_9,u1_10,u1_11,u1_12,u1_13,u1_14,u1_15,u1_16,u1_17,u1_18,u6_1,u6_2,u11_1,u11_2,u19_1)=>([(14,.pointer (some ⟨u19_1,0,none⟩)),(37,.agg (cw [u11_1,u11_2]).toArray),(32,.agg (cw [u6_1,u6_2]).toArray),(27,.agg (cw [u1_1,u1_2,u1_3,u1_4,u1_5,u1_6,u1_7,u1_8,u1_9,u1_10,u1_11,u1_12,u1_13,u1_14,u1_15,u1_16,u1_17,u1_18]).toArray),(41,.agg (cw [w510,w611]).toArray),(38,.int .i64 h),(10,.pointer (some ⟨b4,0,none⟩)),(6,.pointer (some ⟨b2,0,none⟩))],[boxA u19_1 106 (cw [wz,wz,wz,wz,wz,wz])],[boxA b12 106 (cw [w16,w27,w38,w49,w510,w611]),boxA b5 25 [.int .i64 ((Sh.rot s r).1),.int .i64 ((Sh.rot s r).2.1),.int .i64 ((Sh.rot s r).2.2.1),.int .i64 ((Sh.rot s r).2.2.2)],boxA b4 46 (cw [wz,wz,wz,wz]),boxA b3 46 (cw [u1,v1,u2,v2]),boxA b2 37 [.int .i64 (cm.fo),.int .i64 (cm.cx),.int .i64 (cm.cy)],boxA b1 29 (cS s)],[qF true u11_1 u11_2 (ay - ((Sh.pos s r).2.1)),qF true u6_1 u6_2 (ax - ((Sh.pos s r).1)),qF true u1_1 u1_2 ((Sh.mat (Sh.rot s r)).1.1),qF true u1_3 u1_4 ((Sh.mat (Sh.rot s r)).1.2.1),qF true u1_5 u1_6 ((Sh.mat (Sh.rot s r)).1.2.2),qF true u1_7 u1_8 ((Sh.mat (Sh.rot s r)).2.1.1),qF true u1_9 u1_10 ((Sh.mat (Sh.rot s r)).2.1.2.1),qF true u1_11 u1_12 ((Sh.mat (Sh.rot s r)).2.1.2.2),qF true u1_13 u1_14 ((Sh.mat (Sh.rot s r)).2.2.1),qF true u1_15 u1_16 ((Sh.mat (Sh.rot s r)).2.2.2.1),qF true u1_17 u1_18 ((Sh.mat (Sh.rot s r)).2.2.2.2),qF true w16 w27 ((Sh.pos s r).1),qF true w38 w49 ((Sh.pos s r).2.1),qF true w510 w611 ((Sh.pos s r).2.2),sgF,qF k1 u1 v1 ax,qF k2 u2 v2 ay])) ?_ (fun hD7=> ?_)
  ·
   rintro ⟨u1_1,u1_2,u1_3,u1_4,u1_5,u1_6,u1_7,u1_8,u1_9,u1_10,u1_11,u1_12,u1_13,u1_14,u1_15,u1_16,u1_17,u1_18,u6_1,u6_2,u11_1,u11_2,u19_1⟩
   dsimp only [cw,cS]
   refine zt 13 (by kernel_rfl) ?_
   ·
    refine zo rfl rfl rfl rfl (.c rfl .n) ce71 (zB (z:=h) (hz:=by first|rfl|assumption|omega|(exact Sh.hqX))) (.n) ?_
    rintro ⟨u13_1,u13_2⟩ -
    dsimp only [List.append_eq,List.nil_append,List.cons_append]
    exact zP (hD5 (u1_1,u1_2,u1_3,u1_4,u1_5,u1_6,u1_7,u1_8,u1_9,u1_10,u1_11,u1_12,u1_13,u1_14,u1_15,u1_16,u1_17,u1_18,u6_1,u6_2,u11_1,u11_2,u13_1,u13_2,u19_1)) (by kernel_rfl) ((.of rfl):SubM _ _) .rfl .rfl ((.of [0,1,2,3,4,5,6,7,8,9,10,11,12,13,14,15,16,17] rfl):SelR _ _ _)
  refine zka (X:=Wd×Wd×Wd×Wd×Wd×Wd×Wd×Wd×Wd×Wd×Wd×Wd×Wd×Wd×Wd×Wd×Wd×Wd×Wd×Wd×Wd×Wd) (k':=6) (L':=(lb 21 57343)) (fun (u1_1,u1_2,u1_3,u1_4,u1_5,u1_6,u1_7,u1_8,u1_9,u1_10,u1_11,u1_12,u1_13,u1_14,u1_15,u1_16,u1_17,u1_18,u6_1,u6_2,u11_1,u11_2)=>([(37,.agg (cw [u11_1,u11_2]).toArray),(32,.agg (cw [u6_1,u6_2]).toArray),(27,.agg (cw [u1_1,u1_2,u1_3,u1_4,u1_5,u1_6,u1_7,u1_8,u1_9,u1_10,u1_11,u1_12,u1_13,u1_14,u1_15,u1_16,u1_17,u1_18]).toArray),(41,.agg (cw [w510,w611]).toArray),(38,.int .i64 h),(10,.pointer (some ⟨b4,0,none⟩)),(6,.pointer (some ⟨b2,0,none⟩))],[],[boxA b12 106 (cw [w16,w27,w38,w49,w510,w611]),boxA b5 25 [.int .i64 ((Sh.rot s r).1),.int .i64 ((Sh.rot s r).2.1),.int .i64 ((Sh.rot s r).2.2.1),.int .i64 ((Sh.rot s r).2.2.2)],boxA b4 46 (cw [wz,wz,wz,wz]),boxA b3 46 (cw [u1,v1,u2,v2]),boxA b2 37 [.int .i64 (cm.fo),.int .i64 (cm.cx),.int .i64 (cm.cy)],boxA b1 29 (cS s)],[qF true u11_1 u11_2 (ay - ((Sh.pos s r).2.1)),qF true u6_1 u6_2 (ax - ((Sh.pos s r).1)),qF true u1_1 u1_2 ((Sh.mat (Sh.rot s r)).1.1),qF true u1_3 u1_4 ((Sh.mat (Sh.rot s r)).1.2.1),qF true u1_5 u1_6 ((Sh.mat (Sh.rot s r)).1.2.2),qF true u1_7 u1_8 ((Sh.mat (Sh.rot s r)).2.1.1),qF true u1_9 u1_10 ((Sh.mat (Sh.rot s r)).2.1.2.1),qF true u1_11 u1_12 ((Sh.mat (Sh.rot s r)).2.1.2.2),qF true u1_13 u1_14 ((Sh.mat (Sh.rot s r)).2.2.1),qF true u1_15 u1_16 ((Sh.mat (Sh.rot s r)).2.2.2.1),qF true u1_17 u1_18 ((Sh.mat (Sh.rot s r)).2.2.2.2),qF true w16 w27 ((Sh.pos s r).1),qF true w38 w49 ((Sh.pos s r).2.1),qF true w510 w611 ((Sh.pos s r).2.2),sgF,qF k1 u1 v1 ax,qF k2 u2 v2 ay])) ?_ (fun hD8=> ?_)
  ·
   rintro ⟨u1_1,u1_2,u1_3,u1_4,u1_5,u1_6,u1_7,u1_8,u1_9,u1_10,u1_11,u1_12,u1_13,u1_14,u1_15,u1_16,u1_17,u1_18,u6_1,u6_2,u11_1,u11_2⟩
   dsimp only [cw,cS]
   refine zrb 13 19 (by kernel_rfl) ?_ ?_
   ·
    refine zo rfl rfl rfl rfl (.c rfl .n) ce71 (zB (z:=h) (hz:=by first|rfl|assumption|omega|(exact Sh.hqX))) (.n) ?_
    rintro ⟨u13_1,u13_2⟩ -
    dsimp only [List.append_eq,List.nil_append,List.cons_append]
    exact zP (hD6 (u1_1,u1_2,u1_3,u1_4,u1_5,u1_6,u1_7,u1_8,u1_9,u1_10,u1_11,u1_12,u1_13,u1_14,u1_15,u1_16,u1_17,u1_18,u6_1,u6_2,u11_1,u11_2,u13_1,u13_2)) (by kernel_rfl) ((.of rfl):SubM _ _) .rfl .rfl ((.of [0,1,2,3,4,5,6,7,8,9,10,11,12,13,14,15,16,17] rfl):SelR _ _ _)
   ·
    refine zxa rfl rfl rfl rfl (zq zr106 rfl) (fun u19_1 _=> ?_)
    exact zP (hD7 (u1_1,u1_2,u1_3,u1_4,u1_5,u1_6,u1_7,u1_8,u1_9,u1_10,u1_11,u1_12,u1_13,u1_14,u1_15,u1_16,u1_17,u1_18,u6_1,u6_2,u11_1,u11_2,u19_1)) (by kernel_rfl) ((.of rfl):SubM _ _) .rfl .rfl ((.of [0,1,2,3,4,5,6,7,8,9,10,11,12,13,14,15,16] rfl):SelR _ _ _)
  refine zka (X:=Wd×Wd×Wd×Wd×Wd×Wd×Wd×Wd×Wd×Wd×Wd×Wd×Wd×Wd×Wd×Wd×Wd×Wd×Wd×Wd×Nat) (k':=6) (L':=(lb 21 579583)) (fun (u1_1,u1_2,u1_3,u1_4,u1_5,u1_6,u1_7,u1_8,u1_9,u1_10,u1_11,u1_12,u1_13,u1_14,u1_15,u1_16,u1_17,u1_18,u6_1,u6_2,u19_1)=>([(14,.pointer (some ⟨u19_1,0,none⟩)),(32,.agg (cw [u6_1,u6_2]).toArray),(27,.agg (cw [u1_1,u1_2,u1_3,u1_4,u1_5,u1_6,u1_7,u1_8,u1_9,u1_10,u1_11,u1_12,u1_13,u1_14,u1_15,u1_16,u1_17,u1_18]).toArray),(41,.agg (cw [w510,w611]).toArray),(38,.int .i64 h),(36,.agg (cw [w38,w49]).toArray),(34,.agg (cw [u2,v2]).toArray),(10,.pointer (some ⟨b4,0,none⟩)),(6,.pointer (some ⟨b2,0,none⟩))],[boxA u19_1 106 (cw [wz,wz,wz,wz,wz,wz])],[boxA b12 106 (cw [w16,w27,w38,w49,w510,w611]),boxA b5 25 [.int .i64 ((Sh.rot s r).1),.int .i64 ((Sh.rot s r).2.1),.int .i64 ((Sh.rot s r).2.2.1),.int .i64 ((Sh.rot s r).2.2.2)],boxA b4 46 (cw [wz,wz,wz,wz]),boxA b3 46 (cw [u1,v1,u2,v2]),boxA b2 37 [.int .i64 (cm.fo),.int .i64 (cm.cx),.int .i64 (cm.cy)],boxA b1 29 (cS s)],[qF true u6_1 u6_2 (ax - ((Sh.pos s r).1)),qF true u1_1 u1_2 ((Sh.mat (Sh.rot s r)).1.1),qF true u1_3 u1_4 ((Sh.mat (Sh.rot s r)).1.2.1),qF true u1_5 u1_6 ((Sh.mat (Sh.rot s r)).1.2.2),qF true u1_7 u1_8 ((Sh.mat (Sh.rot s r)).2.1.1),qF true u1_9 u1_10 ((Sh.mat (Sh.rot s r)).2.1.2.1),qF true u1_11 u1_12 ((Sh.mat (Sh.rot s r)).2.1.2.2),qF true u1_13 u1_14 ((Sh.mat (Sh.rot s r)).2.2.1),qF true u1_15 u1_16 ((Sh.mat (Sh.rot s r)).2.2.2.1),qF true u1_17 u1_18 ((Sh.mat (Sh.rot s r)).2.2.2.2),qF true w16 w27 ((Sh.pos s r).1),qF true w38 w49 ((Sh.pos s r).2.1),qF true w510 w611 ((Sh.pos s r).2.2),sgF,qF k1 u1 v1 ax,qF k2 u2 v2 ay])) ?_ (fun hD9=> ?_)
  ·
   rintro ⟨u1_1,u1_2,u1_3,u1_4,u1_5,u1_6,u1_7,u1_8,u1_9,u1_10,u1_11,u1_12,u1_13,u1_14,u1_15,u1_16,u1_17,u1_18,u6_1,u6_2,u19_1⟩
   dsimp only [cw,cS]
   refine zt 11 (by kernel_rfl) ?_
   ·
    refine zo rfl rfl rfl rfl (.c rfl (.c rfl .n)) ce78 (zAb (k1:=k2) (u1:=u2) (v1:=v2) (q1:=ay) (k2:=true) (u2:=w38) (v2:=w49) (q2:=(Sh.pos s r).2.1) (hl:=by first|rfl|assumption|omega|(exact Sh.hqX))) (.c (j:=15) rfl (.c (j:=11) rfl .n)) ?_
    rintro ⟨u11_1,u11_2⟩ -
    dsimp only [List.append_eq,List.nil_append,List.cons_append]
    exact zP (hD7 (u1_1,u1_2,u1_3,u1_4,u1_5,u1_6,u1_7,u1_8,u1_9,u1_10,u1_11,u1_12,u1_13,u1_14,u1_15,u1_16,u1_17,u1_18,u6_1,u6_2,u11_1,u11_2,u19_1)) (by kernel_rfl) ((.of rfl):SubM _ _) .rfl .rfl ((.of [0,1,2,3,4,5,6,7,8,9,10,11,12,13,14,15,16] rfl):SelR _ _ _)
  refine zka (X:=Wd×Wd×Wd×Wd×Wd×Wd×Wd×Wd×Wd×Wd×Wd×Wd×Wd×Wd×Wd×Wd×Wd×Wd×Wd×Wd) (k':=7) (L':=(lb 21 55295)) (fun (u1_1,u1_2,u1_3,u1_4,u1_5,u1_6,u1_7,u1_8,u1_9,u1_10,u1_11,u1_12,u1_13,u1_14,u1_15,u1_16,u1_17,u1_18,u6_1,u6_2)=>([(32,.agg (cw [u6_1,u6_2]).toArray),(27,.agg (cw [u1_1,u1_2,u1_3,u1_4,u1_5,u1_6,u1_7,u1_8,u1_9,u1_10,u1_11,u1_12,u1_13,u1_14,u1_15,u1_16,u1_17,u1_18]).toArray),(41,.agg (cw [w510,w611]).toArray),(38,.int .i64 h),(36,.agg (cw [w38,w49]).toArray),(34,.agg (cw [u2,v2]).toArray),(10,.pointer (some ⟨b4,0,none⟩)),(6,.pointer (some ⟨b2,0,none⟩))],[],[boxA b12 106 (cw [w16,w27,w38,w49,w510,w611]),boxA b5 25 [.int .i64 ((Sh.rot s r).1),.int .i64 ((Sh.rot s r).2.1),.int .i64 ((Sh.rot s r).2.2.1),.int .i64 ((Sh.rot s r).2.2.2)],boxA b4 46 (cw [wz,wz,wz,wz]),boxA b3 46 (cw [u1,v1,u2,v2]),boxA b2 37 [.int .i64 (cm.fo),.int .i64 (cm.cx),.int .i64 (cm.cy)],boxA b1 29 (cS s)],[qF true u6_1 u6_2 (ax - ((Sh.pos s r).1)),qF true u1_1 u1_2 ((Sh.mat (Sh.rot s r)).1.1),qF true u1_3 u1_4 ((Sh.mat (Sh.rot s r)).1.2.1),qF true u1_5 u1_6 ((Sh.mat (Sh.rot s r)).1.2.2),qF true u1_7 u1_8 ((Sh.mat (Sh.rot s r)).2.1.1),qF true u1_9 u1_10 ((Sh.mat (Sh.rot s r)).2.1.2.1),qF true u1_11 u1_12 ((Sh.mat (Sh.rot s r)).2.1.2.2),qF true u1_13 u1_14 ((Sh.mat (Sh.rot s r)).2.2.1),qF true u1_15 u1_16 ((Sh.mat (Sh.rot s r)).2.2.2.1),qF true u1_17 u1_18 ((Sh.mat (Sh.rot s r)).2.2.2.2),qF true w16 w27 ((Sh.pos s r).1),qF true w38 w49 ((Sh.pos s r).2.1),qF true w510 w611 ((Sh.pos s r).2.2),sgF,qF k1 u1 v1 ax,qF k2 u2 v2 ay])) ?_ (fun hD10=> ?_)
  ·
   rintro ⟨u1_1,u1_2,u1_3,u1_4,u1_5,u1_6,u1_7,u1_8,u1_9,u1_10,u1_11,u1_12,u1_13,u1_14,u1_15,u1_16,u1_17,u1_18,u6_1,u6_2⟩
   dsimp only [cw,cS]
   refine zrb 11 19 (by kernel_rfl) ?_ ?_
   ·
    refine zo rfl rfl rfl rfl (.c rfl (.c rfl .n)) ce78 (zAb (k1:=k2) (u1:=u2) (v1:=v2) (q1:=ay) (k2:=true) (u2:=w38) (v2:=w49) (q2:=(Sh.pos s r).2.1) (hl:=by first|rfl|assumption|omega|(exact Sh.hqX))) (.c (j:=15) rfl (.c (j:=11) rfl .n)) ?_
    rintro ⟨u11_1,u11_2⟩ -
    dsimp only [List.append_eq,List.nil_append,List.cons_append]
    exact zP (hD8 (u1_1,u1_2,u1_3,u1_4,u1_5,u1_6,u1_7,u1_8,u1_9,u1_10,u1_11,u1_12,u1_13,u1_14,u1_15,u1_16,u1_17,u1_18,u6_1,u6_2,u11_1,u11_2)) (by kernel_rfl) ((.of rfl):SubM _ _) .rfl .rfl ((.of [0,1,2,3,4,5,6,7,8,9,10,11,12,13,14,15,16] rfl):SelR _ _ _)
   ·
    refine zxa rfl rfl rfl rfl (zq zr106 rfl) (fun u19_1 _=> ?_)
    exact zP (hD9 (u1_1,u1_2,u1_3,u1_4,u1_5,u1_6,u1_7,u1_8,u1_9,u1_10,u1_11,u1_12,u1_13,u1_14,u1_15,u1_16,u1_17,u1_18,u6_1,u6_2,u19_1)) (by kernel_rfl) ((.of rfl):SubM _ _) .rfl .rfl ((.of [0,1,2,3,4,5,6,7,8,9,10,11,12,13,14,15] rfl):SelR _ _ _)
  refine zka (X:=Wd×Wd×Wd×Wd×Wd×Wd×Wd×Wd×Wd×Wd×Wd×Wd×Wd×Wd×Wd×Wd×Wd×Wd×Nat) (k':=7) (L':=(lb 21 579519)) (fun (u1_1,u1_2,u1_3,u1_4,u1_5,u1_6,u1_7,u1_8,u1_9,u1_10,u1_11,u1_12,u1_13,u1_14,u1_15,u1_16,u1_17,u1_18,u19_1)=>([(14,.pointer (some ⟨u19_1,0,none⟩)),(27,.agg (cw [u1_1,u1_2,u1_3,u1_4,u1_5,u1_6,u1_7,u1_8,u1_9,u1_10,u1_11,u1_12,u1_13,u1_14,u1_15,u1_16,u1_17,u1_18]).toArray),(41,.agg (cw [w510,w611]).toArray),(38,.int .i64 h),(36,.agg (cw [w38,w49]).toArray),(34,.agg (cw [u2,v2]).toArray),(31,.agg (cw [w16,w27]).toArray),(29,.agg (cw [u1,v1]).toArray),(10,.pointer (some ⟨b4,0,none⟩)),(6,.pointer (some ⟨b2,0,none⟩))],[boxA u19_1 106 (cw [wz,wz,wz,wz,wz,wz])],[boxA b12 106 (cw [w16,w27,w38,w49,w510,w611]),boxA b5 25 [.int .i64 ((Sh.rot s r).1),.int .i64 ((Sh.rot s r).2.1),.int .i64 ((Sh.rot s r).2.2.1),.int .i64 ((Sh.rot s r).2.2.2)],boxA b4 46 (cw [wz,wz,wz,wz]),boxA b3 46 (cw [u1,v1,u2,v2]),boxA b2 37 [.int .i64 (cm.fo),.int .i64 (cm.cx),.int .i64 (cm.cy)],boxA b1 29 (cS s)],[qF true u1_1 u1_2 ((Sh.mat (Sh.rot s r)).1.1),qF true u1_3 u1_4 ((Sh.mat (Sh.rot s r)).1.2.1),qF true u1_5 u1_6 ((Sh.mat (Sh.rot s r)).1.2.2),qF true u1_7 u1_8 ((Sh.mat (Sh.rot s r)).2.1.1),qF true u1_9 u1_10 ((Sh.mat (Sh.rot s r)).2.1.2.1),qF true u1_11 u1_12 ((Sh.mat (Sh.rot s r)).2.1.2.2),qF true u1_13 u1_14 ((Sh.mat (Sh.rot s r)).2.2.1),qF true u1_15 u1_16 ((Sh.mat (Sh.rot s r)).2.2.2.1),qF true u1_17 u1_18 ((Sh.mat (Sh.rot s r)).2.2.2.2),qF true w16 w27 ((Sh.pos s r).1),qF true w38 w49 ((Sh.pos s r).2.1),qF true w510 w611 ((Sh.pos s r).2.2),sgF,qF k1 u1 v1 ax,qF k2 u2 v2 ay])) ?_ (fun hD11=> ?_)
  ·
   rintro ⟨u1_1,u1_2,u1_3,u1_4,u1_5,u1_6,u1_7,u1_8,u1_9,u1_10,u1_11,u1_12,u1_13,u1_14,u1_15,u1_16,u1_17,u1_18,u19_1⟩
   dsimp only [cw,cS]
   refine zt 6 (by kernel_rfl) ?_
   ·
    refine zo rfl rfl rfl rfl (.c rfl (.c rfl .n)) ce78 (zAb (k1:=k1) (u1:=u1) (v1:=v1) (q1:=ax) (k2:=true) (u2:=w16) (v2:=w27) (q2:=(Sh.pos s r).1) (hl:=by first|rfl|assumption|omega|(exact Sh.hqX))) (.c (j:=13) rfl (.c (j:=9) rfl .n)) ?_
    rintro ⟨u6_1,u6_2⟩ -
    dsimp only [List.append_eq,List.nil_append,List.cons_append]
    exact zP (hD9 (u1_1,u1_2,u1_3,u1_4,u1_5,u1_6,u1_7,u1_8,u1_9,u1_10,u1_11,u1_12,u1_13,u1_14,u1_15,u1_16,u1_17,u1_18,u6_1,u6_2,u19_1)) (by kernel_rfl) ((.of rfl):SubM _ _) .rfl .rfl ((.of [0,1,2,3,4,5,6,7,8,9,10,11,12,13,14,15] rfl):SelR _ _ _)
  refine zka (X:=Wd×Wd×Wd×Wd×Wd×Wd×Wd×Wd×Wd×Wd×Wd×Wd×Wd×Wd×Wd×Wd×Wd×Wd) (k':=8) (L':=(lb 21 55231)) (fun (u1_1,u1_2,u1_3,u1_4,u1_5,u1_6,u1_7,u1_8,u1_9,u1_10,u1_11,u1_12,u1_13,u1_14,u1_15,u1_16,u1_17,u1_18)=>([(27,.agg (cw [u1_1,u1_2,u1_3,u1_4,u1_5,u1_6,u1_7,u1_8,u1_9,u1_10,u1_11,u1_12,u1_13,u1_14,u1_15,u1_16,u1_17,u1_18]).toArray),(41,.agg (cw [w510,w611]).toArray),(38,.int .i64 h),(36,.agg (cw [w38,w49]).toArray),(34,.agg (cw [u2,v2]).toArray),(31,.agg (cw [w16,w27]).toArray),(29,.agg (cw [u1,v1]).toArray),(10,.pointer (some ⟨b4,0,none⟩)),(6,.pointer (some ⟨b2,0,none⟩))],[],[boxA b12 106 (cw [w16,w27,w38,w49,w510,w611]),boxA b5 25 [.int .i64 ((Sh.rot s r).1),.int .i64 ((Sh.rot s r).2.1),.int .i64 ((Sh.rot s r).2.2.1),.int .i64 ((Sh.rot s r).2.2.2)],boxA b4 46 (cw [wz,wz,wz,wz]),boxA b3 46 (cw [u1,v1,u2,v2]),boxA b2 37 [.int .i64 (cm.fo),.int .i64 (cm.cx),.int .i64 (cm.cy)],boxA b1 29 (cS s)],[qF true u1_1 u1_2 ((Sh.mat (Sh.rot s r)).1.1),qF true u1_3 u1_4 ((Sh.mat (Sh.rot s r)).1.2.1),qF true u1_5 u1_6 ((Sh.mat (Sh.rot s r)).1.2.2),qF true u1_7 u1_8 ((Sh.mat (Sh.rot s r)).2.1.1),qF true u1_9 u1_10 ((Sh.mat (Sh.rot s r)).2.1.2.1),qF true u1_11 u1_12 ((Sh.mat (Sh.rot s r)).2.1.2.2),qF true u1_13 u1_14 ((Sh.mat (Sh.rot s r)).2.2.1),qF true u1_15 u1_16 ((Sh.mat (Sh.rot s r)).2.2.2.1),qF true u1_17 u1_18 ((Sh.mat (Sh.rot s r)).2.2.2.2),qF true w16 w27 ((Sh.pos s r).1),qF true w38 w49 ((Sh.pos s r).2.1),qF true w510 w611 ((Sh.pos s r).2.2),sgF,qF k1 u1 v1 ax,qF k2 u2 v2 ay])) ?_ (fun hD12=> ?_)
  ·
   rintro ⟨u1_1,u1_2,u1_3,u1_4,u1_5,u1_6,u1_7,u1_8,u1_9,u1_10,u1_11,u1_12,u1_13,u1_14,u1_15,u1_16,u1_17,u1_18⟩
   dsimp only [cw,cS]
   refine zrb 6 19 (by kernel_rfl) ?_ ?_
   ·
    refine zo rfl rfl rfl rfl (.c rfl (.c rfl .n)) ce78 (zAb (k1:=k1) (u1:=u1) (v1:=v1) (q1:=ax) (k2:=true) (u2:=w16) (v2:=w27) (q2:=(Sh.pos s r).1) (hl:=by first|rfl|assumption|omega|(exact Sh.hqX))) (.c (j:=13) rfl (.c (j:=9) rfl .n)) ?_
    rintro ⟨u6_1,u6_2⟩ -
    dsimp only [List.append_eq,List.nil_append,List.cons_append]
    exact zP (hD10 (u1_1,u1_2,u1_3,u1_4,u1_5,u1_6,u1_7,u1_8,u1_9,u1_10,u1_11,u1_12,u1_13,u1_14,u1_15,u1_16,u1_17,u1_18,u6_1,u6_2)) (by kernel_rfl) ((.of rfl):SubM _ _) .rfl .rfl ((.of [0,1,2,3,4,5,6,7,8,9,10,11,12,13,14,15] rfl):SelR _ _ _)
   ·
    refine zxa rfl rfl rfl rfl (zq zr106 rfl) (fun u19_1 _=> ?_)
    exact zP (hD11 (u1_1,u1_2,u1_3,u1_4,u1_5,u1_6,u1_7,u1_8,u1_9,u1_10,u1_11,u1_12,u1_13,u1_14,u1_15,u1_16,u1_17,u1_18,u19_1)) (by kernel_rfl) ((.of rfl):SubM _ _) .rfl .rfl ((.of [0,1,2,3,4,5,6,7,8,9,10,11,12,13,14] rfl):SelR _ _ _)
  refine zka (X:=Nat) (k':=8) (L':=(lb 21 579517)) (fun u19_1=>([(14,.pointer (some ⟨u19_1,0,none⟩)),(41,.agg (cw [w510,w611]).toArray),(38,.int .i64 h),(36,.agg (cw [w38,w49]).toArray),(34,.agg (cw [u2,v2]).toArray),(31,.agg (cw [w16,w27]).toArray),(29,.agg (cw [u1,v1]).toArray),(26,.agg #[.int .i64 ((Sh.rot s r).1),.int .i64 ((Sh.rot s r).2.1),.int .i64 ((Sh.rot s r).2.2.1),.int .i64 ((Sh.rot s r).2.2.2)]),(10,.pointer (some ⟨b4,0,none⟩)),(6,.pointer (some ⟨b2,0,none⟩))],[boxA u19_1 106 (cw [wz,wz,wz,wz,wz,wz])],[boxA b12 106 (cw [w16,w27,w38,w49,w510,w611]),boxA b5 25 [.int .i64 ((Sh.rot s r).1),.int .i64 ((Sh.rot s r).2.1),.int .i64 ((Sh.rot s r).2.2.1),.int .i64 ((Sh.rot s r).2.2.2)],boxA b4 46 (cw [wz,wz,wz,wz]),boxA b3 46 (cw [u1,v1,u2,v2]),boxA b2 37 [.int .i64 (cm.fo),.int .i64 (cm.cx),.int .i64 (cm.cy)],boxA b1 29 (cS s)],[qF true w16 w27 ((Sh.pos s r).1),qF true w38 w49 ((Sh.pos s r).2.1),qF true w510 w611 ((Sh.pos s r).2.2),sgF,qF k1 u1 v1 ax,qF k2 u2 v2 ay])) ?_ (fun hD13=> ?_)
  ·
   rintro u19_1
   dsimp only [cw,cS]
   refine zt 1 (by kernel_rfl) ?_
   ·
    refine zo rfl rfl rfl rfl (.c rfl .n) ce76 (zVb (q:=(Sh.rot s r)) (hsm:=by first|rfl|assumption|omega|(exact Sh.hqX))) (.c (j:=3) rfl .n) ?_
    rintro ⟨u1_1,u1_2,u1_3,u1_4,u1_5,u1_6,u1_7,u1_8,u1_9,u1_10,u1_11,u1_12,u1_13,u1_14,u1_15,u1_16,u1_17,u1_18⟩ -
    dsimp only [List.append_eq,List.nil_append,List.cons_append]
    exact zP (hD11 (u1_1,u1_2,u1_3,u1_4,u1_5,u1_6,u1_7,u1_8,u1_9,u1_10,u1_11,u1_12,u1_13,u1_14,u1_15,u1_16,u1_17,u1_18,u19_1)) (by kernel_rfl) ((.of rfl):SubM _ _) .rfl .rfl ((.of [0,1,2,3,4,5,6,7,8,9,10,11,12,13,14] rfl):SelR _ _ _)
  refine zrb 1 19 (by kernel_rfl) ?_ ?_
  ·
   refine zo rfl rfl rfl rfl (.c rfl .n) ce76 (zVb (q:=(Sh.rot s r)) (hsm:=by first|rfl|assumption|omega|(exact Sh.hqX))) (.c (j:=3) rfl .n) ?_
   rintro ⟨u1_1,u1_2,u1_3,u1_4,u1_5,u1_6,u1_7,u1_8,u1_9,u1_10,u1_11,u1_12,u1_13,u1_14,u1_15,u1_16,u1_17,u1_18⟩ -
   dsimp only [List.append_eq,List.nil_append,List.cons_append]
   exact zP (hD12 (u1_1,u1_2,u1_3,u1_4,u1_5,u1_6,u1_7,u1_8,u1_9,u1_10,u1_11,u1_12,u1_13,u1_14,u1_15,u1_16,u1_17,u1_18)) (by kernel_rfl) ((.of rfl):SubM _ _) .rfl .rfl ((.of [0,1,2,3,4,5,6,7,8,9,10,11,12,13,14] rfl):SelR _ _ _)
  ·
   refine zxa rfl rfl rfl rfl (zq zr106 rfl) (fun u19_1 _=> ?_)
   exact zP (hD13 u19_1) (by kernel_rfl) ((.of rfl):SubM _ _) .rfl .rfl ((.of [0,1,2,3,4,5] rfl):SelR _ _ _)
end Go.Proofs.YtjeahiahjgifgaaGreatDoor.Sp
namespace Go.Proofs.YtjeahiahjgifgaaGreatDoor.Sp
open Go
set_option linter.unusedVariables false
set_option maxRecDepth 100000
set_option maxHeartbeats 8000000
theorem zRa {s:Bool} {p:Option Addr} {n:Nat} {cap:Nat} {l:List Int} (hn:l.length=n) (ho:Big.okL l) (hln:n≤4398046511104):Con Tryz.prog 91 [.bool s,.slice p n cap] [] [slF (rI .u32) p cap l] (Y:=(Option Addr)×Nat) (fun y=>True) (fun y=> .agg #[.bool (decide ((Big.sg s (Big.valL l))<0)),.slice (y.1) ((Big.digs ((Big.sg s (Big.valL l)).natAbs)).length) (y.2)]) (fun y=>[]) (fun y=>[slF (rI .u32) (y.1) (y.2) (Big.digs ((Big.sg s (Big.valL l)).natAbs))]):=by
 refine zA Tryz.func91 rfl rfl rfl (fun c=> ?_)
 show RunC _ _ _ _ _ [(0,.bool s),(1,.slice p n cap)] [] [slF (rI .u32) p cap l]
 refine zra 0 rfl (fun hL0=> ?_)
 refine zk<|zc<|zK rfl rfl (zq zr42 rfl) (fun b1=> ?_)
 refine zl<|zg<|zk<|zc<|r_pv rfl rfl (zd rfl)<|r_pv rfl rfl (zga Tryz.underlying40 rfl)<|r_pv rfl rfl (zh rfl)<|zl<|zg<|zk<|zv<|zAa (X:=Nat) (fun x:Nat=>x≤n∧Big.trimL (l.take x)=Big.trimL l) (fun x=>[(5,.int .i64 ((x:Nat):Int)),(4,.pointer (some ⟨b1,0,none⟩)),(0,.bool s),(1,.slice p n cap)]) (fun x=>[boxA b1 42 [.bool false,.slice none 0 0]]) (fun x=>[slF (rI .u32) p cap l]) (fun x:Nat=>x) n (show n≤n∧Big.trimL (l.take n)=Big.trimL l from by exact ⟨by omega,by rw [List.take_of_length_le (by omega)]⟩) ((.of rfl):SubM _ _) (ho:=((.c (i:=0) rfl .n):PickO _ _ _)) ((.c (j:=0) rfl .n):SelR _ _ _) ?_
 rintro k hI
 replace hI:k≤n∧Big.trimL (l.take k)=Big.trimL l:=hI
 try dsimp only
 obtain ⟨hk,hT⟩:=hI
 refine zk<|zKa (X:=Unit) (fun x=>True) (fun x=>[(17,.bool (decide (0<k∧l.getD (k - 1) 0=0))),(5,.int .i64 ((k:Nat):Int)),(4,.pointer (some ⟨b1,0,none⟩)),(0,.bool s),(1,.slice p n cap)]) (fun x=>[boxA b1 42 [.bool false,.slice none 0 0]]) (fun x=>[slF (rI .u32) p cap l]) ?_ ?_
 ·
  refine zc<|r_pv rfl rfl (zd rfl)<|r_pv rfl rfl (zeb rfl rfl)<|zta rfl rfl (zd rfl) (fun h2=> ?_) (fun h2=> ?_)
  ·
   refine r_pv rfl rfl (zd rfl)<|r_pv rfl rfl (zd rfl)<|r_pv rfl rfl (zma (z:=(((k:Nat):Int) - 1)) rfl rfl (w64 (by omega)))<|zQ (x0:=(l.getD ((((k:Nat):Int) - 1).toNat) 0)) 0 ((((k:Nat):Int) - 1).toNat) rfl Tryz.underlying40 sz131 rfl rfl rfl (by first|rfl|assumption|(simp_all;done)|omega) rfl (by omega) (gD (d:=0) (by omega)) (fun b3 o4 hok5=> ?_)
   replace hok5:=zI.1 hok5
   refine r_u rfl rfl (zC (j:=0) 0 ty131 rfl rfl rfl rfl)<|r_pv rfl rfl (zMa rfl rfl)<|r_pv rfl rfl (zW rfl rfl)<|zl ?_
   exact zoa () (show True from by first|trivial|omega|simp_all) ((.e rfl (congrArg Value.bool (by have h1:0<k:=(by omega);have h2:((k:Int) - 1).toNat=k - 1:=(by omega);simp [h1,h2])) (.of rfl)):SubM _ _) (ho:=((.c (i:=0) rfl .n):PickO _ _ _)) ((.c (j:=1) rfl .n):SelR _ _ _)
  ·
   refine zm rfl rfl<|zm rfl rfl<|zm rfl rfl<|zm rfl rfl<|zm rfl rfl<|zm rfl rfl<|r_pv rfl rfl (zW rfl rfl)<|zl ?_
   exact zoa () (show True from by first|trivial|omega|simp_all) ((.e rfl (congrArg Value.bool (by have h1:¬0<k:=(by omega);simp [h1])) (.of rfl)):SubM _ _) (ho:=((.c (i:=0) rfl .n):PickO _ _ _)) ((.c (j:=0) rfl .n):SelR _ _ _)
 ·
  rintro ⟨⟩ -
  try dsimp only
  refine zV rfl (fun hc=> ?_) (fun hc=> ?_)
  ·
   refine zE<|zg<|zv<|zc<|r_pv rfl rfl (zd rfl)<|r_pv rfl rfl (zma (z:=(((k - 1):Nat):Int)) rfl rfl (w64 (by omega)))<|r_pv rfl rfl (zh rfl)<|zl<|zN<|zva (k - 1) (show (k - 1)≤n∧Big.trimL (l.take (k - 1))=Big.trimL l from by exact ⟨by omega,by rw [← hT,Big.trim_go l hc.1 (by omega) hc.2]⟩) (by show k - 1<k;omega) ((.e rfl (by first|rfl|(congr 1;omega)|simp_all) (.of rfl)):SubM _ _) (ho:=((.c (i:=0) rfl .n):PickO _ _ _)) ((.c (j:=0) rfl .n):SelR _ _ _)
  ·
   have htr:l.take k=Big.digs (Big.sg s (Big.valL l)).natAbs:=by rw [Big.sg_abs (Big.valL_nonneg ho),←Big.digs_valL ho,←hT];exact (Big.trim_stop l (by omega) hc).symm
   have hlt:(l.take k).length=k:=by rw [List.length_take];omega
   have hsg:=Big.made_sign (s:=s) ho htr hlt
   refine zna<|zp<|zp<|zH<|zg<|zk<|zc<|r_pv rfl rfl (zd rfl)<|r_pv_b rfl rfl (zd rfl) (fun hs=> ?_) (fun hs=> ?_)
   ·
    refine r_pv rfl rfl (zd rfl)<|r_pv rfl rfl (zeb rfl rfl)<|r_pv rfl rfl (zW rfl rfl)<|zLa rfl rfl (zCa (rI .u32) Tryz.underlying40 inf131) (fun b6 _=> ?_)
    refine r_pv rfl rfl (zd rfl)<|r_pv rfl rfl (zd rfl)<|r_pv rfl rfl (zQb (hi:=k) Tryz.underlying40 sz131 rfl (.s rfl) (.inr ⟨_,rfl⟩) (by omega))<|zBc (zJc 0 rfl k (by omega)) (fun _ _=> ?_)
    refine zZa 0 rfl rfl rfl (zNa 0 rfl Tryz.underlying40 inf131 (by decide) rfl rfl (by first|rfl|assumption|(simp_all;done)|omega) rfl (by first|rfl|assumption|(simp_all;done)|omega) (by omega) (by omega)) (fun _=> .z) ?_
    rintro ⟨p7,c8⟩ -
    dsimp only [List.append_eq,List.nil_append,List.cons_append]
    refine r_pv rfl rfl (zw zr42 rfl Tryz.underlying42 (.c sz4 (.c sz40 .n)) (.c rfl (.c rfl .n)) (.c rfl rfl rfl (.take .nil) (.c rfl rfl rfl (.skip (.take .nil)) .n)))<|zn 1 rfl rfl rfl rfl rfl sz42 rfl (.take (.take .nil)) (.s .z)<|zl<|zg<|zT ?_
    subst hs
    refine zUb 0 rfl .z ?_
    exact zO Tryz.results91 (p7,c8) trivial (zu 1 ty42 rfl rfl (.take (.take .nil))) (by rw [hsg,←htr,hlt,Nat.zero_add] <;> simp) (ho:=(.n:PickO _ _ _)) ((.e (j:=0) rfl (by rw [htr] <;> rfl) .n):SelR _ _ _)
   ·
    refine zm rfl rfl<|zm rfl rfl<|r_pv rfl rfl (zW rfl rfl)<|zLa rfl rfl (zCa (rI .u32) Tryz.underlying40 inf131) (fun b9 _=> ?_)
    refine r_pv rfl rfl (zd rfl)<|r_pv rfl rfl (zd rfl)<|r_pv rfl rfl (zQb (hi:=k) Tryz.underlying40 sz131 rfl (.s rfl) (.inr ⟨_,rfl⟩) (by omega))<|zBc (zJc 0 rfl k (by omega)) (fun _ _=> ?_)
    refine zZa 0 rfl rfl rfl (zNa 0 rfl Tryz.underlying40 inf131 (by decide) rfl rfl (by first|rfl|assumption|(simp_all;done)|omega) rfl (by first|rfl|assumption|(simp_all;done)|omega) (by omega) (by omega)) (fun _=> .z) ?_
    rintro ⟨p10,c11⟩ -
    dsimp only [List.append_eq,List.nil_append,List.cons_append]
    refine r_pv rfl rfl (zw zr42 rfl Tryz.underlying42 (.c sz4 (.c sz40 .n)) (.c rfl (.c rfl .n)) (.c rfl rfl rfl (.take .nil) (.c rfl rfl rfl (.skip (.take .nil)) .n)))<|zn 1 rfl rfl rfl rfl rfl sz42 rfl (.take (.take .nil)) (.s .z)<|zl<|zg<|zT ?_
    subst hs
    refine zUb 0 rfl .z ?_
    exact zO Tryz.results91 (p10,c11) trivial (zu 1 ty42 rfl rfl (.take (.take .nil))) (by rw [hsg,←htr,hlt,Nat.zero_add] <;> simp) (ho:=(.n:PickO _ _ _)) ((.e (j:=0) rfl (by rw [htr] <;> rfl) .n):SelR _ _ _)
theorem zwb {s:Bool} {a:Nat} {p:Option Addr} {cap:Nat} (hln:(Big.digs (a)).length≤4398046511104):Con Tryz.prog 91 [.bool (s),.slice (p) ((Big.digs (a)).length) (cap)] [] [slF (rI .u32) (p) (cap) (Big.digs (a))] (Y:=(Option Addr)×(Nat)) (fun y=>True) (fun y=> .agg #[.bool (decide ((Big.sg s (a:Int))<0)),.slice (y.1) ((Big.digs ((Big.sg s (a:Int)).natAbs)).length) (y.2)]) (fun y=>[]) (fun y=>[slF (rI .u32) (y.1) (y.2) (Big.digs ((Big.sg s (a:Int)).natAbs))]):=by
  have h:= @zRa s p (Big.digs a).length cap (Big.digs a) rfl (Big.digs_ok a) hln
  rw [Big.valL_digs] at h
  exact h
theorem zjb {p:Option Addr} {n:Nat} {cap:Nat} {l:List Int} {i:Nat} (hn:l.length=n) (hi:i≤4611686018427387904):Con Tryz.prog 109 [.slice p n cap,.int .i64 ((i:Nat):Int)] [] [slF (rI .u32) p cap l] (Y:=Unit) (fun y=>True) (fun y=> .int .u64 (l.getD i 0)) (fun y=>[]) (fun y=>[]):=by
 refine zA Tryz.func109 rfl rfl rfl (fun c=> ?_)
 show RunC _ _ _ _ _ [(0,.slice p n cap),(1,.int .i64 ((i:Nat):Int))] [] [slF (rI .u32) p cap l]
 refine zra 0 rfl (fun hL0=> ?_)
 refine zk<|zc<|r_pv rfl rfl (zh rfl)<|zl<|zg<|zk<|zk<|zc<|r_pv rfl rfl (zd rfl)<|r_pv rfl rfl (zd rfl)<|r_pv rfl rfl (zga Tryz.underlying40 rfl)<|r_pv rfl rfl (zU rfl rfl)<|zl<|zg<|zV rfl (fun h1=> ?_) (fun h1=> ?_)
 ·
  refine zk<|zc<|r_pv rfl rfl (zd rfl)<|r_pv rfl rfl (zd rfl)<|zQ (x0:=(l.getD i 0)) 0 i rfl Tryz.underlying40 sz131 rfl rfl rfl (by first|rfl|assumption|(simp_all;done)|omega) rfl rfl (gD (d:=0) (by omega)) (fun b2 o3 hok4=> ?_)
  replace hok4:=zI.1 hok4
  refine r_u rfl rfl (zC (j:=0) 0 ty131 rfl rfl rfl rfl)<|r_pv rfl rfl (zL (z:=(l.getD i 0)) rfl (by rw [Tryz.underlying131];rfl) Tryz.underlying130 (wu64 (by omega)))<|r_pv rfl rfl (zh rfl)<|zl<|zg<|zT<|zx ?_
  exact zO Tryz.results109 () trivial (zG rfl) rfl (ho:=(.n:PickO _ _ _)) (.n:SelR _ _ _)
 ·
  refine zE<|zg<|zk<|zc<|r_pv rfl rfl (zh rfl)<|zl<|zg<|zT ?_
  exact zO Tryz.results109 () trivial (zG rfl) (by rw [show l.getD i 0=0 by simp [List.getD,List.getElem?_eq_none (show l.length≤i by omega)]]) (ho:=(.n:PickO _ _ _)) (.n:SelR _ _ _)
theorem zyc {s:Bool} {p:Option Addr} {n:Nat} {cap:Nat} {l:List Int} (hn:l.length=n):Con Tryz.prog 65 [.agg #[.bool s,.slice p n cap]] [] [slF (rI .u32) p cap l] (Y:=Unit) (fun y=>True) (fun y=> .bool (decide (Big.canon s l))) (fun y=>[]) (fun y=>[]):=by
 refine zA Tryz.func65 rfl rfl rfl (fun c=> ?_)
 show RunC _ _ _ _ _ [(0,.agg #[.bool s,.slice p n cap])] [] [slF (rI .u32) p cap l]
 refine zra 0 rfl (fun hL0=> ?_)
 refine zk<|zc<|zK rfl rfl (zfa rfl rfl) (fun b1=> ?_)
 refine r_pv rfl rfl (zh rfl)<|zl<|zg<|zk<|zc<|r_pv rfl rfl (zi Tryz.underlying42 rfl sz40 rfl rfl)<|r_u rfl rfl (zf 0 ty40 rfl rfl rfl)<|r_pv rfl rfl (zga Tryz.underlying40 rfl)<|r_pv rfl rfl (zh rfl)<|zl<|zg<|zk<|zk<|zc<|r_pv rfl rfl (zh rfl)<|zl<|zg<|zv<|zAa (X:=Nat) (fun x:Nat=>x≤n∧∀j,j<x→l.getD j 0<1000000000) (fun x=>[(4,.int .i64 ((x:Nat):Int)),(3,.int .i64 ((n:Nat):Int)),(1,.pointer (some ⟨b1,0,none⟩))]) (fun x=>[boxA b1 42 [.bool s,.slice p n cap]]) (fun x=>[slF (rI .u32) p cap l]) (fun x:Nat=>n - x) 0 (show 0≤n∧∀j,j<0→l.getD j 0<1000000000 from by exact ⟨by omega,fun j h=>by omega⟩) ((.e rfl (by first|rfl|(congr 1;omega)|simp_all) (.c rfl (.c rfl .n))):SubM _ _) (ho:=((.c (i:=0) rfl .n):PickO _ _ _)) ((.c (j:=0) rfl .n):SelR _ _ _) ?_
 rintro i hI
 replace hI:i≤n∧∀j,j<i→l.getD j 0<1000000000:=hI
 try dsimp only
 obtain ⟨hi,hall⟩:=hI
 refine zk<|zk<|zc<|r_pv rfl rfl (zd rfl)<|r_pv rfl rfl (zd rfl)<|r_pv rfl rfl (zU rfl rfl)<|zl<|zg<|zV rfl (fun h2=> ?_) (fun h2=> ?_)
 ·
  refine zE<|zg<|zk<|zv<|zk<|zc<|r_pv rfl rfl (zi Tryz.underlying42 rfl sz40 rfl rfl)<|r_u rfl rfl (zf 0 ty40 rfl rfl rfl)<|r_pv rfl rfl (zd rfl)<|zQ (x0:=(l.getD i 0)) 0 i rfl Tryz.underlying40 sz131 rfl rfl rfl (by first|rfl|assumption|(simp_all;done)|omega) rfl rfl (gD (d:=0) (by omega)) (fun b3 o4 hok5=> ?_)
  replace hok5:=zI.1 hok5
  refine r_u rfl rfl (zC (j:=0) 0 ty131 rfl rfl rfl rfl)<|r_pv rfl rfl (zqb rfl rfl)<|zl<|zg<|zV rfl (fun hb=> ?_) (fun hb=> ?_)
  ·
   refine zk<|zc<|r_pv rfl rfl (zh rfl)<|zl<|zg<|zT<|zia<|zx<|zx<|zia<|zx ?_
   exact zO Tryz.results65 () trivial (zG rfl) (congrArg Value.bool (decide_eq_false (fun h=>((Big.canon_more (by omega)).1 h).2 ⟨_,Big.getD_mem (by omega),hb⟩))) (ho:=(.n:PickO _ _ _)) (.n:SelR _ _ _)
  ·
   refine zE<|zN<|zg<|zc<|r_pv rfl rfl (zd rfl)<|r_pv rfl rfl (zM (z:=(((i+1):Nat):Int)) rfl rfl (w64 (by omega)))<|r_pv rfl rfl (zh rfl)<|zl<|zva (i+1) (show (i+1)≤n∧∀j,j<(i+1)→l.getD j 0<1000000000 from by refine ⟨by omega,fun j hj=> ?_⟩;by_cases e:j=i;subst e;omega;exact hall j (by omega)) (by show n - (i+1)<n - i;omega) ((.of rfl):SubM _ _) (ho:=((.c (i:=0) rfl .n):PickO _ _ _)) ((.c (j:=1) rfl .n):SelR _ _ _)
 ·
  refine zna<|zp<|zp<|zH<|zg<|zk<|zk<|zc<|r_pv rfl rfl (zd rfl)<|r_pv rfl rfl (zMa rfl rfl)<|zl<|zg<|zV rfl (fun h0=> ?_) (fun h0=> ?_)
  ·
   refine zk<|zc<|r_pv rfl rfl (zi Tryz.underlying42 rfl sz4 rfl rfl)<|r_u rfl rfl (zf 0 ty4 rfl rfl rfl)<|r_pv rfl rfl (zNb rfl)<|r_pv rfl rfl (zh rfl)<|zl<|zg<|zT<|zx ?_
   exact zO Tryz.results65 () trivial (zG rfl) (congrArg Value.bool (by have:l.length=0:=(by omega);cases s <;> simp [Big.canon,this])) (ho:=(.n:PickO _ _ _)) (.n:SelR _ _ _)
  ·
   refine zE<|zg<|zk<|zc<|r_pv rfl rfl (zi Tryz.underlying42 rfl sz40 rfl rfl)<|r_u rfl rfl (zf 0 ty40 rfl rfl rfl)<|r_pv rfl rfl (zd rfl)<|r_pv rfl rfl (zma (z:=(((n:Nat):Int) - 1)) rfl rfl (w64 (by omega)))<|zQ (x0:=(l.getD ((((n:Nat):Int) - 1).toNat) 0)) 0 ((((n:Nat):Int) - 1).toNat) rfl Tryz.underlying40 sz131 rfl rfl rfl (by first|rfl|assumption|(simp_all;done)|omega) rfl (by omega) (gD (d:=0) (by omega)) (fun b6 o7 hok8=> ?_)
   replace hok8:=zI.1 hok8
   refine r_u rfl rfl (zC (j:=0) 0 ty131 rfl rfl rfl rfl)<|r_pv rfl rfl (ztb rfl rfl)<|r_pv rfl rfl (zh rfl)<|zl<|zg<|zT ?_
   exact zO Tryz.results65 () trivial (zG rfl) (congrArg Value.bool (decide_eq_decide.2 (by rw [Big.canon_more (by omega),hn];have e:((n:Int) - 1).toNat=n - 1:=(by omega);rw [e];exact ⟨fun h=>h.1,fun h=>⟨h,fun ⟨g,hg,hb⟩=>by obtain ⟨j,hj,e⟩:=Big.mem_getD hg;have:=hall j (by omega);omega⟩⟩))) (ho:=(.n:PickO _ _ _)) (.n:SelR _ _ _)
theorem zbb {s:Bool} {p:Option Addr} {n:Nat} {cap:Nat} {l:List Int} (hn:l.length=n) (hln:n≤1099511627776):Con Tryz.prog 90 [.agg #[.bool s,.slice p n cap]] [] [slF (rI .u32) p cap l] (Y:=(Option Addr)×Nat) (fun y=>True) (fun y=> .agg #[.bool (decide ((Big.raw s l)<0)),.slice (y.1) ((Big.digs ((Big.raw s l).natAbs)).length) (y.2)]) (fun y=>[]) (fun y=>[slF (rI .u32) (y.1) (y.2) (Big.digs ((Big.raw s l).natAbs))]):=by
 refine zA Tryz.func90 rfl rfl rfl (fun c=> ?_)
 show RunC _ _ _ _ _ [(0,.agg #[.bool s,.slice p n cap])] [] [slF (rI .u32) p cap l]
 refine zra 0 rfl (fun hL0=> ?_)
 refine zfb 0 rfl (fun hE0=> ?_)
 have hnn:Big.nn l:=fun g hg=>(zI.1 (hE0 g hg)).1
 refine zk<|zc<|zK rfl rfl (zfa rfl rfl) (fun b1=> ?_)
 refine zK rfl rfl (zq zr42 rfl) (fun b2=> ?_)
 refine zl<|zg<|zk<|zk<|zc<|r_u rfl rfl (ze 1 ty42 rfl rfl (.take (.take .nil)))<|zX rfl rfl (.c rfl .n) ce65 (zyc (s:=s) (p:=p) (n:=n) (cap:=cap) (l:=l) (hn:=by assumption)) (.c (j:=0) rfl .n)<|r_pv rfl rfl (zSa rfl)<|zl<|zg<|zV rfl (fun hc=> ?_) (fun hc=> ?_)
 ·
  refine zk<|zc<|r_pv rfl rfl (zw zr42 rfl Tryz.underlying42 (.c sz4 (.c sz40 .n)) .n .n)<|zn 0 rfl rfl rfl rfl rfl sz42 rfl (.take (.take .nil)) .z<|zl<|zg<|zT<|zx ?_
  have hz:Big.raw s l=0:=by unfold Big.raw;rw [if_neg hc]
  refine zDd (rI .u32) ?_
  exact zO Tryz.results90 (none,0) trivial (zu 0 ty42 rfl rfl (.take (.take .nil))) (by rw [hz];rfl) (ho:=(.n:PickO _ _ _)) ((.e (j:=0) rfl (by rw [hz];rfl) .n):SelR _ _ _)
 ·
  refine zE<|zg<|zk<|zS (OW:=[boxA b2 42 [.bool false,.slice none 0 0]]) (O:=[boxA b1 42 [.bool s,.slice p n cap]]) 5 mixed (.then .ret) (by kernel_rfl)<|d_pv 0 rfl rfl (by kernel_rfl) (by kernel_rfl) rfl rfl (zi Tryz.underlying42 rfl sz4 rfl rfl)<|d_u 1 rfl rfl (by kernel_rfl) (by kernel_rfl) rfl rfl (zf 0 ty4 rfl rfl rfl)<|d_pv 3 rfl rfl (by kernel_rfl) (by kernel_rfl) rfl rfl (zi Tryz.underlying42 rfl sz40 rfl rfl)<|d_uw 4 rfl rfl (by kernel_rfl) (by kernel_rfl) (by kernel_rfl) rfl rfl (zf 1 ty40 rfl rfl rfl)<|zt 2 (by kernel_rfl) (zxa rfl rfl rfl rfl (zCa (rI .u32) Tryz.underlying40 inf131) (fun b3 _=> ?_))
  refine zt 5 (by kernel_rfl) (zAf (A':=fun v:Option Addr×Nat=>rowA 131 (rI .u32) v.1 v.2 (([])++l)) (by kernel_rfl) rfl rfl rfl (zNa 0 rfl Tryz.underlying40 inf131 (by decide) rfl rfl (by first|rfl|assumption|(simp_all;done)|omega) rfl (by first|rfl|assumption|(simp_all;done)|omega) (by omega) (by omega)) ?_)
  rintro ⟨p4,c5⟩ -
  dsimp only [List.append_eq,List.nil_append,List.cons_append]
  refine d_pv 6 rfl rfl (by kernel_rfl) (by kernel_rfl) rfl rfl (zw zr42 rfl Tryz.underlying42 (.c sz4 (.c sz40 .n)) (.c rfl (.c rfl .n)) (.c rfl rfl rfl (.take .nil) (.c rfl rfl rfl (.skip (.take .nil)) .n)))<|zWa (zpa (i:=1) rfl)<|zt 7 (by kernel_rfl) (zr (by kernel_rfl) rfl rfl rfl rfl rfl sz42 rfl (.take (.take .nil)) ?_)
  refine zR (by kernel_rfl)<|zg<|zT ?_
  have hcc:Big.canon s l:=Decidable.not_not.1 hc
  have hd:Big.digs (Big.raw s l).natAbs=l:=by rw [Big.raw_digs hnn,if_pos hcc]
  have hs:=Big.raw_sign hnn hcc
  refine zUb 1 rfl (.s .z) ?_
  exact zO Tryz.results90 (p4,c5) trivial (zu 0 ty42 rfl rfl (.take (.take .nil))) (by rw [hs,hd,hn,Nat.zero_add]) (ho:=(.n:PickO _ _ _)) ((.e (j:=0) rfl (by rw [hd] <;> rfl) .n):SelR _ _ _)
theorem zVc {z:Int} {p:Option Addr} {cap:Nat} (hln:Big.ln z≤1099511627776):Con Tryz.prog 90 [.agg #[.bool (decide ((z)<0)),.slice (p) ((Big.digs ((z).natAbs)).length) (cap)]] [] [slF (rI .u32) (p) (cap) (Big.digs ((z).natAbs))] (Y:=(Option Addr)×(Nat)) (fun y=>True) (fun y=> .agg #[.bool (decide ((z)<0)),.slice (y.1) ((Big.digs ((z).natAbs)).length) (y.2)]) (fun y=>[]) (fun y=>[slF (rI .u32) (y.1) (y.2) (Big.digs ((z).natAbs))]):=by
  have h:= @zbb (decide ((z)<0)) p (Big.digs (z).natAbs).length cap (Big.digs (z).natAbs) rfl hln
  rw [Big.raw_big] at h
  exact h
theorem zSe {z:Int} (hz: -9223372036854775808≤z∧z≤9223372036854775807):Con Tryz.prog 87 [.int .i64 z] [] [] (Y:=(Option Addr)×Nat) (fun y=>True) (fun y=> .agg #[.bool (decide (z<0)),.slice (y.1) ((Big.digs ((z).natAbs)).length) (y.2)]) (fun y=>[]) (fun y=>[slF (rI .u32) (y.1) (y.2) (Big.digs ((z).natAbs))]):=by
 refine zA Tryz.func87 rfl rfl rfl (fun c=> ?_)
 show RunC _ _ _ _ _ [(0,.int .i64 z)] [] []
 refine zk<|zc<|zK rfl rfl (zq zr42 rfl) (fun b1=> ?_)
 refine zl<|zg<|zk<|zc<|r_pv rfl rfl (zd rfl)<|r_pv rfl rfl (zL (z:=(z%18446744073709551616)) rfl (by rw [Tryz.underlying3];rfl) Tryz.underlying130 (wu64m (by omega)))<|r_pv rfl rfl (zh rfl)<|zl<|zg<|zKa (X:=Unit) (fun x=>True) (fun x=>[(3,.int .u64 ((z.natAbs:Nat):Int)),(2,.pointer (some ⟨b1,0,none⟩)),(0,.int .i64 z)]) (fun x=>[boxA b1 42 [.bool false,.slice none 0 0]]) (fun x=>[]) ?_ ?_
 ·
  refine zk<|zc<|r_pv rfl rfl (zd rfl)<|r_pv rfl rfl (zU rfl rfl)<|zl<|zg<|zV rfl (fun hs=> ?_) (fun hs=> ?_)
  ·
   refine zc<|r_pv rfl rfl (zd rfl)<|r_pv rfl rfl (zM (z:=(z+1)) rfl rfl (w64 (by omega)))<|r_pv rfl rfl (zCc (z:=(-(z+1))) rfl (w64 (by omega)))<|r_pv rfl rfl (zL (z:=(-(z+1))) rfl (by rw [Tryz.underlying3];rfl) Tryz.underlying130 (wu64 (by omega)))<|r_pv rfl rfl (zM (z:=((z.natAbs:Nat):Int)) rfl rfl (wu64 (by omega)))<|r_pv rfl rfl (zh rfl)<|zl ?_
   exact zoa () (show True from by first|trivial|omega|simp_all) ((.of rfl):SubM _ _) (ho:=((.c (i:=0) rfl .n):PickO _ _ _)) (.n:SelR _ _ _)
  ·
   have e2:((z%18446744073709551616):Int)=((z.natAbs:Nat):Int):=by omega
   rw [e2]
   refine zE ?_
   exact zoa () (show True from by first|trivial|omega|simp_all) ((.of rfl):SubM _ _) (ho:=((.c (i:=0) rfl .n):PickO _ _ _)) (.n:SelR _ _ _)
 ·
  rintro ⟨⟩ -
  try dsimp only
  refine zk<|zc<|zLa rfl rfl (zCa (rI .u32) Tryz.underlying40 inf131) (fun b3 _=> ?_)
  refine r_pv rfl rfl (zh rfl)<|zl<|zg<|zk<|zv<|zAa (X:=Nat×(Option Addr)×Nat×(List Int)) (fun x:Nat×(Option Addr)×Nat×(List Int)=>x.1≤z.natAbs∧x.2.2.2++Big.digs x.1=Big.digs z.natAbs) (fun x=>[(4,.slice (x.2.1) (x.2.2.2.length) (x.2.2.1)),(3,.int .u64 ((x.1:Nat):Int)),(2,.pointer (some ⟨b1,0,none⟩)),(0,.int .i64 z)]) (fun x=>[rowA 131 (rI .u32) (x.2.1) (x.2.2.1) (x.2.2.2),boxA b1 42 [.bool false,.slice none 0 0]]) (fun x=>[]) (fun x:Nat×(Option Addr)×Nat×(List Int)=>x.1) (z.natAbs,some ⟨b3,0,none⟩,0,[]) (show z.natAbs≤z.natAbs∧([])++Big.digs z.natAbs=Big.digs z.natAbs from by exact ⟨Nat.le_refl _,rfl⟩) ((.e rfl (by first|rfl|(congr 1;omega)|simp_all) (.of rfl)):SubM _ _) (ho:=((.of [0,0] rfl):PickO _ _ _)) (.n:SelR _ _ _) ?_
  rintro ⟨m,p,c,os⟩ hI
  replace hI:m≤z.natAbs∧os++Big.digs m=Big.digs z.natAbs:=hI
  try dsimp only
  obtain ⟨hnn,hos⟩:=hI
  have hlen0:os.length+(Big.digs m).length≤3:=by have:=congrArg List.length hos;rw [List.length_append] at this;have:=Big.zKe (show z.natAbs<18446744073709551616 by omega);omega
  refine zk<|zk<|zc<|r_pv rfl rfl (zd rfl)<|r_pv rfl rfl (zeb rfl rfl)<|zl<|zg<|zV rfl (fun h4=> ?_) (fun h4=> ?_)
  ·
   refine zE<|zg<|zv<|zk<|zc<|r_pv rfl rfl (zd rfl)<|r_pv rfl rfl (zd rfl)<|r_pv rfl rfl (zUa (z:=(((m%1000000000):Nat):Int)) rfl rfl (by omega) (remN (by omega) (by omega)))<|r_pv rfl rfl (zL (z:=(((m%1000000000):Nat):Int)) rfl (by rw [Tryz.underlying130];rfl) Tryz.underlying131 (wu32 (by omega)))<|zLa rfl rfl (zda (enc:=fun z:Int=>[.int .u32 z]) (ok:=InK .u32) (h1:=fun _=>rfl) (h2:=fun _=>rfl) (k:=1) Tryz.underlying40 inf131 rfl (by decide) (by decide) (by decide) (.c (x:=(((m%1000000000):Nat):Int)) rfl rfl (fun _ _=>by exact zI.2 (by omega)) .n)) (fun b5 _=> ?_)
   refine zsa 0 rfl .z<|zZa 1 rfl rfl rfl (zNa 0 rfl Tryz.underlying40 inf131 (by decide) rfl rfl (by first|rfl|assumption|(simp_all;done)|omega) rfl (by first|rfl|assumption|(simp_all;done)|omega) (by omega) (by omega)) (fun _=>(.s .z)) ?_
   rintro ⟨p6,c7⟩ -
   dsimp only [List.append_eq,List.nil_append,List.cons_append]
   refine r_pv rfl rfl (zh rfl)<|zl<|zg<|zc<|r_pv rfl rfl (zd rfl)<|r_pv rfl rfl (zdb (z:=(((m / 1000000000):Nat):Int)) rfl rfl (by omega) (by rw [quoN (z:=(((m / 1000000000):Nat):Int)) (by omega) (by omega)];exact wu64 (by omega)))<|r_pv rfl rfl (zh rfl)<|zl<|zN<|zva ((m / 1000000000),p6,c7,os++[((m%1000000000:Nat):Int)]) (show (m / 1000000000)≤z.natAbs∧(os++[((m%1000000000:Nat):Int)])++Big.digs (m / 1000000000)=Big.digs z.natAbs from by exact ⟨by omega,Big.split_step (by omega) hos⟩) (by show m / 1000000000<m;omega) ((.e rfl (by simp) (.of rfl)):SubM _ _) (ho:=((.e (i:=1) rfl (by first|rfl|(congr 1;omega)|simp_all) (.c (i:=1) rfl .n)):PickO _ _ _)) (.n:SelR _ _ _)
  ·
   have hm0:m=0:=by omega
   subst hm0
   have hd:os=Big.digs z.natAbs:=by simpa [Big.digs_zero] using hos
   have hok:Big.okL os:=by rw [hd];exact Big.digs_ok _
   have hlen:os.length≤3:=by rw [hd];exact Big.zKe (by omega)
   have hsg:Big.sg (decide (z<0)) (Big.valL os)=z:=by rw [hd,Big.valL_digs];exact Big.sg_big z
   refine zna<|zp<|zp<|zH<|zg<|zk<|zc<|r_pv rfl rfl (zd rfl)<|r_pv rfl rfl (zU rfl rfl)<|r_pv rfl rfl (zd rfl)<|zsa 0 rfl .z<|zJ rfl rfl (.c rfl (.c rfl .n)) ce91 (zRa (s:=decide (z<0)) (p:=p) (n:=os.length) (cap:=c) (l:=os) (hn:=by first|rfl|omega) (ho:=by exact hok) (hln:=by first|rfl|omega)) (.c (j:=0) rfl .n) ?_
   rintro ⟨p28,c29⟩ -
   dsimp only [List.append_eq,List.nil_append,List.cons_append]
   refine zn 1 rfl rfl rfl rfl rfl sz42 rfl (.take (.take .nil)) (.s .z)<|zl<|zg<|zT ?_
   exact zO Tryz.results87 (p28,c29) trivial (zu 1 ty42 rfl rfl (.take (.take .nil))) (by rw [hsg]) (ho:=(.n:PickO _ _ _)) ((.e (j:=0) rfl (by rw [hsg]) .n):SelR _ _ _)
theorem zTe {a:Nat} {b:Nat} {p1:Option Addr} {c1:Nat} {p2:Option Addr} {c2:Nat} (hb1:(Big.digs a).length≤1099511627776) (hb2:(Big.digs b).length≤1099511627776):Con Tryz.prog 92 [.slice p1 ((Big.digs a).length) c1,.slice p2 ((Big.digs b).length) c2] [] [slF (rI .u32) p1 c1 (Big.digs a),slF (rI .u32) p2 c2 (Big.digs b)] (Y:=(Option Addr)×Nat) (fun y=>True) (fun y=> .slice (y.1) ((Big.digs (a+b)).length) (y.2)) (fun y=>[]) (fun y=>[slF (rI .u32) (y.1) (y.2) (Big.digs (a+b))]):=by
 refine zA Tryz.func92 rfl rfl rfl (fun c=> ?_)
 show RunC _ _ _ _ _ [(0,.slice p1 ((Big.digs a).length) c1),(1,.slice p2 ((Big.digs b).length) c2)] [] [slF (rI .u32) p1 c1 (Big.digs a),slF (rI .u32) p2 c2 (Big.digs b)]
 refine zra 0 rfl (fun hL0=> ?_)
 refine zra 1 rfl (fun hL1=> ?_)
 refine zk<|zc<|r_pv rfl rfl (zh rfl)<|zl<|zg<|zk<|zc<|zLa rfl rfl (zCa (rI .u32) Tryz.underlying40 inf131) (fun b1 _=> ?_)
 refine r_pv rfl rfl (zh rfl)<|zl<|zg<|zk<|zc<|r_pv rfl rfl (zh rfl)<|zl<|zg<|zk<|zk<|zc<|r_pv rfl rfl (zh rfl)<|zl<|zg<|zv<|zAa (X:=Nat×(Option Addr)×Nat×(List Int)×Int) (fun x:Nat×(Option Addr)×Nat×(List Int)×Int=>x.1≤max (Big.digs a).length (Big.digs b).length∧x.2.2.2.1.length=x.1∧0≤x.2.2.2.2∧x.2.2.2.2≤1∧Big.okL x.2.2.2.1∧Big.valL x.2.2.2.1+Big.pw x.1*x.2.2.2.2=Big.valL ((Big.digs a).take x.1)+Big.valL ((Big.digs b).take x.1)) (fun x=>[(6,.int .u64 (x.2.2.2.2)),(5,.slice (x.2.1) (x.2.2.2.1.length) (x.2.2.1)),(7,.int .i64 ((x.1:Nat):Int)),(4,.slice none 0 0),(0,.slice p1 ((Big.digs a).length) c1),(1,.slice p2 ((Big.digs b).length) c2)]) (fun x=>[rowA 131 (rI .u32) (x.2.1) (x.2.2.1) (x.2.2.2.1)]) (fun x=>[slF (rI .u32) p1 c1 (Big.digs a),slF (rI .u32) p2 c2 (Big.digs b)]) (fun x:Nat×(Option Addr)×Nat×(List Int)×Int=>max (Big.digs a).length (Big.digs b).length - x.1) (0,some ⟨b1,0,none⟩,0,[],0) (show 0≤max (Big.digs a).length (Big.digs b).length∧([]).length=0∧0≤0∧0≤1∧Big.okL ([])∧Big.valL ([])+Big.pw 0*0=Big.valL ((Big.digs a).take 0)+Big.valL ((Big.digs b).take 0) from by exact ⟨by omega,rfl,by decide,by decide,Big.okL_nil,by simp [Big.valL]⟩) ((.c rfl (.e rfl (by first|rfl|(congr 1;omega)|simp_all) (.e rfl (by first|rfl|(congr 1;omega)|simp_all) (.of rfl)))):SubM _ _) (ho:=((.c (i:=0) rfl .n):PickO _ _ _)) ((.of [0,1] rfl):SelR _ _ _) ?_
 rintro ⟨i,p,c,os,cy⟩ hI
 replace hI:i≤max (Big.digs a).length (Big.digs b).length∧os.length=i∧0≤cy∧cy≤1∧Big.okL os∧Big.valL os+Big.pw i*cy=Big.valL ((Big.digs a).take i)+Big.valL ((Big.digs b).take i):=hI
 try dsimp only
 obtain ⟨hi,hol,hc0,hc1,hok,hv⟩:=hI
 have hg1:=Big.okL_getD (Big.digs_ok a) i
 have hg2:=Big.okL_getD (Big.digs_ok b) i
 refine zk<|zKa (X:=Unit) (fun x=>True) (fun x=>[(19,.bool (decide (i<(Big.digs a).length∨i<(Big.digs b).length))),(6,.int .u64 cy),(5,.slice p (os.length) c),(7,.int .i64 ((i:Nat):Int)),(4,.slice none 0 0),(0,.slice p1 ((Big.digs a).length) c1),(1,.slice p2 ((Big.digs b).length) c2)]) (fun x=>[rowA 131 (rI .u32) p c os]) (fun x=>[slF (rI .u32) p1 c1 (Big.digs a),slF (rI .u32) p2 c2 (Big.digs b)]) ?_ ?_
 ·
  refine zc<|r_pv rfl rfl (zd rfl)<|r_pv rfl rfl (zd rfl)<|r_pv rfl rfl (zga Tryz.underlying40 rfl)<|r_pv rfl rfl (zU rfl rfl)<|zta rfl rfl (zd rfl) (fun h2=> ?_) (fun h2=> ?_)
  ·
   refine zm rfl rfl<|zm rfl rfl<|zm rfl rfl<|zm rfl rfl<|r_pv rfl rfl (zW rfl rfl)<|zl ?_
   exact zoa () (show True from by first|trivial|omega|simp_all) ((.e rfl (congrArg Value.bool (by simp;omega)) (.of rfl)):SubM _ _) (ho:=((.c (i:=0) rfl .n):PickO _ _ _)) ((.of [0,1] rfl):SelR _ _ _)
  ·
   refine r_pv rfl rfl (zd rfl)<|r_pv rfl rfl (zd rfl)<|r_pv rfl rfl (zga Tryz.underlying40 rfl)<|r_pv rfl rfl (zU rfl rfl)<|r_pv rfl rfl (zW rfl rfl)<|zl ?_
   exact zoa () (show True from by first|trivial|omega|simp_all) ((.e rfl (congrArg Value.bool (by simp;omega)) (.of rfl)):SubM _ _) (ho:=((.c (i:=0) rfl .n):PickO _ _ _)) ((.of [0,1] rfl):SelR _ _ _)
 ·
  rintro ⟨⟩ -
  try dsimp only
  refine zV rfl (fun hc=> ?_) (fun hc=> ?_)
  ·
   refine zE<|zg<|zk<|zv<|zk<|zc<|r_pv rfl rfl (zd rfl)<|r_pv rfl rfl (zd rfl)<|zX rfl rfl (.c rfl (.c rfl .n)) ce109 (zjb (p:=p1) (n:=(Big.digs a).length) (cap:=c1) (l:=Big.digs a) (i:=i) (hn:=by first|rfl|assumption|omega|(simp;done)|(simp;omega)|(simp_all;done)) (hi:=by first|rfl|assumption|omega|(simp;done)|(simp;omega)|(simp_all;done))) (.c (j:=0) rfl .n)<|r_pv rfl rfl (zd rfl)<|r_pv rfl rfl (zd rfl)<|zX rfl rfl (.c rfl (.c rfl .n)) ce109 (zjb (p:=p2) (n:=(Big.digs b).length) (cap:=c2) (l:=Big.digs b) (i:=i) (hn:=by first|rfl|assumption|omega|(simp;done)|(simp;omega)|(simp_all;done)) (hi:=by first|rfl|assumption|omega|(simp;done)|(simp;omega)|(simp_all;done))) (.c (j:=1) rfl .n)<|r_pv rfl rfl (zM (z:=((Big.digs a).getD i 0+(Big.digs b).getD i 0)) rfl rfl (wu64 (by omega)))<|r_pv rfl rfl (zd rfl)<|r_pv rfl rfl (zM (z:=(((Big.digs a).getD i 0+(Big.digs b).getD i 0)+cy)) rfl rfl (wu64 (by omega)))<|r_pv rfl rfl (zh rfl)<|zl<|zg<|zk<|zc<|r_pv rfl rfl (zd rfl)<|r_pv rfl rfl (zd rfl)<|r_pv rfl rfl (zUa (z:=((((Big.digs a).getD i 0+(Big.digs b).getD i 0)+cy)%1000000000)) rfl rfl (by omega) (remN (by omega) (by omega)))<|r_pv rfl rfl (zL (z:=((((Big.digs a).getD i 0+(Big.digs b).getD i 0)+cy)%1000000000)) rfl (by rw [Tryz.underlying130];rfl) Tryz.underlying131 (wu32 (by omega)))<|zLa rfl rfl (zda (enc:=fun z:Int=>[.int .u32 z]) (ok:=InK .u32) (h1:=fun _=>rfl) (h2:=fun _=>rfl) (k:=1) Tryz.underlying40 inf131 rfl (by decide) (by decide) (by decide) (.c (x:=((((Big.digs a).getD i 0+(Big.digs b).getD i 0)+cy)%1000000000)) rfl rfl (fun _ _=>by exact zI.2 (by omega)) .n)) (fun b3 _=> ?_)
   refine zsa 0 rfl .z<|zZa 1 rfl rfl rfl (zNa 0 rfl Tryz.underlying40 inf131 (by decide) rfl rfl (by first|rfl|assumption|(simp_all;done)|omega) rfl (by first|rfl|assumption|(simp_all;done)|omega) (by omega) (by omega)) (fun _=>(.s .z)) ?_
   rintro ⟨p4,c5⟩ -
   dsimp only [List.append_eq,List.nil_append,List.cons_append]
   refine r_pv rfl rfl (zh rfl)<|zl<|zg<|zc<|r_pv rfl rfl (zd rfl)<|r_pv rfl rfl (zdb (z:=((((Big.digs a).getD i 0+(Big.digs b).getD i 0)+cy) / 1000000000)) rfl rfl (by omega) (by rw [quoN (z:=((((Big.digs a).getD i 0+(Big.digs b).getD i 0)+cy) / 1000000000)) (by omega) (by omega)];exact wu64 (by omega)))<|r_pv rfl rfl (zh rfl)<|zl<|zN<|zg<|zc<|r_pv rfl rfl (zd rfl)<|r_pv rfl rfl (zM (z:=(((i+1):Nat):Int)) rfl rfl (w64 (by omega)))<|r_pv rfl rfl (zh rfl)<|zl<|zva ((i+1),p4,c5,os++[((Big.digs a).getD i 0+(Big.digs b).getD i 0+cy)%1000000000],((Big.digs a).getD i 0+(Big.digs b).getD i 0+cy) / 1000000000) (show (i+1)≤max (Big.digs a).length (Big.digs b).length∧(os++[((Big.digs a).getD i 0+(Big.digs b).getD i 0+cy)%1000000000]).length=(i+1)∧0≤(((Big.digs a).getD i 0+(Big.digs b).getD i 0+cy) / 1000000000)∧(((Big.digs a).getD i 0+(Big.digs b).getD i 0+cy) / 1000000000)≤1∧Big.okL (os++[((Big.digs a).getD i 0+(Big.digs b).getD i 0+cy)%1000000000])∧Big.valL (os++[((Big.digs a).getD i 0+(Big.digs b).getD i 0+cy)%1000000000])+Big.pw (i+1)*(((Big.digs a).getD i 0+(Big.digs b).getD i 0+cy) / 1000000000)=Big.valL ((Big.digs a).take (i+1))+Big.valL ((Big.digs b).take (i+1)) from by exact ⟨by omega,by simp [hol],by omega,by omega,Big.okL_snoc hok (by omega) (by omega),Big.plus_step hol hv (by omega)⟩) (by show max (Big.digs a).length (Big.digs b).length - (i+1)<max (Big.digs a).length (Big.digs b).length - i;omega) ((.e rfl (by first|rfl|(congr 1;omega)|simp_all) (.e rfl (by simp) (.of rfl))):SubM _ _) (ho:=((.e (i:=1) rfl (by first|rfl|(congr 1;omega)|simp_all) .n):PickO _ _ _)) ((.of [1,2] rfl):SelR _ _ _)
  ·
   have hok2:=Big.okL_snoc hok hc0 (show cy<1000000000 by omega)
   have hfin:=Big.plus_end (a:=a) (b:=b) hol (by omega) (by omega) hv
   refine zna<|zp<|zp<|zH<|zg<|zk<|zc<|r_pv rfl rfl (zd rfl)<|r_pv rfl rfl (zd rfl)<|r_pv rfl rfl (zL (z:=cy) rfl (by rw [Tryz.underlying130];rfl) Tryz.underlying131 (wu32 (by omega)))<|zLa rfl rfl (zda (enc:=fun z:Int=>[.int .u32 z]) (ok:=InK .u32) (h1:=fun _=>rfl) (h2:=fun _=>rfl) (k:=1) Tryz.underlying40 inf131 rfl (by decide) (by decide) (by decide) (.c (x:=cy) rfl rfl (fun _ _=>by exact zI.2 (by omega)) .n)) (fun b6 _=> ?_)
   refine zsa 0 rfl .z<|zZa 1 rfl rfl rfl (zNa 0 rfl Tryz.underlying40 inf131 (by decide) rfl rfl (by first|rfl|assumption|(simp_all;done)|omega) rfl (by first|rfl|assumption|(simp_all;done)|omega) (by omega) (by omega)) (fun _=>(.s .z)) ?_
   rintro ⟨p7,c8⟩ -
   dsimp only [List.append_eq,List.nil_append,List.cons_append]
   refine zsa 1 rfl (.s .z)<|zJ rfl rfl (.c rfl (.c rfl .n)) ce91 (zRa (s:=false) (p:=p7) (n:=os.length+1) (cap:=c8) (l:=(os++([cy]))) (hn:=by first|rfl|omega|(simp;done)|(simp;omega)) (ho:=by exact hok2) (hln:=by first|rfl|omega|(simp;done)|(simp;omega))) (.c (j:=0) rfl .n) ?_
   rintro ⟨p29,c210⟩ -
   dsimp only [List.append_eq,List.nil_append,List.cons_append]
   refine r_pv rfl rfl (zIa Tryz.underlying42 rfl ty40 rfl rfl)<|r_pv rfl rfl (zh rfl)<|zl<|zg<|zT ?_
   exact zO Tryz.results92 (p29,c210) trivial (zG rfl) (by rw [hfin]) (ho:=(.n:PickO _ _ _)) ((.e (j:=0) rfl (by rw [hfin]) .n):SelR _ _ _)
theorem zXb {a:Nat} {b:Nat} {p1:Option Addr} {c1:Nat} {p2:Option Addr} {c2:Nat} (hb1:(Big.digs a).length≤1099511627776) (hb2:(Big.digs b).length≤1099511627776) (hab:b≤a):Con Tryz.prog 94 [.slice p1 ((Big.digs a).length) c1,.slice p2 ((Big.digs b).length) c2] [] [slF (rI .u32) p1 c1 (Big.digs a),slF (rI .u32) p2 c2 (Big.digs b)] (Y:=(Option Addr)×Nat) (fun y=>True) (fun y=> .slice (y.1) ((Big.digs (a - b)).length) (y.2)) (fun y=>[]) (fun y=>[slF (rI .u32) (y.1) (y.2) (Big.digs (a - b))]):=by
 refine zA Tryz.func94 rfl rfl rfl (fun c=> ?_)
 show RunC _ _ _ _ _ [(0,.slice p1 ((Big.digs a).length) c1),(1,.slice p2 ((Big.digs b).length) c2)] [] [slF (rI .u32) p1 c1 (Big.digs a),slF (rI .u32) p2 c2 (Big.digs b)]
 refine zra 0 rfl (fun hL0=> ?_)
 refine zra 1 rfl (fun hL1=> ?_)
 refine zk<|zc<|r_pv rfl rfl (zh rfl)<|zl<|zg<|zk<|zc<|zLa rfl rfl (zCa (rI .u32) Tryz.underlying40 inf131) (fun b1 _=> ?_)
 refine r_pv rfl rfl (zh rfl)<|zl<|zg<|zk<|zc<|r_pv rfl rfl (zh rfl)<|zl<|zg<|zk<|zk<|zc<|r_pv rfl rfl (zh rfl)<|zl<|zg<|zv<|zAa (X:=Nat×(Option Addr)×Nat×(List Int)×Int) (fun x:Nat×(Option Addr)×Nat×(List Int)×Int=>x.1≤(Big.digs a).length∧x.2.2.2.1.length=x.1∧0≤x.2.2.2.2∧x.2.2.2.2≤1∧Big.okL x.2.2.2.1∧Big.valL x.2.2.2.1+Big.valL ((Big.digs b).take x.1)=Big.valL ((Big.digs a).take x.1)+Big.pw x.1*x.2.2.2.2) (fun x=>[(6,.int .u64 (x.2.2.2.2)),(5,.slice (x.2.1) (x.2.2.2.1.length) (x.2.2.1)),(7,.int .i64 ((x.1:Nat):Int)),(4,.slice none 0 0),(0,.slice p1 ((Big.digs a).length) c1),(1,.slice p2 ((Big.digs b).length) c2)]) (fun x=>[rowA 131 (rI .u32) (x.2.1) (x.2.2.1) (x.2.2.2.1)]) (fun x=>[slF (rI .u32) p1 c1 (Big.digs a),slF (rI .u32) p2 c2 (Big.digs b)]) (fun x:Nat×(Option Addr)×Nat×(List Int)×Int=>(Big.digs a).length - x.1) (0,some ⟨b1,0,none⟩,0,[],0) (show 0≤(Big.digs a).length∧([]).length=0∧0≤0∧0≤1∧Big.okL ([])∧Big.valL ([])+Big.valL ((Big.digs b).take 0)=Big.valL ((Big.digs a).take 0)+Big.pw 0*0 from by exact ⟨by omega,rfl,by decide,by decide,Big.okL_nil,by simp [Big.valL]⟩) ((.c rfl (.e rfl (by first|rfl|(congr 1;omega)|simp_all) (.e rfl (by first|rfl|(congr 1;omega)|simp_all) (.of rfl)))):SubM _ _) (ho:=((.c (i:=0) rfl .n):PickO _ _ _)) ((.of [0,1] rfl):SelR _ _ _) ?_
 rintro ⟨i,p,c,os,bo⟩ hI
 replace hI:i≤(Big.digs a).length∧os.length=i∧0≤bo∧bo≤1∧Big.okL os∧Big.valL os+Big.valL ((Big.digs b).take i)=Big.valL ((Big.digs a).take i)+Big.pw i*bo:=hI
 try dsimp only
 obtain ⟨hi,hol,hc0,hc1,hok,hv⟩:=hI
 have hg1:=Big.okL_getD (Big.digs_ok a) i
 have hg2:=Big.okL_getD (Big.digs_ok b) i
 refine zk<|zk<|zc<|r_pv rfl rfl (zd rfl)<|r_pv rfl rfl (zd rfl)<|r_pv rfl rfl (zga Tryz.underlying40 rfl)<|r_pv rfl rfl (zU rfl rfl)<|zl<|zg<|zV rfl (fun h2=> ?_) (fun h2=> ?_)
 ·
  refine zE<|zg<|zk<|zv<|zk<|zc<|r_pv rfl rfl (zd rfl)<|r_pv rfl rfl (zd rfl)<|zX rfl rfl (.c rfl (.c rfl .n)) ce109 (zjb (p:=p1) (n:=(Big.digs a).length) (cap:=c1) (l:=Big.digs a) (i:=i) (hn:=by first|rfl|assumption|omega|(simp;done)|(simp;omega)|(simp_all;done)) (hi:=by first|rfl|assumption|omega|(simp;done)|(simp;omega)|(simp_all;done))) (.c (j:=0) rfl .n)<|r_pv rfl rfl (zM (z:=(1000000000+(Big.digs a).getD i 0)) rfl rfl (wu64 (by omega)))<|r_pv rfl rfl (zd rfl)<|r_pv rfl rfl (zd rfl)<|zX rfl rfl (.c rfl (.c rfl .n)) ce109 (zjb (p:=p2) (n:=(Big.digs b).length) (cap:=c2) (l:=Big.digs b) (i:=i) (hn:=by first|rfl|assumption|omega|(simp;done)|(simp;omega)|(simp_all;done)) (hi:=by first|rfl|assumption|omega|(simp;done)|(simp;omega)|(simp_all;done))) (.c (j:=1) rfl .n)<|r_pv rfl rfl (zma (z:=((1000000000+(Big.digs a).getD i 0) - (Big.digs b).getD i 0)) rfl rfl (wu64 (by omega)))<|r_pv rfl rfl (zd rfl)<|r_pv rfl rfl (zma (z:=(((1000000000+(Big.digs a).getD i 0) - (Big.digs b).getD i 0) - bo)) rfl rfl (wu64 (by omega)))<|r_pv rfl rfl (zh rfl)<|zl<|zg<|zk<|zc<|r_pv rfl rfl (zd rfl)<|r_pv rfl rfl (zd rfl)<|r_pv rfl rfl (zUa (z:=((((1000000000+(Big.digs a).getD i 0) - (Big.digs b).getD i 0) - bo)%1000000000)) rfl rfl (by omega) (remN (by omega) (by omega)))<|r_pv rfl rfl (zL (z:=((((1000000000+(Big.digs a).getD i 0) - (Big.digs b).getD i 0) - bo)%1000000000)) rfl (by rw [Tryz.underlying130];rfl) Tryz.underlying131 (wu32 (by omega)))<|zLa rfl rfl (zda (enc:=fun z:Int=>[.int .u32 z]) (ok:=InK .u32) (h1:=fun _=>rfl) (h2:=fun _=>rfl) (k:=1) Tryz.underlying40 inf131 rfl (by decide) (by decide) (by decide) (.c (x:=((((1000000000+(Big.digs a).getD i 0) - (Big.digs b).getD i 0) - bo)%1000000000)) rfl rfl (fun _ _=>by exact zI.2 (by omega)) .n)) (fun b3 _=> ?_)
  refine zsa 0 rfl .z<|zZa 1 rfl rfl rfl (zNa 0 rfl Tryz.underlying40 inf131 (by decide) rfl rfl (by first|rfl|assumption|(simp_all;done)|omega) rfl (by first|rfl|assumption|(simp_all;done)|omega) (by omega) (by omega)) (fun _=>(.s .z)) ?_
  rintro ⟨p4,c5⟩ -
  dsimp only [List.append_eq,List.nil_append,List.cons_append]
  refine r_pv rfl rfl (zh rfl)<|zl<|zg<|zc<|r_pv rfl rfl (zd rfl)<|r_pv rfl rfl (zdb (z:=((((1000000000+(Big.digs a).getD i 0) - (Big.digs b).getD i 0) - bo) / 1000000000)) rfl rfl (by omega) (by rw [quoN (z:=((((1000000000+(Big.digs a).getD i 0) - (Big.digs b).getD i 0) - bo) / 1000000000)) (by omega) (by omega)];exact wu64 (by omega)))<|r_pv rfl rfl (zma (z:=(1 - ((((1000000000+(Big.digs a).getD i 0) - (Big.digs b).getD i 0) - bo) / 1000000000))) rfl rfl (wu64 (by omega)))<|r_pv rfl rfl (zh rfl)<|zl<|zN<|zg<|zc<|r_pv rfl rfl (zd rfl)<|r_pv rfl rfl (zM (z:=(((i+1):Nat):Int)) rfl rfl (w64 (by omega)))<|r_pv rfl rfl (zh rfl)<|zl<|zva ((i+1),p4,c5,os++[(1000000000+(Big.digs a).getD i 0 - (Big.digs b).getD i 0 - bo)%1000000000],1 - (1000000000+(Big.digs a).getD i 0 - (Big.digs b).getD i 0 - bo) / 1000000000) (show (i+1)≤(Big.digs a).length∧(os++[(1000000000+(Big.digs a).getD i 0 - (Big.digs b).getD i 0 - bo)%1000000000]).length=(i+1)∧0≤(1 - (1000000000+(Big.digs a).getD i 0 - (Big.digs b).getD i 0 - bo) / 1000000000)∧(1 - (1000000000+(Big.digs a).getD i 0 - (Big.digs b).getD i 0 - bo) / 1000000000)≤1∧Big.okL (os++[(1000000000+(Big.digs a).getD i 0 - (Big.digs b).getD i 0 - bo)%1000000000])∧Big.valL (os++[(1000000000+(Big.digs a).getD i 0 - (Big.digs b).getD i 0 - bo)%1000000000])+Big.valL ((Big.digs b).take (i+1))=Big.valL ((Big.digs a).take (i+1))+Big.pw (i+1)*(1 - (1000000000+(Big.digs a).getD i 0 - (Big.digs b).getD i 0 - bo) / 1000000000) from by exact ⟨by omega,by simp [hol],by omega,by omega,Big.okL_snoc hok (by omega) (by omega),Big.minus_step hol hv (by omega)⟩) (by show (Big.digs a).length - (i+1)<(Big.digs a).length - i;omega) ((.e rfl (by first|rfl|(congr 1;omega)|simp_all) (.e rfl (by simp) (.of rfl))):SubM _ _) (ho:=((.e (i:=1) rfl (by first|rfl|(congr 1;omega)|simp_all) .n):PickO _ _ _)) ((.of [1,2] rfl):SelR _ _ _)
 ·
  have htr:Big.trimL os=Big.digs (a - b):=Big.minus_fin hab hok hc0 hol (by omega) hv
  have hfin:(Big.sg false (Big.valL os)).natAbs=a - b:=by rw [Big.sg_abs (Big.valL_nonneg hok)];have:=congrArg Big.valL htr;rw [Big.valL_trim,Big.valL_digs] at this;omega
  refine zna<|zp<|zp<|zH<|zg<|zk<|zc<|r_pv rfl rfl (zd rfl)<|zsa 0 rfl .z<|zJ rfl rfl (.c rfl (.c rfl .n)) ce91 (zRa (s:=false) (p:=p) (n:=os.length) (cap:=c) (l:=os) (hn:=by first|rfl|omega|(simp;done)|(simp;omega)) (ho:=by exact hok) (hln:=by first|rfl|omega|(simp;done)|(simp;omega))) (.c (j:=0) rfl .n) ?_
  rintro ⟨p26,c27⟩ -
  dsimp only [List.append_eq,List.nil_append,List.cons_append]
  refine r_pv rfl rfl (zIa Tryz.underlying42 rfl ty40 rfl rfl)<|r_pv rfl rfl (zh rfl)<|zl<|zg<|zT ?_
  exact zO Tryz.results94 (p26,c27) trivial (zG rfl) (by rw [hfin]) (ho:=(.n:PickO _ _ _)) ((.e (j:=0) rfl (by rw [hfin]) .n):SelR _ _ _)
theorem zWc {a:Nat} {b:Nat} {p1:Option Addr} {c1:Nat} {p2:Option Addr} {c2:Nat}:Con Tryz.prog 93 [.slice p1 ((Big.digs a).length) c1,.slice p2 ((Big.digs b).length) c2] [] [slF (rI .u32) p1 c1 (Big.digs a),slF (rI .u32) p2 c2 (Big.digs b)] (Y:=Unit) (fun y=>True) (fun y=> .int .i64 (Big.cmp (a:Int) (b:Int))) (fun y=>[]) (fun y=>[]):=by
 refine zA Tryz.func93 rfl rfl rfl (fun c=> ?_)
 show RunC _ _ _ _ _ [(0,.slice p1 ((Big.digs a).length) c1),(1,.slice p2 ((Big.digs b).length) c2)] [] [slF (rI .u32) p1 c1 (Big.digs a),slF (rI .u32) p2 c2 (Big.digs b)]
 refine zra 0 rfl (fun hL0=> ?_)
 refine zra 1 rfl (fun hL1=> ?_)
 refine zk<|zc<|r_pv rfl rfl (zh rfl)<|zl<|zg<|zk<|zk<|zc<|r_pv rfl rfl (zd rfl)<|r_pv rfl rfl (zga Tryz.underlying40 rfl)<|r_pv rfl rfl (zd rfl)<|r_pv rfl rfl (zga Tryz.underlying40 rfl)<|r_pv rfl rfl (ztb rfl rfl)<|zl<|zg<|zV rfl (fun hlen=> ?_) (fun hlen=> ?_)
 ·
  refine zk<|zk<|zc<|r_pv rfl rfl (zd rfl)<|r_pv rfl rfl (zga Tryz.underlying40 rfl)<|r_pv rfl rfl (zd rfl)<|r_pv rfl rfl (zga Tryz.underlying40 rfl)<|r_pv rfl rfl (zU rfl rfl)<|zl<|zg<|zV rfl (fun hll=> ?_) (fun hll=> ?_)
  ·
   refine zk<|zc<|r_pv rfl rfl (zh rfl)<|zl<|zg<|zT<|zx<|zx ?_
   exact zO Tryz.results93 () trivial (zG rfl) (by rw [← Big.cmp_len (by omega),Big.cmp_lt (by omega)]) (ho:=(.n:PickO _ _ _)) (.n:SelR _ _ _)
  ·
   refine zE<|zg<|zk<|zc<|r_pv rfl rfl (zh rfl)<|zl<|zg<|zT<|zx ?_
   exact zO Tryz.results93 () trivial (zG rfl) (by rw [← Big.cmp_len (by omega),Big.cmp_gt (by omega)]) (ho:=(.n:PickO _ _ _)) (.n:SelR _ _ _)
 ·
  replace hlen:(Big.digs a).length=(Big.digs b).length:=by omega
  refine zE<|zg<|zk<|zk<|zc<|r_pv rfl rfl (zd rfl)<|r_pv rfl rfl (zga Tryz.underlying40 rfl)<|r_pv rfl rfl (zma (z:=((((Big.digs a).length:Nat):Int) - 1)) rfl rfl (w64 (by omega)))<|r_pv rfl rfl (zh rfl)<|zl<|zg<|zv<|zAa (X:=Nat) (fun x:Nat=>x≤(Big.digs a).length∧(Big.digs a).drop x=(Big.digs b).drop x) (fun x=>[(5,.int .i64 (((x:Nat):Int) - 1)),(0,.slice p1 ((Big.digs a).length) c1),(1,.slice p2 ((Big.digs b).length) c2)]) (fun x=>[]) (fun x=>[slF (rI .u32) p1 c1 (Big.digs a),slF (rI .u32) p2 c2 (Big.digs b)]) (fun x:Nat=>x) ((Big.digs a).length) (show ((Big.digs a).length)≤(Big.digs a).length∧(Big.digs a).drop ((Big.digs a).length)=(Big.digs b).drop ((Big.digs a).length) from by exact ⟨Nat.le_refl _,by rw [List.drop_length,hlen,List.drop_length]⟩) ((.e rfl (by first|rfl|(congr 1;omega)|simp_all) (.c rfl (.c rfl .n))):SubM _ _) (ho:=(.n:PickO _ _ _)) ((.of [0,1] rfl):SelR _ _ _) ?_
  rintro j hI
  replace hI:j≤(Big.digs a).length∧(Big.digs a).drop j=(Big.digs b).drop j:=hI
  try dsimp only
  obtain ⟨hj,hd⟩:=hI
  refine zk<|zk<|zc<|r_pv rfl rfl (zd rfl)<|r_pv rfl rfl (zqb rfl rfl)<|zl<|zg<|zV rfl (fun h1=> ?_) (fun h1=> ?_)
  ·
   obtain ⟨k,rfl⟩:∃k,j=k+1:=⟨j - 1,by omega⟩
   have e2:(((((k+1):Nat):Int) - 1):Int)=((k:Nat):Int):=by omega
   rw [e2]
   refine zE<|zg<|zk<|zv<|zk<|zk<|zS (OW:=[]) (O:=[]) 100000 mixed (.then (.then (.block (.then (.then (.block (.then .ret))))))) (by kernel_rfl)<|d_pv 0 rfl rfl (by kernel_rfl) (by kernel_rfl) rfl rfl (zd rfl)<|d_pv 1 rfl rfl (by kernel_rfl) (by kernel_rfl) rfl rfl (zd rfl)<|zOa (x0:=((Big.digs a).getD k 0)) 2 rfl rfl (by kernel_rfl) (by kernel_rfl) 0 k rfl Tryz.underlying40 sz131 rfl rfl rfl (by first|rfl|assumption|(simp_all;done)|omega) rfl rfl (gD (d:=0) (by omega)) (fun b3 o4 hok5=> ?_)
   replace hok5:=zI.1 hok5
   refine d_u 3 rfl rfl (by kernel_rfl) (by kernel_rfl) rfl rfl (zC (j:=0) 0 ty131 rfl rfl rfl rfl)<|d_pv 4 rfl rfl (by kernel_rfl) (by kernel_rfl) rfl rfl (zd rfl)<|d_pv 5 rfl rfl (by kernel_rfl) (by kernel_rfl) rfl rfl (zd rfl)<|zOa (x0:=((Big.digs b).getD k 0)) 6 rfl rfl (by kernel_rfl) (by kernel_rfl) 2 k rfl Tryz.underlying40 sz131 rfl rfl rfl (by first|rfl|assumption|(simp_all;done)|omega) rfl rfl (gD (d:=0) (by omega)) (fun b6 o7 hok8=> ?_)
   replace hok8:=zI.1 hok8
   refine d_u 7 rfl rfl (by kernel_rfl) (by kernel_rfl) rfl rfl (zC (j:=0) 0 ty131 rfl rfl rfl rfl)<|d_pv 8 rfl rfl (by kernel_rfl) (by kernel_rfl) rfl rfl (zU rfl rfl)<|zR (by kernel_rfl)<|zg<|zV rfl (fun hlt=> ?_) (fun hlt=> ?_)
   ·
    refine zk<|zc<|r_pv rfl rfl (zh rfl)<|zl<|zg<|zT<|zx<|zia<|zx<|zx<|zia<|zx ?_
    exact zO Tryz.results93 () trivial (zG rfl) (by rw [← Big.cmp_at hlen (by omega) hd (by omega),Big.cmp_lt (by omega)]) (ho:=(.n:PickO _ _ _)) (.n:SelR _ _ _)
   ·
    refine zE<|zg<|zk<|zS (OW:=[]) (O:=[]) 100000 mixed (.then (.block (.then (.then (.block (.then .ret)))))) (by kernel_rfl)<|d_pv 0 rfl rfl (by kernel_rfl) (by kernel_rfl) rfl rfl (zd rfl)<|d_pv 1 rfl rfl (by kernel_rfl) (by kernel_rfl) rfl rfl (zd rfl)<|zOa (x0:=((Big.digs a).getD k 0)) 2 rfl rfl (by kernel_rfl) (by kernel_rfl) 2 k rfl Tryz.underlying40 sz131 rfl rfl rfl (by first|rfl|assumption|(simp_all;done)|omega) rfl rfl (gD (d:=0) (by omega)) (fun b9 o10 hok11=> ?_)
    replace hok11:=zI.1 hok11
    refine d_u 3 rfl rfl (by kernel_rfl) (by kernel_rfl) rfl rfl (zC (j:=0) 0 ty131 rfl rfl rfl rfl)<|d_pv 4 rfl rfl (by kernel_rfl) (by kernel_rfl) rfl rfl (zd rfl)<|d_pv 5 rfl rfl (by kernel_rfl) (by kernel_rfl) rfl rfl (zd rfl)<|zOa (x0:=((Big.digs b).getD k 0)) 6 rfl rfl (by kernel_rfl) (by kernel_rfl) 4 k rfl Tryz.underlying40 sz131 rfl rfl rfl (by first|rfl|assumption|(simp_all;done)|omega) rfl rfl (gD (d:=0) (by omega)) (fun b12 o13 hok14=> ?_)
    replace hok14:=zI.1 hok14
    refine d_u 7 rfl rfl (by kernel_rfl) (by kernel_rfl) rfl rfl (zC (j:=0) 0 ty131 rfl rfl rfl rfl)<|d_pv 8 rfl rfl (by kernel_rfl) (by kernel_rfl) rfl rfl (zeb rfl rfl)<|zR (by kernel_rfl)<|zg<|zV rfl (fun hgt=> ?_) (fun hgt=> ?_)
    ·
     refine zk<|zc<|r_pv rfl rfl (zh rfl)<|zl<|zg<|zT<|zia<|zx<|zx<|zia<|zx ?_
     exact zO Tryz.results93 () trivial (zG rfl) (by rw [← Big.cmp_at hlen (by omega) hd (by omega),Big.cmp_gt (by omega)]) (ho:=(.n:PickO _ _ _)) (.n:SelR _ _ _)
    ·
     refine zE<|zN<|zg<|zc<|r_pv rfl rfl (zd rfl)<|r_pv rfl rfl (zma (z:=(((k:Nat):Int) - 1)) rfl rfl (w64 (by omega)))<|r_pv rfl rfl (zh rfl)<|zl<|zva k (show k≤(Big.digs a).length∧(Big.digs a).drop k=(Big.digs b).drop k from by exact ⟨by omega,Big.drop_more (by omega) (by omega) hd (by omega)⟩) (by show k<k+1;omega) ((.of rfl):SubM _ _) (ho:=(.n:PickO _ _ _)) ((.of [4,5] rfl):SelR _ _ _)
  ·
   refine zna<|zp<|zp<|zH<|zg<|zk<|zc<|r_pv rfl rfl (zh rfl)<|zl<|zg<|zT ?_
   have hj0:j=0:=by omega
   subst hj0
   have heq:=Big.cmp_eq (show Big.digs a=Big.digs b by simpa using hd)
   exact zO Tryz.results93 () trivial (zG rfl) (by rw [heq] <;> simp [Big.cmp]) (ho:=(.n:PickO _ _ _)) (.n:SelR _ _ _)
theorem zle {s:Bool} {p:Option Addr} {n:Nat} {cap:Nat} {l:List Int} (hn:l.length=n) (hln:n≤1099511627776):Con Tryz.prog 88 [.agg #[.bool s,.slice p n cap]] [] [slF (rI .u32) p cap l] (Y:=(Option Addr)×Nat) (fun y=>True) (fun y=> .agg #[.bool (decide ((- Big.raw s l)<0)),.slice (y.1) ((Big.digs ((- Big.raw s l).natAbs)).length) (y.2)]) (fun y=>[]) (fun y=>[slF (rI .u32) (y.1) (y.2) (Big.digs ((- Big.raw s l).natAbs))]):=by
 refine zA Tryz.func88 rfl rfl rfl (fun c=> ?_)
 show RunC _ _ _ _ _ [(0,.agg #[.bool s,.slice p n cap])] [] [slF (rI .u32) p cap l]
 refine zra 0 rfl (fun hL0=> ?_)
 refine zfb 0 rfl (fun hE0=> ?_)
 have hnn:Big.nn l:=fun g hg=>(zI.1 (hE0 g hg)).1
 have hb:Big.ln (Big.raw s l)≤n:=by have:=Big.zgb (s:=s) hnn;omega
 unfold Big.ln at hb
 refine zk<|zc<|zK rfl rfl (zfa rfl rfl) (fun b1=> ?_)
 refine zK rfl rfl (zq zr42 rfl) (fun b2=> ?_)
 refine zl<|zg<|zk<|zc<|r_u rfl rfl (ze 1 ty42 rfl rfl (.take (.take .nil)))<|zJ rfl rfl (.c rfl .n) ce90 (zbb (s:=s) (p:=p) (n:=n) (cap:=cap) (l:=l) (hn:=by assumption) (hln:=by assumption)) (.c (j:=0) rfl .n) ?_
 rintro ⟨p23,c24⟩ -
 dsimp only [List.append_eq,List.nil_append,List.cons_append]
 refine zn 1 rfl rfl rfl rfl rfl sz42 rfl (.take (.take .nil)) (.s .z)<|zl<|zg<|zk<|zc<|r_pv rfl rfl (zi Tryz.underlying42 rfl sz4 rfl rfl)<|r_u rfl rfl (zf 1 ty4 rfl rfl rfl)<|r_pv rfl rfl (zNb rfl)<|r_pv rfl rfl (zi Tryz.underlying42 rfl sz40 rfl rfl)<|r_u rfl rfl (zf 1 ty40 rfl rfl rfl)<|zJ rfl rfl (.c rfl (.c rfl .n)) ce91 (zwb (s:= !(decide ((Big.raw s l)<0))) (a:=(Big.raw s l).natAbs) (p:=p23) (cap:=c24) (hln:=by first|rfl|assumption|omega|(simp;done)|(simp;omega)|(simp_all;done))) (.c (j:=0) rfl .n) ?_
 rintro ⟨p25,c26⟩ -
 dsimp only [List.append_eq,List.nil_append,List.cons_append]
 refine zn 0 rfl rfl rfl rfl rfl sz42 rfl (.take (.take .nil)) .z<|zl<|zg<|zT ?_
 have hz:Big.sg (!decide (Big.raw s l<0)) ((Big.raw s l).natAbs:Int)= - Big.raw s l:=by rw [Big.sg_not,Big.sg_big]
 exact zO Tryz.results88 (p25,c26) trivial (zu 0 ty42 rfl rfl (.take (.take .nil))) (by rw [hz]) (ho:=(.n:PickO _ _ _)) ((.e (j:=0) rfl (by rw [hz]) .n):SelR _ _ _)
theorem zUe {z:Int} {p:Option Addr} {cap:Nat} (hln:Big.ln z≤1099511627776):Con Tryz.prog 88 [.agg #[.bool (decide ((z)<0)),.slice (p) ((Big.digs ((z).natAbs)).length) (cap)]] [] [slF (rI .u32) (p) (cap) (Big.digs ((z).natAbs))] (Y:=(Option Addr)×(Nat)) (fun y=>True) (fun y=> .agg #[.bool (decide ((- z)<0)),.slice (y.1) ((Big.digs ((- z).natAbs)).length) (y.2)]) (fun y=>[]) (fun y=>[slF (rI .u32) (y.1) (y.2) (Big.digs ((- z).natAbs))]):=by
  have h:= @zle (decide ((z)<0)) p (Big.digs (z).natAbs).length cap (Big.digs (z).natAbs) rfl hln
  rw [Big.raw_big] at h
  exact h
theorem zNd {w1:Wd} {x1:Int} (hln:Big.ln x1≤1099511627776):Con Tryz.prog 88 [.agg #[w1.b,w1.l]] [] [zF w1 (x1)] (Y:=(Wd)) (fun y=>True) (fun y=> .agg #[y.b,y.l]) (fun y=>[]) (fun y=>[zF y (- x1)]):=by
  exact zbc (zFd (fun p c=>zUe hln))
theorem zOd {s:Bool} {p:Option Addr} {n:Nat} {cap:Nat} {l:List Int} (hn:l.length=n) (hln:n≤1099511627776):Con Tryz.prog 66 [.agg #[.bool s,.slice p n cap]] [] [slF (rI .u32) p cap l] (Y:=Unit) (fun y=>True) (fun y=> .int .i64 ((Big.raw s l).sign)) (fun y=>[]) (fun y=>[]):=by
 refine zA Tryz.func66 rfl rfl rfl (fun c=> ?_)
 show RunC _ _ _ _ _ [(0,.agg #[.bool s,.slice p n cap])] [] [slF (rI .u32) p cap l]
 refine zra 0 rfl (fun hL0=> ?_)
 refine zfb 0 rfl (fun hE0=> ?_)
 have hnn:Big.nn l:=fun g hg=>(zI.1 (hE0 g hg)).1
 refine zk<|zc<|zK rfl rfl (zfa rfl rfl) (fun b1=> ?_)
 refine r_pv rfl rfl (zh rfl)<|zl<|zg<|zk<|zc<|r_u rfl rfl (ze 0 ty42 rfl rfl (.take (.take .nil)))<|zJ rfl rfl (.c rfl .n) ce90 (zbb (s:=s) (p:=p) (n:=n) (cap:=cap) (l:=l) (hn:=by assumption) (hln:=by assumption)) (.c (j:=0) rfl .n) ?_
 rintro ⟨p22,c23⟩ -
 dsimp only [List.append_eq,List.nil_append,List.cons_append]
 refine zn 0 rfl rfl rfl rfl rfl sz42 rfl (.take (.take .nil)) .z<|zl<|zg<|zk<|zk<|zc<|r_pv rfl rfl (zi Tryz.underlying42 rfl sz40 rfl rfl)<|r_u rfl rfl (zf 0 ty40 rfl rfl rfl)<|r_pv rfl rfl (zga Tryz.underlying40 rfl)<|r_pv rfl rfl (zMa rfl rfl)<|zl<|zg<|zV rfl (fun h0=> ?_) (fun h0=> ?_)
 ·
  refine zk<|zc<|r_pv rfl rfl (zh rfl)<|zl<|zg<|zT<|zx ?_
  exact zO Tryz.results66 () trivial (zG rfl) (by rw [show Big.raw s l=0 by have:=Big.len_digs_nil.1 (show (Big.digs (Big.raw s l).natAbs).length=0 by omega);omega];rfl) (ho:=(.n:PickO _ _ _)) (.n:SelR _ _ _)
 ·
  refine zE<|zg<|zk<|zk<|zc<|r_pv rfl rfl (zi Tryz.underlying42 rfl sz4 rfl rfl)<|r_u rfl rfl (zf 0 ty4 rfl rfl rfl)<|zl<|zg<|zhb rfl (fun hs=> ?_) (fun hs=> ?_)
  ·
   refine zk<|zc<|r_pv rfl rfl (zh rfl)<|zl<|zg<|zT<|zx ?_
   exact zO Tryz.results66 () trivial (zG rfl) (by rw [Int.sign_eq_neg_one_of_neg (by simpa using hs)]) (ho:=(.n:PickO _ _ _)) (.n:SelR _ _ _)
  ·
   refine zE<|zg<|zk<|zc<|r_pv rfl rfl (zh rfl)<|zl<|zg<|zT ?_
   exact zO Tryz.results66 () trivial (zG rfl) (by rw [Int.sign_eq_one_of_pos (by have h2:¬Big.raw s l<0:=(by simpa using hs);have:(Big.raw s l).natAbs≠0:=(fun e=>h0 (by rw [e];rfl));omega)]) (ho:=(.n:PickO _ _ _)) (.n:SelR _ _ _)
theorem zjd {z:Int} {p:Option Addr} {cap:Nat} (hln:Big.ln z≤1099511627776):Con Tryz.prog 66 [.agg #[.bool (decide ((z)<0)),.slice (p) ((Big.digs ((z).natAbs)).length) (cap)]] [] [slF (rI .u32) (p) (cap) (Big.digs ((z).natAbs))] (Y:=Unit) (fun y=>True) (fun y=> .int .i64 ((z).sign)) (fun y=>[]) (fun y=>[]):=by
  have h:= @zOd (decide ((z)<0)) p (Big.digs (z).natAbs).length cap (Big.digs (z).natAbs) rfl hln
  rw [Big.raw_big] at h
  exact h
theorem zzc {w1:Wd} {x1:Int} (hln:Big.ln x1≤1099511627776):Con Tryz.prog 66 [.agg #[w1.b,w1.l]] [] [zF w1 (x1)] (Y:=Unit) (fun y=>True) (fun y=> .int .i64 ((x1).sign)) (fun y=>[]) (fun y=>[]):=by
  exact zFd (fun p c=>zjd hln)
theorem zme {s:Bool} {p1:Option Addr} {n1:Nat} {c1:Nat} {l1:List Int} {t:Bool} {p2:Option Addr} {n2:Nat} {c2:Nat} {l2:List Int} (hn1:l1.length=n1) (hn2:l2.length=n2) (hm1:n1≤1099511627776) (hm2:n2≤1099511627776):Con Tryz.prog 59 [.agg #[.bool s,.slice p1 n1 c1],.agg #[.bool t,.slice p2 n2 c2]] [] [slF (rI .u32) p1 c1 l1,slF (rI .u32) p2 c2 l2] (Y:=(Option Addr)×Nat) (fun y=>True) (fun y=> .agg #[.bool (decide ((Big.raw s l1+Big.raw t l2)<0)),.slice (y.1) ((Big.digs ((Big.raw s l1+Big.raw t l2).natAbs)).length) (y.2)]) (fun y=>[]) (fun y=>[slF (rI .u32) (y.1) (y.2) (Big.digs ((Big.raw s l1+Big.raw t l2).natAbs))]):=by
 refine zA Tryz.func59 rfl rfl rfl (fun c=> ?_)
 show RunC _ _ _ _ _ [(0,.agg #[.bool s,.slice p1 n1 c1]),(1,.agg #[.bool t,.slice p2 n2 c2])] [] [slF (rI .u32) p1 c1 l1,slF (rI .u32) p2 c2 l2]
 refine zra 0 rfl (fun hL0=> ?_)
 refine zfb 0 rfl (fun hE0=> ?_)
 refine zra 1 rfl (fun hL1=> ?_)
 refine zfb 1 rfl (fun hE1=> ?_)
 have hnn1:Big.nn l1:=fun g hg=>(zI.1 (hE0 g hg)).1
 have hnn2:Big.nn l2:=fun g hg=>(zI.1 (hE1 g hg)).1
 have hb1:Big.ln (Big.raw s l1)≤n1:=by have:=Big.zgb (s:=s) hnn1;omega
 have hb2:Big.ln (Big.raw t l2)≤n2:=by have:=Big.zgb (s:=t) hnn2;omega
 unfold Big.ln at hb1 hb2
 refine zk<|zc<|zK rfl rfl (zfa rfl rfl) (fun b1=> ?_)
 refine zK rfl rfl (zfa rfl rfl) (fun b2=> ?_)
 refine zK rfl rfl (zq zr42 rfl) (fun b3=> ?_)
 refine zl<|zg<|zk<|zea (.c (i:=2) rfl (.c (i:=1) rfl (.c (i:=0) rfl .n)))<|zS (OW:=[boxA b1 42 [.bool s,.slice p1 n1 c1],boxA b2 42 [.bool t,.slice p2 n2 c2]]) (O:=[boxA b3 42 [.bool false,.slice none 0 0]]) 4 mixed (.then .ret) (by kernel_rfl)<|d_uw 0 rfl rfl (by kernel_rfl) (by kernel_rfl) (by kernel_rfl) rfl rfl (ze 0 ty42 rfl rfl (.take (.take .nil)))<|d_uw 2 rfl rfl (by kernel_rfl) (by kernel_rfl) (by kernel_rfl) rfl rfl (ze 1 ty42 rfl rfl (.take (.take .nil)))<|zt 1 (by kernel_rfl) (zo rfl rfl rfl rfl (.c rfl .n) ce90 (zbb (s:=s) (p:=p1) (n:=n1) (cap:=c1) (l:=l1) (hn:=by assumption) (hln:=by assumption)) (.c (j:=0) rfl .n) ?_)
 rintro ⟨p24,c25⟩ -
 dsimp only [List.append_eq,List.nil_append,List.cons_append]
 refine zt 3 (by kernel_rfl) (zo rfl rfl rfl rfl (.c rfl .n) ce90 (zbb (s:=t) (p:=p2) (n:=n2) (cap:=c2) (l:=l2) (hn:=by assumption) (hln:=by assumption)) (.c (j:=2) rfl .n) ?_)
 rintro ⟨p26,c27⟩ -
 dsimp only [List.append_eq,List.nil_append,List.cons_append]
 refine zt 4 (by kernel_rfl) (zr (by kernel_rfl) rfl rfl rfl rfl rfl sz42 rfl (.take (.take .nil)) ?_)
 refine zWa (zpa (i:=1) rfl)<|zt 5 (by kernel_rfl) (zr (by kernel_rfl) rfl rfl rfl rfl rfl sz42 rfl (.take (.take .nil)) ?_)
 refine zR (by kernel_rfl)<|zg<|zk<|zk<|zc<|r_pv rfl rfl (zi Tryz.underlying42 rfl sz4 rfl rfl)<|r_u rfl rfl (zf 1 ty4 rfl rfl rfl)<|r_pv rfl rfl (zi Tryz.underlying42 rfl sz4 rfl rfl)<|r_u rfl rfl (zf 0 ty4 rfl rfl rfl)<|r_pv rfl rfl (zMc Tryz.underlying4 rfl rfl)<|zl<|zg<|zV rfl (fun hst=> ?_) (fun hst=> ?_)
 ·
  refine zk<|zea (.c (i:=2) rfl (.c (i:=0) rfl (.c (i:=0) rfl .n)))<|zS (OW:=[boxA b3 42 [.bool false,.slice none 0 0]]) (O:=[boxA b2 42 [.bool (decide ((Big.raw t l2)<0)),.slice p26 ((Big.digs ((Big.raw t l2).natAbs)).length) c27],boxA b1 42 [.bool (decide ((Big.raw s l1)<0)),.slice p24 ((Big.digs ((Big.raw s l1).natAbs)).length) c25]]) 8 mixed (.then (.then .ret)) (by kernel_rfl)<|d_pv 0 rfl rfl (by kernel_rfl) (by kernel_rfl) rfl rfl (zi Tryz.underlying42 rfl sz4 rfl rfl)<|d_uw 1 rfl rfl (by kernel_rfl) (by kernel_rfl) (by kernel_rfl) rfl rfl (zf 2 ty4 rfl rfl rfl)<|d_pv 2 rfl rfl (by kernel_rfl) (by kernel_rfl) rfl rfl (zi Tryz.underlying42 rfl sz40 rfl rfl)<|d_uw 3 rfl rfl (by kernel_rfl) (by kernel_rfl) (by kernel_rfl) rfl rfl (zf 2 ty40 rfl rfl rfl)<|d_pv 4 rfl rfl (by kernel_rfl) (by kernel_rfl) rfl rfl (zi Tryz.underlying42 rfl sz40 rfl rfl)<|d_uw 5 rfl rfl (by kernel_rfl) (by kernel_rfl) (by kernel_rfl) rfl rfl (zf 1 ty40 rfl rfl rfl)<|zt 6 (by kernel_rfl) (zo rfl rfl rfl rfl (.c rfl (.c rfl .n)) ce92 (zTe (a:=(Big.raw s l1).natAbs) (b:=(Big.raw t l2).natAbs) (p1:=p24) (c1:=c25) (p2:=p26) (c2:=c27) (hb1:=by first|rfl|assumption|omega|(unfold Big.ln;omega)|(simp;done)|(simp;omega)|(simp_all;done)) (hb2:=by first|rfl|assumption|omega|(unfold Big.ln;omega)|(simp;done)|(simp;omega)|(simp_all;done))) (.c (j:=1) rfl (.c (j:=0) rfl .n)) ?_)
  rintro ⟨p38,c39⟩ -
  dsimp only [List.append_eq,List.nil_append,List.cons_append]
  refine zt 7 (by kernel_rfl) (zo rfl rfl rfl rfl (.c rfl (.c rfl .n)) ce91 (zwb (s:=decide ((Big.raw s l1)<0)) (a:=((Big.raw s l1).natAbs)+((Big.raw t l2).natAbs)) (p:=p38) (cap:=c39) (hln:=by have:=Big.len_add (Big.raw s l1).natAbs (Big.raw t l2).natAbs;omega)) (.c (j:=0) rfl .n) ?_)
  rintro ⟨p210,c211⟩ -
  dsimp only [List.append_eq,List.nil_append,List.cons_append]
  refine zt 8 (by kernel_rfl) (zr (by kernel_rfl) rfl rfl rfl rfl rfl sz42 rfl (.take (.take .nil)) ?_)
  refine zR (by kernel_rfl)<|zg<|zT<|zx ?_
  have hz:=Big.add_same hst
  exact zO Tryz.results59 (p210,c211) trivial (zu 0 ty42 rfl rfl (.take (.take .nil))) (by rw [hz]) (ho:=(.n:PickO _ _ _)) ((.e (j:=0) rfl (by rw [hz]) .n):SelR _ _ _)
 ·
  refine zE<|zg<|zk<|zk<|zc<|r_pv rfl rfl (zi Tryz.underlying42 rfl sz40 rfl rfl)<|r_u rfl rfl (zf 1 ty40 rfl rfl rfl)<|r_pv rfl rfl (zi Tryz.underlying42 rfl sz40 rfl rfl)<|r_u rfl rfl (zf 0 ty40 rfl rfl rfl)<|zX rfl rfl (.c rfl (.c rfl .n)) ce93 (zWc (a:=(Big.raw s l1).natAbs) (b:=(Big.raw t l2).natAbs) (p1:=p24) (c1:=c25) (p2:=p26) (c2:=c27)) (.c (j:=1) rfl (.c (j:=0) rfl .n))<|r_pv rfl rfl (zqb rfl rfl)<|zl<|zg<|zV rfl (fun hcmp=> ?_) (fun hcmp=> ?_)
  ·
   have hab:(Big.raw t l2).natAbs≤(Big.raw s l1).natAbs:=by have:=Big.cmp_ge.1 hcmp;omega
   refine zk<|zea (.c (i:=2) rfl (.c (i:=0) rfl (.c (i:=0) rfl .n)))<|zS (OW:=[boxA b3 42 [.bool false,.slice none 0 0]]) (O:=[boxA b2 42 [.bool (decide ((Big.raw t l2)<0)),.slice p26 ((Big.digs ((Big.raw t l2).natAbs)).length) c27],boxA b1 42 [.bool (decide ((Big.raw s l1)<0)),.slice p24 ((Big.digs ((Big.raw s l1).natAbs)).length) c25]]) 8 mixed (.then (.then .ret)) (by kernel_rfl)<|d_pv 0 rfl rfl (by kernel_rfl) (by kernel_rfl) rfl rfl (zi Tryz.underlying42 rfl sz4 rfl rfl)<|d_uw 1 rfl rfl (by kernel_rfl) (by kernel_rfl) (by kernel_rfl) rfl rfl (zf 2 ty4 rfl rfl rfl)<|d_pv 2 rfl rfl (by kernel_rfl) (by kernel_rfl) rfl rfl (zi Tryz.underlying42 rfl sz40 rfl rfl)<|d_uw 3 rfl rfl (by kernel_rfl) (by kernel_rfl) (by kernel_rfl) rfl rfl (zf 2 ty40 rfl rfl rfl)<|d_pv 4 rfl rfl (by kernel_rfl) (by kernel_rfl) rfl rfl (zi Tryz.underlying42 rfl sz40 rfl rfl)<|d_uw 5 rfl rfl (by kernel_rfl) (by kernel_rfl) (by kernel_rfl) rfl rfl (zf 1 ty40 rfl rfl rfl)<|zt 6 (by kernel_rfl) (zo rfl rfl rfl rfl (.c rfl (.c rfl .n)) ce94 (zXb (a:=(Big.raw s l1).natAbs) (b:=(Big.raw t l2).natAbs) (p1:=p24) (c1:=c25) (p2:=p26) (c2:=c27) (hb1:=by first|rfl|assumption|omega|(unfold Big.ln;omega)|(simp;done)|(simp;omega)|(simp_all;done)) (hb2:=by first|rfl|assumption|omega|(unfold Big.ln;omega)|(simp;done)|(simp;omega)|(simp_all;done)) (hab:=by first|rfl|assumption|omega|(unfold Big.ln;omega)|(simp;done)|(simp;omega)|(simp_all;done))) (.c (j:=1) rfl (.c (j:=0) rfl .n)) ?_)
   rintro ⟨p312,c313⟩ -
   dsimp only [List.append_eq,List.nil_append,List.cons_append]
   refine zt 7 (by kernel_rfl) (zo rfl rfl rfl rfl (.c rfl (.c rfl .n)) ce91 (zwb (s:=decide ((Big.raw s l1)<0)) (a:=((Big.raw s l1).natAbs) - ((Big.raw t l2).natAbs)) (p:=p312) (cap:=c313) (hln:=by have:=Big.len_sub (Big.raw s l1).natAbs (Big.raw t l2).natAbs;omega)) (.c (j:=0) rfl .n) ?_)
   rintro ⟨p214,c215⟩ -
   dsimp only [List.append_eq,List.nil_append,List.cons_append]
   refine zt 8 (by kernel_rfl) (zr (by kernel_rfl) rfl rfl rfl rfl rfl sz42 rfl (.take (.take .nil)) ?_)
   refine zR (by kernel_rfl)<|zg<|zT<|zx ?_
   have hz:=Big.add_ge hst hab
   exact zO Tryz.results59 (p214,c215) trivial (zu 0 ty42 rfl rfl (.take (.take .nil))) (by rw [hz]) (ho:=(.n:PickO _ _ _)) ((.e (j:=0) rfl (by rw [hz]) .n):SelR _ _ _)
  ·
   have hab:(Big.raw s l1).natAbs≤(Big.raw t l2).natAbs:=by have:¬((Big.raw t l2).natAbs:Int)≤(Big.raw s l1).natAbs:=fun h=>hcmp (Big.cmp_ge.2 h);omega
   refine zE<|zg<|zk<|zea (.c (i:=2) rfl (.c (i:=0) rfl (.c (i:=0) rfl .n)))<|zS (OW:=[boxA b3 42 [.bool false,.slice none 0 0]]) (O:=[boxA b2 42 [.bool (decide ((Big.raw t l2)<0)),.slice p26 ((Big.digs ((Big.raw t l2).natAbs)).length) c27],boxA b1 42 [.bool (decide ((Big.raw s l1)<0)),.slice p24 ((Big.digs ((Big.raw s l1).natAbs)).length) c25]]) 8 mixed (.then .ret) (by kernel_rfl)<|d_pv 0 rfl rfl (by kernel_rfl) (by kernel_rfl) rfl rfl (zi Tryz.underlying42 rfl sz4 rfl rfl)<|d_uw 1 rfl rfl (by kernel_rfl) (by kernel_rfl) (by kernel_rfl) rfl rfl (zf 1 ty4 rfl rfl rfl)<|d_pv 2 rfl rfl (by kernel_rfl) (by kernel_rfl) rfl rfl (zi Tryz.underlying42 rfl sz40 rfl rfl)<|d_uw 3 rfl rfl (by kernel_rfl) (by kernel_rfl) (by kernel_rfl) rfl rfl (zf 1 ty40 rfl rfl rfl)<|d_pv 4 rfl rfl (by kernel_rfl) (by kernel_rfl) rfl rfl (zi Tryz.underlying42 rfl sz40 rfl rfl)<|d_uw 5 rfl rfl (by kernel_rfl) (by kernel_rfl) (by kernel_rfl) rfl rfl (zf 2 ty40 rfl rfl rfl)<|zt 6 (by kernel_rfl) (zo rfl rfl rfl rfl (.c rfl (.c rfl .n)) ce94 (zXb (a:=(Big.raw t l2).natAbs) (b:=(Big.raw s l1).natAbs) (p1:=p26) (c1:=c27) (p2:=p24) (c2:=c25) (hb1:=by first|rfl|assumption|omega|(unfold Big.ln;omega)|(simp;done)|(simp;omega)|(simp_all;done)) (hb2:=by first|rfl|assumption|omega|(unfold Big.ln;omega)|(simp;done)|(simp;omega)|(simp_all;done)) (hab:=by first|rfl|assumption|omega|(unfold Big.ln;omega)|(simp;done)|(simp;omega)|(simp_all;done))) (.c (j:=0) rfl (.c (j:=1) rfl .n)) ?_)
   rintro ⟨p316,c317⟩ -
   dsimp only [List.append_eq,List.nil_append,List.cons_append]
   refine zt 7 (by kernel_rfl) (zo rfl rfl rfl rfl (.c rfl (.c rfl .n)) ce91 (zwb (s:=decide ((Big.raw t l2)<0)) (a:=((Big.raw t l2).natAbs) - ((Big.raw s l1).natAbs)) (p:=p316) (cap:=c317) (hln:=by have:=Big.len_sub (Big.raw t l2).natAbs (Big.raw s l1).natAbs;omega)) (.c (j:=0) rfl .n) ?_)
   rintro ⟨p218,c219⟩ -
   dsimp only [List.append_eq,List.nil_append,List.cons_append]
   refine zt 8 (by kernel_rfl) (zr (by kernel_rfl) rfl rfl rfl rfl rfl sz42 rfl (.take (.take .nil)) ?_)
   refine zR (by kernel_rfl)<|zg<|zT ?_
   have hz:=Big.add_lt hst hab
   exact zO Tryz.results59 (p218,c219) trivial (zu 0 ty42 rfl rfl (.take (.take .nil))) (by rw [hz]) (ho:=(.n:PickO _ _ _)) ((.e (j:=0) rfl (by rw [hz]) .n):SelR _ _ _)
theorem zVe {x1:Int} {x2:Int} {p1:Option Addr} {c1:Nat} {p2:Option Addr} {c2:Nat} (hb1:Big.ln x1≤1099511627776) (hb2:Big.ln x2≤1099511627776):Con Tryz.prog 59 [.agg #[.bool (decide ((x1)<0)),.slice (p1) ((Big.digs ((x1).natAbs)).length) (c1)],.agg #[.bool (decide ((x2)<0)),.slice (p2) ((Big.digs ((x2).natAbs)).length) (c2)]] [] [slF (rI .u32) (p1) (c1) (Big.digs ((x1).natAbs)),slF (rI .u32) (p2) (c2) (Big.digs ((x2).natAbs))] (Y:=(Option Addr)×(Nat)) (fun y=>True) (fun y=> .agg #[.bool (decide ((x1+x2)<0)),.slice (y.1) ((Big.digs ((x1+x2).natAbs)).length) (y.2)]) (fun y=>[]) (fun y=>[slF (rI .u32) (y.1) (y.2) (Big.digs ((x1+x2).natAbs))]):=by
  have h:= @zme (decide ((x1)<0)) p1 (Big.digs (x1).natAbs).length c1 (Big.digs (x1).natAbs) (decide ((x2)<0)) p2 (Big.digs (x2).natAbs).length c2 (Big.digs (x2).natAbs) rfl rfl hb1 hb2
  rw [Big.raw_big,Big.raw_big] at h
  exact h
theorem zWe {w1:Wd} {w2:Wd} {x1:Int} {x2:Int} (hb1:Big.ln x1≤1099511627776) (hb2:Big.ln x2≤1099511627776):Con Tryz.prog 59 [.agg #[w1.b,w1.l],.agg #[w2.b,w2.l]] [] [zF w1 (x1),zF w2 (x2)] (Y:=(Wd)) (fun y=>True) (fun y=> .agg #[y.b,y.l]) (fun y=>[]) (fun y=>[zF y (x1+x2)]):=by
  exact zbc (zGc (fun p1 c1 p2 c2=>zVe hb1 hb2))
theorem zne {s:Bool} {p1:Option Addr} {n1:Nat} {c1:Nat} {l1:List Int} {t:Bool} {p2:Option Addr} {n2:Nat} {c2:Nat} {l2:List Int} (hn1:l1.length=n1) (hn2:l2.length=n2) (hm1:n1≤1099511627776) (hm2:n2≤1099511627776):Con Tryz.prog 98 [.agg #[.bool s,.slice p1 n1 c1],.agg #[.bool t,.slice p2 n2 c2]] [] [slF (rI .u32) p1 c1 l1,slF (rI .u32) p2 c2 l2] (Y:=(Option Addr)×Nat) (fun y=>True) (fun y=> .agg #[.bool (decide ((Big.raw s l1 - Big.raw t l2)<0)),.slice (y.1) ((Big.digs ((Big.raw s l1 - Big.raw t l2).natAbs)).length) (y.2)]) (fun y=>[]) (fun y=>[slF (rI .u32) (y.1) (y.2) (Big.digs ((Big.raw s l1 - Big.raw t l2).natAbs))]):=by
 refine zA Tryz.func98 rfl rfl rfl (fun c=> ?_)
 show RunC _ _ _ _ _ [(0,.agg #[.bool s,.slice p1 n1 c1]),(1,.agg #[.bool t,.slice p2 n2 c2])] [] [slF (rI .u32) p1 c1 l1,slF (rI .u32) p2 c2 l2]
 refine zra 0 rfl (fun hL0=> ?_)
 refine zfb 0 rfl (fun hE0=> ?_)
 refine zra 1 rfl (fun hL1=> ?_)
 refine zfb 1 rfl (fun hE1=> ?_)
 have hnn1:Big.nn l1:=fun g hg=>(zI.1 (hE0 g hg)).1
 have hnn2:Big.nn l2:=fun g hg=>(zI.1 (hE1 g hg)).1
 have hb1:Big.ln (Big.raw s l1)≤n1:=by have:=Big.zgb (s:=s) hnn1;omega
 have hb2:Big.ln (Big.raw t l2)≤n2:=by have:=Big.zgb (s:=t) hnn2;omega
 unfold Big.ln at hb1 hb2
 refine zk<|zc<|zK rfl rfl (zfa rfl rfl) (fun b1=> ?_)
 refine zK rfl rfl (zfa rfl rfl) (fun b2=> ?_)
 refine zK rfl rfl (zq zr42 rfl) (fun b3=> ?_)
 refine zl<|zg<|zk<|zS (OW:=[boxA b3 42 [.bool false,.slice none 0 0]]) (O:=[boxA b2 42 [.bool t,.slice p2 n2 c2],boxA b1 42 [.bool s,.slice p1 n1 c1]]) 4 mixed (.then .ret) (by kernel_rfl)<|d_uw 0 rfl rfl (by kernel_rfl) (by kernel_rfl) (by kernel_rfl) rfl rfl (ze 2 ty42 rfl rfl (.take (.take .nil)))<|d_uw 1 rfl rfl (by kernel_rfl) (by kernel_rfl) (by kernel_rfl) rfl rfl (ze 1 ty42 rfl rfl (.take (.take .nil)))<|zt 2 (by kernel_rfl) (zo rfl rfl rfl rfl (.c rfl .n) ce88 (zle (s:=t) (p:=p2) (n:=n2) (cap:=c2) (l:=l2) (hn:=by assumption) (hln:=by assumption)) (.c (j:=1) rfl .n) ?_)
 rintro ⟨p24,c25⟩ -
 dsimp only [List.append_eq,List.nil_append,List.cons_append]
 refine zt 3 (by kernel_rfl) (zo rfl rfl rfl rfl (.c rfl (.c rfl .n)) ce59 (zme (s:=s) (p1:=p1) (n1:=n1) (c1:=c1) (l1:=l1) (t:=decide ((- Big.raw t l2)<0)) (p2:=p24) (n2:=(Big.digs ((- Big.raw t l2).natAbs)).length) (c2:=c25) (l2:=Big.digs ((- Big.raw t l2).natAbs)) (hn1:=by assumption) (hn2:=by first|rfl|assumption|omega|(rw [Int.natAbs_neg];omega)) (hm1:=by assumption) (hm2:=by first|rfl|assumption|omega|(rw [Int.natAbs_neg];omega))) (.c (j:=1) rfl (.c (j:=0) rfl .n)) ?_)
 rintro ⟨p36,c37⟩ -
 dsimp only [List.append_eq,List.nil_append,List.cons_append]
 refine zt 4 (by kernel_rfl) (zr (by kernel_rfl) rfl rfl rfl rfl rfl sz42 rfl (.take (.take .nil)) ?_)
 refine zR (by kernel_rfl)<|zg<|zT ?_
 have hz:Big.raw s l1+Big.raw (decide ((- Big.raw t l2)<0)) (Big.digs (- Big.raw t l2).natAbs)=Big.raw s l1 - Big.raw t l2:=by rw [Big.raw_big];omega
 exact zO Tryz.results98 (p36,c37) trivial (zu 0 ty42 rfl rfl (.take (.take .nil))) (by rw [hz]) (ho:=(.n:PickO _ _ _)) ((.e (j:=0) rfl (by rw [hz]) .n):SelR _ _ _)
theorem zrc {x1:Int} {x2:Int} {p1:Option Addr} {c1:Nat} {p2:Option Addr} {c2:Nat} (hb1:Big.ln x1≤1099511627776) (hb2:Big.ln x2≤1099511627776):Con Tryz.prog 98 [.agg #[.bool (decide ((x1)<0)),.slice (p1) ((Big.digs ((x1).natAbs)).length) (c1)],.agg #[.bool (decide ((x2)<0)),.slice (p2) ((Big.digs ((x2).natAbs)).length) (c2)]] [] [slF (rI .u32) (p1) (c1) (Big.digs ((x1).natAbs)),slF (rI .u32) (p2) (c2) (Big.digs ((x2).natAbs))] (Y:=(Option Addr)×(Nat)) (fun y=>True) (fun y=> .agg #[.bool (decide ((x1 - x2)<0)),.slice (y.1) ((Big.digs ((x1 - x2).natAbs)).length) (y.2)]) (fun y=>[]) (fun y=>[slF (rI .u32) (y.1) (y.2) (Big.digs ((x1 - x2).natAbs))]):=by
  have h:= @zne (decide ((x1)<0)) p1 (Big.digs (x1).natAbs).length c1 (Big.digs (x1).natAbs) (decide ((x2)<0)) p2 (Big.digs (x2).natAbs).length c2 (Big.digs (x2).natAbs) rfl rfl hb1 hb2
  rw [Big.raw_big,Big.raw_big] at h
  exact h
theorem zsf {s:Bool} {p1:Option Addr} {n1:Nat} {c1:Nat} {l1:List Int} {t:Bool} {p2:Option Addr} {n2:Nat} {c2:Nat} {l2:List Int} (hn1:l1.length=n1) (hn2:l2.length=n2) (hm1:n1≤1099511627776) (hm2:n2≤1099511627776):Con Tryz.prog 60 [.agg #[.bool s,.slice p1 n1 c1],.agg #[.bool t,.slice p2 n2 c2]] [] [slF (rI .u32) p1 c1 l1,slF (rI .u32) p2 c2 l2] (Y:=(Option Addr)×Nat) (fun y=>True) (fun y=> .agg #[.bool (decide ((Big.raw s l1*Big.raw t l2)<0)),.slice (y.1) ((Big.digs ((Big.raw s l1*Big.raw t l2).natAbs)).length) (y.2)]) (fun y=>[]) (fun y=>[slF (rI .u32) (y.1) (y.2) (Big.digs ((Big.raw s l1*Big.raw t l2).natAbs))]):=by
 refine zA Tryz.func60 rfl rfl rfl (fun c=> ?_)
 show RunC _ _ _ _ _ [(0,.agg #[.bool s,.slice p1 n1 c1]),(1,.agg #[.bool t,.slice p2 n2 c2])] [] [slF (rI .u32) p1 c1 l1,slF (rI .u32) p2 c2 l2]
 refine zra 0 rfl (fun hL0=> ?_)
 refine zfb 0 rfl (fun hE0=> ?_)
 refine zra 1 rfl (fun hL1=> ?_)
 refine zfb 1 rfl (fun hE1=> ?_)
 have hnn1:Big.nn l1:=fun g hg=>(zI.1 (hE0 g hg)).1
 have hnn2:Big.nn l2:=fun g hg=>(zI.1 (hE1 g hg)).1
 have hb1:Big.ln (Big.raw s l1)≤n1:=by have:=Big.zgb (s:=s) hnn1;omega
 have hb2:Big.ln (Big.raw t l2)≤n2:=by have:=Big.zgb (s:=t) hnn2;omega
 unfold Big.ln at hb1 hb2
 have hoa:=Big.digs_ok (Big.raw s l1).natAbs
 have hob:=Big.digs_ok (Big.raw t l2).natAbs
 refine zk<|zc<|zK rfl rfl (zfa rfl rfl) (fun b1=> ?_)
 refine zK rfl rfl (zfa rfl rfl) (fun b2=> ?_)
 refine zK rfl rfl (zq zr42 rfl) (fun b3=> ?_)
 refine zl<|zg<|zk<|zea (.c (i:=2) rfl (.c (i:=1) rfl (.c (i:=0) rfl .n)))<|zS (OW:=[boxA b1 42 [.bool s,.slice p1 n1 c1],boxA b2 42 [.bool t,.slice p2 n2 c2]]) (O:=[boxA b3 42 [.bool false,.slice none 0 0]]) 4 mixed (.then .ret) (by kernel_rfl)<|d_uw 0 rfl rfl (by kernel_rfl) (by kernel_rfl) (by kernel_rfl) rfl rfl (ze 0 ty42 rfl rfl (.take (.take .nil)))<|d_uw 2 rfl rfl (by kernel_rfl) (by kernel_rfl) (by kernel_rfl) rfl rfl (ze 1 ty42 rfl rfl (.take (.take .nil)))<|zt 1 (by kernel_rfl) (zo rfl rfl rfl rfl (.c rfl .n) ce90 (zbb (s:=s) (p:=p1) (n:=n1) (cap:=c1) (l:=l1) (hn:=by assumption) (hln:=by assumption)) (.c (j:=0) rfl .n) ?_)
 rintro ⟨p24,c25⟩ -
 dsimp only [List.append_eq,List.nil_append,List.cons_append]
 refine zt 3 (by kernel_rfl) (zo rfl rfl rfl rfl (.c rfl .n) ce90 (zbb (s:=t) (p:=p2) (n:=n2) (cap:=c2) (l:=l2) (hn:=by assumption) (hln:=by assumption)) (.c (j:=2) rfl .n) ?_)
 rintro ⟨p26,c27⟩ -
 dsimp only [List.append_eq,List.nil_append,List.cons_append]
 refine zt 4 (by kernel_rfl) (zr (by kernel_rfl) rfl rfl rfl rfl rfl sz42 rfl (.take (.take .nil)) ?_)
 refine zWa (zpa (i:=1) rfl)<|zt 5 (by kernel_rfl) (zr (by kernel_rfl) rfl rfl rfl rfl rfl sz42 rfl (.take (.take .nil)) ?_)
 refine zR (by kernel_rfl)<|zg<|zk<|zc<|r_pv rfl rfl (zi Tryz.underlying42 rfl sz40 rfl rfl)<|r_u rfl rfl (zf 1 ty40 rfl rfl rfl)<|r_pv rfl rfl (zga Tryz.underlying40 rfl)<|r_pv rfl rfl (zi Tryz.underlying42 rfl sz40 rfl rfl)<|r_u rfl rfl (zf 0 ty40 rfl rfl rfl)<|r_pv rfl rfl (zga Tryz.underlying40 rfl)<|r_pv rfl rfl (zM (z:=(((((Big.digs ((Big.raw s l1).natAbs)).length)+((Big.digs ((Big.raw t l2).natAbs)).length)):Nat):Int)) rfl rfl (w64 (by omega)))<|zLa rfl rfl (zGb (r:=rI .u32) (k:=(((Big.digs ((Big.raw s l1).natAbs)).length)+((Big.digs ((Big.raw t l2).natAbs)).length))) (x0:=0) (γ0:=()) Tryz.underlying40 inf131 rfl rfl rfl rfl (by omega) (by omega) rfl (fun _ _=>by exact zI.2 (by decide)) (by decide)) (fun b8 _=> ?_)
 refine r_pv rfl rfl (zh rfl)<|zl<|zg<|zk<|zk<|zc<|r_pv rfl rfl (zh rfl)<|zl<|zg<|zv<|zAa (X:=Nat×(List Int)) (fun x:Nat×(List Int)=>x.1≤(Big.digs (Big.raw s l1).natAbs).length∧x.2.length=(Big.digs (Big.raw s l1).natAbs).length+(Big.digs (Big.raw t l2).natAbs).length∧Big.okL x.2∧(∀k,x.1+(Big.digs (Big.raw t l2).natAbs).length≤k→x.2.getD k 0=0)∧Big.valL x.2=Big.valL ((Big.digs (Big.raw s l1).natAbs).take x.1)*Big.valL (Big.digs (Big.raw t l2).natAbs)) (fun x=>[(6,.int .i64 ((x.1:Nat):Int)),(5,.slice (some ⟨b8,0,none⟩) (((Big.digs ((Big.raw s l1).natAbs)).length)+((Big.digs ((Big.raw t l2).natAbs)).length)) (((Big.digs ((Big.raw s l1).natAbs)).length)+((Big.digs ((Big.raw t l2).natAbs)).length))),(4,.pointer (some ⟨b3,0,none⟩)),(3,.pointer (some ⟨b2,0,none⟩)),(2,.pointer (some ⟨b1,0,none⟩))]) (fun x=>[rowA 131 (rI .u32) (some ⟨b8,0,none⟩) (((Big.digs ((Big.raw s l1).natAbs)).length)+((Big.digs ((Big.raw t l2).natAbs)).length)) (x.2),boxA b2 42 [.bool (decide ((Big.raw t l2)<0)),.slice p26 ((Big.digs ((Big.raw t l2).natAbs)).length) c27],boxA b1 42 [.bool (decide ((Big.raw s l1)<0)),.slice p24 ((Big.digs ((Big.raw s l1).natAbs)).length) c25],boxA b3 42 [.bool false,.slice none 0 0]]) (fun x=>[slF (rI .u32) p26 c27 (Big.digs ((Big.raw t l2).natAbs)),slF (rI .u32) p24 c25 (Big.digs ((Big.raw s l1).natAbs)),slF (rI .u32) p1 c1 l1,slF (rI .u32) p2 c2 l2]) (fun x:Nat×(List Int)=>(Big.digs (Big.raw s l1).natAbs).length - x.1) (0,List.replicate ((Big.digs (Big.raw s l1).natAbs).length+(Big.digs (Big.raw t l2).natAbs).length) 0) (show 0≤(Big.digs (Big.raw s l1).natAbs).length∧(List.replicate ((Big.digs (Big.raw s l1).natAbs).length+(Big.digs (Big.raw t l2).natAbs).length) 0).length=(Big.digs (Big.raw s l1).natAbs).length+(Big.digs (Big.raw t l2).natAbs).length∧Big.okL (List.replicate ((Big.digs (Big.raw s l1).natAbs).length+(Big.digs (Big.raw t l2).natAbs).length) 0)∧(∀k,0+(Big.digs (Big.raw t l2).natAbs).length≤k→(List.replicate ((Big.digs (Big.raw s l1).natAbs).length+(Big.digs (Big.raw t l2).natAbs).length) 0).getD k 0=0)∧Big.valL (List.replicate ((Big.digs (Big.raw s l1).natAbs).length+(Big.digs (Big.raw t l2).natAbs).length) 0)=Big.valL ((Big.digs (Big.raw s l1).natAbs).take 0)*Big.valL (Big.digs (Big.raw t l2).natAbs) from by exact ⟨by omega,by simp,Big.okL_zeros _,fun k _=>Big.getD_zeros _ k,by simp [Big.valL_zeros,Big.valL]⟩) ((.e rfl (by first|rfl|(congr 1;omega)|simp_all) (.of rfl)):SubM _ _) (ho:=((.e (i:=0) rfl (by first|rfl|(congr 1;omega)|simp_all) (.of [0,0,0] rfl)):PickO _ _ _)) ((.of [0,1,2,3] rfl):SelR _ _ _) ?_
 rintro ⟨i,os⟩ hI
 replace hI:i≤(Big.digs (Big.raw s l1).natAbs).length∧os.length=(Big.digs (Big.raw s l1).natAbs).length+(Big.digs (Big.raw t l2).natAbs).length∧Big.okL os∧(∀k,i+(Big.digs (Big.raw t l2).natAbs).length≤k→os.getD k 0=0)∧Big.valL os=Big.valL ((Big.digs (Big.raw s l1).natAbs).take i)*Big.valL (Big.digs (Big.raw t l2).natAbs):=hI
 try dsimp only
 obtain ⟨hi,hol,hok,hz,hv⟩:=hI
 have hg1:=Big.okL_getD hoa i
 refine zk<|zk<|zc<|r_pv rfl rfl (zd rfl)<|r_pv rfl rfl (zi Tryz.underlying42 rfl sz40 rfl rfl)<|r_u rfl rfl (zf 2 ty40 rfl rfl rfl)<|r_pv rfl rfl (zga Tryz.underlying40 rfl)<|r_pv rfl rfl (zU rfl rfl)<|zl<|zg<|zV rfl (fun h9=> ?_) (fun h9=> ?_)
 ·
  refine zE<|zg<|zk<|zv<|zk<|zc<|r_pv rfl rfl (zh rfl)<|zl<|zg<|zk<|zk<|zc<|r_pv rfl rfl (zh rfl)<|zl<|zg<|zv<|zAa (X:=Nat×(List Int)×Int) (fun x:Nat×(List Int)×Int=>x.1≤(Big.digs (Big.raw t l2).natAbs).length∧x.2.1.length=(Big.digs (Big.raw s l1).natAbs).length+(Big.digs (Big.raw t l2).natAbs).length∧Big.okL x.2.1∧0≤x.2.2∧x.2.2<1000000000∧(∀k,i+(Big.digs (Big.raw t l2).natAbs).length≤k→x.2.1.getD k 0=0)∧Big.valL x.2.1+Big.pw (i+x.1)*x.2.2=Big.valL ((Big.digs (Big.raw s l1).natAbs).take i)*Big.valL (Big.digs (Big.raw t l2).natAbs)+Big.pw i*(Big.digs (Big.raw s l1).natAbs).getD i 0*Big.valL ((Big.digs (Big.raw t l2).natAbs).take x.1)) (fun x=>[(7,.int .u64 (x.2.2)),(8,.int .i64 ((x.1:Nat):Int)),(6,.int .i64 ((i:Nat):Int)),(5,.slice (some ⟨b8,0,none⟩) (((Big.digs ((Big.raw s l1).natAbs)).length)+((Big.digs ((Big.raw t l2).natAbs)).length)) (((Big.digs ((Big.raw s l1).natAbs)).length)+((Big.digs ((Big.raw t l2).natAbs)).length))),(4,.pointer (some ⟨b3,0,none⟩)),(3,.pointer (some ⟨b2,0,none⟩)),(2,.pointer (some ⟨b1,0,none⟩))]) (fun x=>[rowA 131 (rI .u32) (some ⟨b8,0,none⟩) (((Big.digs ((Big.raw s l1).natAbs)).length)+((Big.digs ((Big.raw t l2).natAbs)).length)) (x.2.1),boxA b2 42 [.bool (decide ((Big.raw t l2)<0)),.slice p26 ((Big.digs ((Big.raw t l2).natAbs)).length) c27],boxA b1 42 [.bool (decide ((Big.raw s l1)<0)),.slice p24 ((Big.digs ((Big.raw s l1).natAbs)).length) c25],boxA b3 42 [.bool false,.slice none 0 0]]) (fun x=>[slF (rI .u32) p26 c27 (Big.digs ((Big.raw t l2).natAbs)),slF (rI .u32) p24 c25 (Big.digs ((Big.raw s l1).natAbs)),slF (rI .u32) p1 c1 l1,slF (rI .u32) p2 c2 l2]) (fun x:Nat×(List Int)×Int=>(Big.digs (Big.raw t l2).natAbs).length - x.1) (0,os,0) (show 0≤(Big.digs (Big.raw t l2).natAbs).length∧os.length=(Big.digs (Big.raw s l1).natAbs).length+(Big.digs (Big.raw t l2).natAbs).length∧Big.okL os∧0≤0∧0<1000000000∧(∀k,i+(Big.digs (Big.raw t l2).natAbs).length≤k→os.getD k 0=0)∧Big.valL os+Big.pw (i+0)*0=Big.valL ((Big.digs (Big.raw s l1).natAbs).take i)*Big.valL (Big.digs (Big.raw t l2).natAbs)+Big.pw i*(Big.digs (Big.raw s l1).natAbs).getD i 0*Big.valL ((Big.digs (Big.raw t l2).natAbs).take 0) from by exact ⟨by omega,hol,hok,by decide,by decide,hz,by rw [hv];simp [Big.valL]⟩) ((.c rfl (.e rfl (by first|rfl|(congr 1;omega)|simp_all) (.of rfl))):SubM _ _) (ho:=((.of [0,0,0,0] rfl):PickO _ _ _)) ((.of [0,1,2,3] rfl):SelR _ _ _) ?_
  rintro ⟨j,os2,cy⟩ hJ
  replace hJ:j≤(Big.digs (Big.raw t l2).natAbs).length∧os2.length=(Big.digs (Big.raw s l1).natAbs).length+(Big.digs (Big.raw t l2).natAbs).length∧Big.okL os2∧0≤cy∧cy<1000000000∧(∀k,i+(Big.digs (Big.raw t l2).natAbs).length≤k→os2.getD k 0=0)∧Big.valL os2+Big.pw (i+j)*cy=Big.valL ((Big.digs (Big.raw s l1).natAbs).take i)*Big.valL (Big.digs (Big.raw t l2).natAbs)+Big.pw i*(Big.digs (Big.raw s l1).natAbs).getD i 0*Big.valL ((Big.digs (Big.raw t l2).natAbs).take j):=hJ
  try dsimp only
  obtain ⟨hj,hol2,hok2,hcy0,hcy1,hz2,hv2⟩:=hJ
  have hg2:=Big.okL_getD hob j
  have hg3:=Big.okL_getD hok2 (i+j)
  have hpq:=Big.mul_lim hg1 hg2
  refine zk<|zk<|zc<|r_pv rfl rfl (zd rfl)<|r_pv rfl rfl (zi Tryz.underlying42 rfl sz40 rfl rfl)<|r_u rfl rfl (zf 1 ty40 rfl rfl rfl)<|r_pv rfl rfl (zga Tryz.underlying40 rfl)<|r_pv rfl rfl (zU rfl rfl)<|zl<|zg<|zV rfl (fun h10=> ?_) (fun h10=> ?_)
  ·
   refine zE<|zg<|zk<|zv<|zk<|zS (OW:=[]) (O:=[rowA 131 (rI .u32) (some ⟨b8,0,none⟩) (((Big.digs ((Big.raw s l1).natAbs)).length)+((Big.digs ((Big.raw t l2).natAbs)).length)) os2,boxA b2 42 [.bool (decide ((Big.raw t l2)<0)),.slice p26 ((Big.digs ((Big.raw t l2).natAbs)).length) c27],boxA b1 42 [.bool (decide ((Big.raw s l1)<0)),.slice p24 ((Big.digs ((Big.raw s l1).natAbs)).length) c25],boxA b3 42 [.bool false,.slice none 0 0]]) 100000 mixed (.then (.block (.then (.then (.block (.then (.block (.then (.then (.block (.then .ret))))))))))) (by kernel_rfl)<|d_pv 0 rfl rfl (by kernel_rfl) (by kernel_rfl) rfl rfl (zd rfl)<|d_pv 1 rfl rfl (by kernel_rfl) (by kernel_rfl) rfl rfl (zd rfl)<|d_pv 2 rfl rfl (by kernel_rfl) (by kernel_rfl) rfl rfl (zd rfl)<|d_pv 3 rfl rfl (by kernel_rfl) (by kernel_rfl) rfl rfl (zM (z:=(((i+j):Nat):Int)) rfl rfl (w64 (by omega)))<|d_pv 4 rfl rfl (by kernel_rfl) (by kernel_rfl) rfl rfl (zqa (j:=(i+j)) Tryz.underlying40 sz131 rfl rfl rfl (by omega))<|d_vl 5 rfl rfl (by kernel_rfl) (by kernel_rfl) rfl rfl (zya 0 (i+j) rfl ty131 rfl rfl (gD (d:=0) (by omega)) rfl) (fun _ hok11=> ?_)
   replace hok11:=zI.1 hok11
   refine d_pv 6 rfl rfl (by kernel_rfl) (by kernel_rfl) rfl rfl (zL (z:=(os2.getD (i+j) 0)) rfl (by rw [Tryz.underlying131];rfl) Tryz.underlying130 (wu64 (by omega)))<|d_pv 7 rfl rfl (by kernel_rfl) (by kernel_rfl) rfl rfl (zi Tryz.underlying42 rfl sz40 rfl rfl)<|d_u 8 rfl rfl (by kernel_rfl) (by kernel_rfl) rfl rfl (zf 2 ty40 rfl rfl rfl)<|d_pv 9 rfl rfl (by kernel_rfl) (by kernel_rfl) rfl rfl (zd rfl)<|zOa (x0:=((Big.digs ((Big.raw s l1).natAbs)).getD i 0)) 10 rfl rfl (by kernel_rfl) (by kernel_rfl) 1 i rfl Tryz.underlying40 sz131 rfl rfl rfl (by first|rfl|assumption|(simp;omega)|omega) rfl rfl (gD (d:=0) (by omega)) (fun b12 o13 hok14=> ?_)
   replace hok14:=zI.1 hok14
   refine d_u 11 rfl rfl (by kernel_rfl) (by kernel_rfl) rfl rfl (zC (j:=0) 0 ty131 rfl rfl rfl rfl)<|d_pv 12 rfl rfl (by kernel_rfl) (by kernel_rfl) rfl rfl (zL (z:=((Big.digs ((Big.raw s l1).natAbs)).getD i 0)) rfl (by rw [Tryz.underlying131];rfl) Tryz.underlying130 (wu64 (by omega)))<|d_pv 13 rfl rfl (by kernel_rfl) (by kernel_rfl) rfl rfl (zi Tryz.underlying42 rfl sz40 rfl rfl)<|d_u 14 rfl rfl (by kernel_rfl) (by kernel_rfl) rfl rfl (zf 1 ty40 rfl rfl rfl)<|d_pv 15 rfl rfl (by kernel_rfl) (by kernel_rfl) rfl rfl (zd rfl)<|zOa (x0:=((Big.digs ((Big.raw t l2).natAbs)).getD j 0)) 16 rfl rfl (by kernel_rfl) (by kernel_rfl) 1 j rfl Tryz.underlying40 sz131 rfl rfl rfl (by first|rfl|assumption|(simp;omega)|omega) rfl rfl (gD (d:=0) (by omega)) (fun b15 o16 hok17=> ?_)
   replace hok17:=zI.1 hok17
   refine d_u 17 rfl rfl (by kernel_rfl) (by kernel_rfl) rfl rfl (zC (j:=0) 0 ty131 rfl rfl rfl rfl)<|d_pv 18 rfl rfl (by kernel_rfl) (by kernel_rfl) rfl rfl (zL (z:=((Big.digs ((Big.raw t l2).natAbs)).getD j 0)) rfl (by rw [Tryz.underlying131];rfl) Tryz.underlying130 (wu64 (by omega)))<|d_pv 19 rfl rfl (by kernel_rfl) (by kernel_rfl) rfl rfl (zTa (z:=(((Big.digs ((Big.raw s l1).natAbs)).getD i 0)*((Big.digs ((Big.raw t l2).natAbs)).getD j 0))) rfl rfl (wu64 (by omega)))<|d_pv 20 rfl rfl (by kernel_rfl) (by kernel_rfl) rfl rfl (zM (z:=((os2.getD (i+j) 0)+(((Big.digs ((Big.raw s l1).natAbs)).getD i 0)*((Big.digs ((Big.raw t l2).natAbs)).getD j 0)))) rfl rfl (wu64 (by omega)))<|d_pv 21 rfl rfl (by kernel_rfl) (by kernel_rfl) rfl rfl (zd rfl)<|d_pv 22 rfl rfl (by kernel_rfl) (by kernel_rfl) rfl rfl (zM (z:=(((os2.getD (i+j) 0)+(((Big.digs ((Big.raw s l1).natAbs)).getD i 0)*((Big.digs ((Big.raw t l2).natAbs)).getD j 0)))+cy)) rfl rfl (wu64 (by omega)))<|d_pv 23 rfl rfl (by kernel_rfl) (by kernel_rfl) rfl rfl (zh rfl)<|zR (by kernel_rfl)<|zg<|zk<|zc<|r_pv rfl rfl (zd rfl)<|r_pv rfl rfl (zd rfl)<|r_pv rfl rfl (zd rfl)<|r_pv rfl rfl (zM (z:=(((i+j):Nat):Int)) rfl rfl (w64 (by omega)))<|r_pv rfl rfl (zd rfl)<|r_pv rfl rfl (zUa (z:=((((os2.getD (i+j) 0)+(((Big.digs ((Big.raw s l1).natAbs)).getD i 0)*((Big.digs ((Big.raw t l2).natAbs)).getD j 0)))+cy)%1000000000)) rfl rfl (by omega) (remN (by omega) (by omega)))<|r_pv rfl rfl (zL (z:=((((os2.getD (i+j) 0)+(((Big.digs ((Big.raw s l1).natAbs)).getD i 0)*((Big.digs ((Big.raw t l2).natAbs)).getD j 0)))+cy)%1000000000)) rfl (by rw [Tryz.underlying130];rfl) Tryz.underlying131 (wu32 (by omega)))<|r_pv rfl rfl (zqa (j:=(i+j)) Tryz.underlying40 sz131 rfl rfl rfl (by omega))<|zZa 0 rfl rfl rfl (zja (j:=(i+j)) (x0:=((((os2.getD (i+j) 0)+(((Big.digs ((Big.raw s l1).natAbs)).getD i 0)*((Big.digs ((Big.raw t l2).natAbs)).getD j 0)))+cy)%1000000000)) (γ0:=()) rfl rfl (by first|omega|(rw [List.length_map];omega)|(simp only [List.length_set];omega)|(simp;done)|(simp;omega)) rfl rfl sz131 (fun _ _=>by exact zI.2 (by omega))) (fun _=> .z) (fun _ _=> ?_)
   refine zl<|zg<|zc<|r_pv rfl rfl (zd rfl)<|r_pv rfl rfl (zdb (z:=((((os2.getD (i+j) 0)+(((Big.digs ((Big.raw s l1).natAbs)).getD i 0)*((Big.digs ((Big.raw t l2).natAbs)).getD j 0)))+cy) / 1000000000)) rfl rfl (by omega) (by rw [quoN (z:=((((os2.getD (i+j) 0)+(((Big.digs ((Big.raw s l1).natAbs)).getD i 0)*((Big.digs ((Big.raw t l2).natAbs)).getD j 0)))+cy) / 1000000000)) (by omega) (by omega)];exact wu64 (by omega)))<|r_pv rfl rfl (zh rfl)<|zl<|zN<|zg<|zc<|r_pv rfl rfl (zd rfl)<|r_pv rfl rfl (zM (z:=(((j+1):Nat):Int)) rfl rfl (w64 (by omega)))<|r_pv rfl rfl (zh rfl)<|zl<|zva ((j+1),os2.set (i+j) ((os2.getD (i+j) 0+(Big.digs (Big.raw s l1).natAbs).getD i 0*(Big.digs (Big.raw t l2).natAbs).getD j 0+cy)%1000000000),(os2.getD (i+j) 0+(Big.digs (Big.raw s l1).natAbs).getD i 0*(Big.digs (Big.raw t l2).natAbs).getD j 0+cy) / 1000000000) (show (j+1)≤(Big.digs (Big.raw t l2).natAbs).length∧(os2.set (i+j) ((os2.getD (i+j) 0+(Big.digs (Big.raw s l1).natAbs).getD i 0*(Big.digs (Big.raw t l2).natAbs).getD j 0+cy)%1000000000)).length=(Big.digs (Big.raw s l1).natAbs).length+(Big.digs (Big.raw t l2).natAbs).length∧Big.okL (os2.set (i+j) ((os2.getD (i+j) 0+(Big.digs (Big.raw s l1).natAbs).getD i 0*(Big.digs (Big.raw t l2).natAbs).getD j 0+cy)%1000000000))∧0≤((os2.getD (i+j) 0+(Big.digs (Big.raw s l1).natAbs).getD i 0*(Big.digs (Big.raw t l2).natAbs).getD j 0+cy) / 1000000000)∧((os2.getD (i+j) 0+(Big.digs (Big.raw s l1).natAbs).getD i 0*(Big.digs (Big.raw t l2).natAbs).getD j 0+cy) / 1000000000)<1000000000∧(∀k,i+(Big.digs (Big.raw t l2).natAbs).length≤k→(os2.set (i+j) ((os2.getD (i+j) 0+(Big.digs (Big.raw s l1).natAbs).getD i 0*(Big.digs (Big.raw t l2).natAbs).getD j 0+cy)%1000000000)).getD k 0=0)∧Big.valL (os2.set (i+j) ((os2.getD (i+j) 0+(Big.digs (Big.raw s l1).natAbs).getD i 0*(Big.digs (Big.raw t l2).natAbs).getD j 0+cy)%1000000000))+Big.pw (i+(j+1))*((os2.getD (i+j) 0+(Big.digs (Big.raw s l1).natAbs).getD i 0*(Big.digs (Big.raw t l2).natAbs).getD j 0+cy) / 1000000000)=Big.valL ((Big.digs (Big.raw s l1).natAbs).take i)*Big.valL (Big.digs (Big.raw t l2).natAbs)+Big.pw i*(Big.digs (Big.raw s l1).natAbs).getD i 0*Big.valL ((Big.digs (Big.raw t l2).natAbs).take (j+1)) from by exact ⟨by omega,by simpa using hol2,Big.okL_set hok2 (by omega) (by omega),by omega,by omega,fun k hk=>by rw [Big.getD_set_ne (by omega)];exact hz2 k (by omega),Big.mul_step hv2 (by omega) (by omega)⟩) (by show (Big.digs (Big.raw t l2).natAbs).length - (j+1)<(Big.digs (Big.raw t l2).natAbs).length - j;omega) ((.e rfl (by first|rfl|(congr 1;omega)|simp_all) (.of rfl)):SubM _ _) (ho:=((.e (i:=0) rfl (by first|rfl|(congr 1;omega)|simp_all) (.of [0,0,0] rfl)):PickO _ _ _)) ((.of [2,3,4,5] rfl):SelR _ _ _)
  ·
   have hjb:j=(Big.digs (Big.raw t l2).natAbs).length:=by omega
   subst hjb
   have hv3:=hv2
   refine zna<|zp<|zp<|zH<|zg<|zc<|r_pv rfl rfl (zd rfl)<|r_pv rfl rfl (zd rfl)<|r_pv rfl rfl (zi Tryz.underlying42 rfl sz40 rfl rfl)<|r_u rfl rfl (zf 1 ty40 rfl rfl rfl)<|r_pv rfl rfl (zga Tryz.underlying40 rfl)<|r_pv rfl rfl (zM (z:=(((i+((Big.digs ((Big.raw t l2).natAbs)).length)):Nat):Int)) rfl rfl (w64 (by omega)))<|r_pv rfl rfl (zd rfl)<|r_pv rfl rfl (zL (z:=cy) rfl (by rw [Tryz.underlying130];rfl) Tryz.underlying131 (wu32 (by omega)))<|r_pv rfl rfl (zqa (j:=(i+((Big.digs ((Big.raw t l2).natAbs)).length))) Tryz.underlying40 sz131 rfl rfl rfl (by omega))<|zZa 0 rfl rfl rfl (zja (j:=(i+((Big.digs ((Big.raw t l2).natAbs)).length))) (x0:=cy) (γ0:=()) rfl rfl (by first|omega|(rw [List.length_map];omega)|(simp only [List.length_set];omega)|(simp;done)|(simp;omega)) rfl rfl sz131 (fun _ _=>by exact zI.2 (by omega))) (fun _=> .z) (fun _ _=> ?_)
   refine zl<|zN<|zg<|zc<|r_pv rfl rfl (zd rfl)<|r_pv rfl rfl (zM (z:=(((i+1):Nat):Int)) rfl rfl (w64 (by omega)))<|r_pv rfl rfl (zh rfl)<|zl<|zva ((i+1),os2.set (i+(Big.digs (Big.raw t l2).natAbs).length) cy) (show (i+1)≤(Big.digs (Big.raw s l1).natAbs).length∧(os2.set (i+(Big.digs (Big.raw t l2).natAbs).length) cy).length=(Big.digs (Big.raw s l1).natAbs).length+(Big.digs (Big.raw t l2).natAbs).length∧Big.okL (os2.set (i+(Big.digs (Big.raw t l2).natAbs).length) cy)∧(∀k,(i+1)+(Big.digs (Big.raw t l2).natAbs).length≤k→(os2.set (i+(Big.digs (Big.raw t l2).natAbs).length) cy).getD k 0=0)∧Big.valL (os2.set (i+(Big.digs (Big.raw t l2).natAbs).length) cy)=Big.valL ((Big.digs (Big.raw s l1).natAbs).take (i+1))*Big.valL (Big.digs (Big.raw t l2).natAbs) from by exact ⟨by omega,by simpa using hol2,Big.okL_set hok2 (by omega) (by omega),fun k hk=>by rw [Big.getD_set_ne (by omega)];exact hz2 k (by omega),Big.mul_round hv3 (by omega) (hz2 _ (Nat.le_refl _))⟩) (by show (Big.digs (Big.raw s l1).natAbs).length - (i+1)<(Big.digs (Big.raw s l1).natAbs).length - i;omega) ((.of rfl):SubM _ _) (ho:=((.e (i:=0) rfl (by first|rfl|(congr 1;omega)|simp_all) (.of [0,0,0] rfl)):PickO _ _ _)) ((.of [0,1,2,3] rfl):SelR _ _ _)
 ·
  have hia:i=(Big.digs (Big.raw s l1).natAbs).length:=by omega
  have hfin:Big.sg (decide (decide (Big.raw s l1<0)≠decide (Big.raw t l2<0))) (Big.valL os)=Big.raw s l1*Big.raw t l2:=by rw [hv,hia,List.take_length,Big.valL_digs,Big.valL_digs,←Int.natCast_mul,Big.sg_mul,Big.sg_big,Big.sg_big]
  refine zna<|zp<|zp<|zH<|zg<|zk<|zc<|r_pv rfl rfl (zi Tryz.underlying42 rfl sz4 rfl rfl)<|r_u rfl rfl (zf 2 ty4 rfl rfl rfl)<|r_pv rfl rfl (zi Tryz.underlying42 rfl sz4 rfl rfl)<|r_u rfl rfl (zf 1 ty4 rfl rfl rfl)<|r_pv rfl rfl (zVa Tryz.underlying4 rfl rfl)<|r_pv rfl rfl (zd rfl)<|zsa 0 rfl .z<|zJ rfl rfl (.c rfl (.c rfl .n)) ce91 (zRa (s:=decide (decide ((Big.raw s l1)<0)≠decide ((Big.raw t l2)<0))) (p:=some ⟨b8,0,none⟩) (n:=(((Big.digs ((Big.raw s l1).natAbs)).length)+((Big.digs ((Big.raw t l2).natAbs)).length))) (cap:=(((Big.digs ((Big.raw s l1).natAbs)).length)+((Big.digs ((Big.raw t l2).natAbs)).length))) (l:=os) (hn:=by first|rfl|assumption|omega|(unfold Big.ln;omega)|(simp;done)|(simp;omega)|(simp_all;done)) (ho:=by exact hok) (hln:=by first|rfl|assumption|omega|(unfold Big.ln;omega)|(simp;done)|(simp;omega)|(simp_all;done))) (.c (j:=0) rfl .n) ?_
  rintro ⟨p218,c219⟩ -
  dsimp only [List.append_eq,List.nil_append,List.cons_append]
  refine zn 3 rfl rfl rfl rfl rfl sz42 rfl (.take (.take .nil)) (.s (.s (.s .z)))<|zl<|zg<|zT ?_
  exact zO Tryz.results60 (p218,c219) trivial (zu 3 ty42 rfl rfl (.take (.take .nil))) (by rw [hfin]) (ho:=(.n:PickO _ _ _)) ((.e (j:=0) rfl (by rw [hfin]) .n):SelR _ _ _)
theorem zsc {x1:Int} {x2:Int} {p1:Option Addr} {c1:Nat} {p2:Option Addr} {c2:Nat} (hb1:Big.ln x1≤1099511627776) (hb2:Big.ln x2≤1099511627776):Con Tryz.prog 60 [.agg #[.bool (decide ((x1)<0)),.slice (p1) ((Big.digs ((x1).natAbs)).length) (c1)],.agg #[.bool (decide ((x2)<0)),.slice (p2) ((Big.digs ((x2).natAbs)).length) (c2)]] [] [slF (rI .u32) (p1) (c1) (Big.digs ((x1).natAbs)),slF (rI .u32) (p2) (c2) (Big.digs ((x2).natAbs))] (Y:=(Option Addr)×(Nat)) (fun y=>True) (fun y=> .agg #[.bool (decide ((x1*x2)<0)),.slice (y.1) ((Big.digs ((x1*x2).natAbs)).length) (y.2)]) (fun y=>[]) (fun y=>[slF (rI .u32) (y.1) (y.2) (Big.digs ((x1*x2).natAbs))]):=by
  have h:= @zsf (decide ((x1)<0)) p1 (Big.digs (x1).natAbs).length c1 (Big.digs (x1).natAbs) (decide ((x2)<0)) p2 (Big.digs (x2).natAbs).length c2 (Big.digs (x2).natAbs) rfl rfl hb1 hb2
  rw [Big.raw_big,Big.raw_big] at h
  exact h
theorem zXc {w1:Wd} {w2:Wd} {x1:Int} {x2:Int} (hb1:Big.ln x1≤1099511627776) (hb2:Big.ln x2≤1099511627776):Con Tryz.prog 60 [.agg #[w1.b,w1.l],.agg #[w2.b,w2.l]] [] [zF w1 (x1),zF w2 (x2)] (Y:=(Wd)) (fun y=>True) (fun y=> .agg #[y.b,y.l]) (fun y=>[]) (fun y=>[zF y (x1*x2)]):=by
  exact zbc (zGc (fun p1 c1 p2 c2=>zsc hb1 hb2))
end Go.Proofs.YtjeahiahjgifgaaGreatDoor.Sp
namespace Go.Proofs.YtjeahiahjgifgaaGreatDoor.Sp
open Go
set_option linter.unusedVariables false
set_option maxRecDepth 100000
set_option maxHeartbeats 8000000
theorem zgc {a:Nat} {d:Nat} {p0:Option Addr} {cap:Nat} (hb:(Big.digs a).length≤1099511627776) (hd:d<1000000000):Con Tryz.prog 114 [.slice p0 ((Big.digs a).length) cap,.int .u64 ((d:Nat):Int)] [] [slF (rI .u32) p0 cap (Big.digs a)] (Y:=(Option Addr)×Nat) (fun y=>True) (fun y=> .slice (y.1) ((Big.digs (a*d)).length) (y.2)) (fun y=>[]) (fun y=>[slF (rI .u32) (y.1) (y.2) (Big.digs (a*d))]):=by
 refine zA Tryz.func114 rfl rfl rfl (fun c=> ?_)
 show RunC _ _ _ _ _ [(0,.slice p0 ((Big.digs a).length) cap),(1,.int .u64 ((d:Nat):Int))] [] [slF (rI .u32) p0 cap (Big.digs a)]
 refine zra 0 rfl (fun hL0=> ?_)
 refine zk<|zc<|r_pv rfl rfl (zh rfl)<|zl<|zg<|zk<|zc<|zLa rfl rfl (zCa (rI .u32) Tryz.underlying40 inf131) (fun b1 _=> ?_)
 refine r_pv rfl rfl (zh rfl)<|zl<|zg<|zk<|zc<|r_pv rfl rfl (zh rfl)<|zl<|zg<|zk<|zk<|zc<|r_pv rfl rfl (zh rfl)<|zl<|zg<|zv<|zAa (X:=Nat×(Option Addr)×Nat×(List Int)×Int) (fun x:Nat×(Option Addr)×Nat×(List Int)×Int=>Big.ScI (Big.digs a) (d:Int) x.1 x.2.2.2.1 x.2.2.2.2) (fun x=>[(6,.int .u64 (x.2.2.2.2)),(5,.slice (x.2.1) (x.2.2.2.1.length) (x.2.2.1)),(7,.int .i64 ((x.1:Nat):Int)),(4,.slice none 0 0),(0,.slice p0 ((Big.digs a).length) cap),(1,.int .u64 ((d:Nat):Int))]) (fun x=>[rowA 131 (rI .u32) (x.2.1) (x.2.2.1) (x.2.2.2.1)]) (fun x=>[slF (rI .u32) p0 cap (Big.digs a)]) (fun x:Nat×(Option Addr)×Nat×(List Int)×Int=>(Big.digs a).length - x.1) (0,some ⟨b1,0,none⟩,0,[],0) (show Big.ScI (Big.digs a) (d:Int) 0 ([]) 0 from by exact Big.ScI.start _ _) ((.c rfl (.e rfl (by first|rfl|(congr 1;omega)|simp_all) (.e rfl (by first|rfl|(congr 1;omega)|simp_all) (.of rfl)))):SubM _ _) (ho:=((.c (i:=0) rfl .n):PickO _ _ _)) ((.c (j:=0) rfl .n):SelR _ _ _) ?_
 rintro ⟨i,p,c,os,cy⟩ hI
 replace hI:Big.ScI (Big.digs a) (d:Int) i os cy:=hI
 try dsimp only
 have hi:=hI.le
 have hol:=hI.len
 have hc0:=hI.c0
 have hc1:=hI.c1
 have hg:=Big.okL_getD (Big.digs_ok a) i
 have hsl:=Big.sc_lim hg (show 0≤(d:Int)∧(d:Int)<1000000000 by omega) ⟨hc0,hc1⟩
 refine zk<|zk<|zc<|r_pv rfl rfl (zd rfl)<|r_pv rfl rfl (zd rfl)<|r_pv rfl rfl (zga Tryz.underlying40 rfl)<|r_pv rfl rfl (zU rfl rfl)<|zl<|zg<|zV rfl (fun h2=> ?_) (fun h2=> ?_)
 ·
  refine zE<|zg<|zk<|zv<|zk<|zc<|r_pv rfl rfl (zd rfl)<|r_pv rfl rfl (zd rfl)<|zQ (x0:=((Big.digs a).getD i 0)) 0 i rfl Tryz.underlying40 sz131 rfl rfl rfl (by first|rfl|assumption|(simp;done)|(simp;omega)|omega) rfl rfl (gD (d:=0) (by omega)) (fun b3 o4 hok5=> ?_)
  replace hok5:=zI.1 hok5
  refine r_u rfl rfl (zC (j:=0) 0 ty131 rfl rfl rfl rfl)<|r_pv rfl rfl (zL (z:=((Big.digs a).getD i 0)) rfl (by rw [Tryz.underlying131];rfl) Tryz.underlying130 (wu64 (by omega)))<|r_pv rfl rfl (zd rfl)<|r_pv rfl rfl (zTa (z:=(((Big.digs a).getD i 0)*((d:Nat):Int))) rfl rfl (wu64 (by omega)))<|r_pv rfl rfl (zd rfl)<|r_pv rfl rfl (zM (z:=((((Big.digs a).getD i 0)*((d:Nat):Int))+cy)) rfl rfl (wu64 (by omega)))<|r_pv rfl rfl (zh rfl)<|zl<|zg<|zk<|zc<|r_pv rfl rfl (zd rfl)<|r_pv rfl rfl (zd rfl)<|r_pv rfl rfl (zUa (z:=(((((Big.digs a).getD i 0)*((d:Nat):Int))+cy)%1000000000)) rfl rfl (by omega) (remN (by omega) (by omega)))<|r_pv rfl rfl (zL (z:=(((((Big.digs a).getD i 0)*((d:Nat):Int))+cy)%1000000000)) rfl (by rw [Tryz.underlying130];rfl) Tryz.underlying131 (wu32 (by omega)))<|zLa rfl rfl (zda (enc:=fun z:Int=>[.int .u32 z]) (ok:=InK .u32) (h1:=fun _=>rfl) (h2:=fun _=>rfl) (k:=1) Tryz.underlying40 inf131 rfl (by decide) (by decide) (by decide) (.c (x:=(((((Big.digs a).getD i 0)*((d:Nat):Int))+cy)%1000000000)) rfl rfl (fun _ _=>by exact zI.2 (by omega)) .n)) (fun b6 _=> ?_)
  refine zsa 0 rfl .z<|zZa 1 rfl rfl rfl (zNa 0 rfl Tryz.underlying40 inf131 (by decide) rfl rfl (by first|rfl|assumption|(simp;done)|(simp;omega)|omega) rfl (by first|rfl|assumption|(simp;done)|(simp;omega)|omega) (by omega) (by omega)) (fun _=>(.s .z)) ?_
  rintro ⟨p7,c8⟩ -
  dsimp only [List.append_eq,List.nil_append,List.cons_append]
  refine r_pv rfl rfl (zh rfl)<|zl<|zg<|zc<|r_pv rfl rfl (zd rfl)<|r_pv rfl rfl (zdb (z:=(((((Big.digs a).getD i 0)*((d:Nat):Int))+cy) / 1000000000)) rfl rfl (by omega) (by rw [quoN (z:=(((((Big.digs a).getD i 0)*((d:Nat):Int))+cy) / 1000000000)) (by omega) (by omega)];exact wu64 (by omega)))<|r_pv rfl rfl (zh rfl)<|zl<|zN<|zg<|zc<|r_pv rfl rfl (zd rfl)<|r_pv rfl rfl (zM (z:=(((i+1):Nat):Int)) rfl rfl (w64 (by omega)))<|r_pv rfl rfl (zh rfl)<|zl<|zva ((i+1),p7,c8,os++[((Big.digs a).getD i 0*(d:Int)+cy)%1000000000],((Big.digs a).getD i 0*(d:Int)+cy) / 1000000000) (show Big.ScI (Big.digs a) (d:Int) (i+1) (os++[((Big.digs a).getD i 0*(d:Int)+cy)%1000000000]) (((Big.digs a).getD i 0*(d:Int)+cy) / 1000000000) from by exact hI.step (Big.digs_ok a) (by omega) (by omega)) (by show (Big.digs a).length - (i+1)<(Big.digs a).length - i;omega) ((.e rfl (by first|rfl|(congr 1;omega)|simp_all) (.e rfl (by simp) (.of rfl))):SubM _ _) (ho:=((.e (i:=1) rfl (by first|rfl|(congr 1;omega)|simp_all) .n):PickO _ _ _)) ((.c (j:=2) rfl .n):SelR _ _ _)
 ·
  obtain ⟨hok2,hfin⟩:=hI.fin (by omega)
  refine zna<|zp<|zp<|zH<|zg<|zk<|zc<|r_pv rfl rfl (zd rfl)<|r_pv rfl rfl (zd rfl)<|r_pv rfl rfl (zL (z:=cy) rfl (by rw [Tryz.underlying130];rfl) Tryz.underlying131 (wu32 (by omega)))<|zLa rfl rfl (zda (enc:=fun z:Int=>[.int .u32 z]) (ok:=InK .u32) (h1:=fun _=>rfl) (h2:=fun _=>rfl) (k:=1) Tryz.underlying40 inf131 rfl (by decide) (by decide) (by decide) (.c (x:=cy) rfl rfl (fun _ _=>by exact zI.2 (by omega)) .n)) (fun b9 _=> ?_)
  refine zsa 0 rfl .z<|zZa 1 rfl rfl rfl (zNa 0 rfl Tryz.underlying40 inf131 (by decide) rfl rfl (by first|rfl|assumption|(simp;done)|(simp;omega)|omega) rfl (by first|rfl|assumption|(simp;done)|(simp;omega)|omega) (by omega) (by omega)) (fun _=>(.s .z)) ?_
  rintro ⟨p10,c11⟩ -
  dsimp only [List.append_eq,List.nil_append,List.cons_append]
  refine zsa 1 rfl (.s .z)<|zJ rfl rfl (.c rfl (.c rfl .n)) ce91 (zRa (s:=false) (p:=p10) (n:=os.length+1) (cap:=c11) (l:=(os++([cy]))) (hn:=by first|rfl|omega|(simp;done)|(simp;omega)) (ho:=by exact hok2) (hln:=by first|rfl|omega|(simp;done)|(simp;omega))) (.c (j:=0) rfl .n) ?_
  rintro ⟨p212,c213⟩ -
  dsimp only [List.append_eq,List.nil_append,List.cons_append]
  refine r_pv rfl rfl (zIa Tryz.underlying42 rfl ty40 rfl rfl)<|r_pv rfl rfl (zh rfl)<|zl<|zg<|zT ?_
  have hz:(Big.sg false (Big.valL (os++[cy]))).natAbs=a*d:=by rw [hfin];exact Int.natAbs_natCast _
  exact zO Tryz.results114 (p212,c213) trivial (zG rfl) (by rw [hz]) (ho:=(.n:PickO _ _ _)) ((.e (j:=0) rfl (by rw [hz]) .n):SelR _ _ _)
theorem zPd {a:Nat} {d:Nat} {p0:Option Addr} {cap:Nat} (hb:(Big.digs a).length≤1099511627776) (hd:d<1000000000):Con Tryz.prog 115 [.slice p0 ((Big.digs a).length) cap,.int .u32 ((d:Nat):Int)] [] [slF (rI .u32) p0 cap (Big.digs a)] (Y:=(Option Addr)×Nat) (fun y=>True) (fun y=> .slice (y.1) ((Big.digs (a*1000000000+d)).length) (y.2)) (fun y=>[]) (fun y=>[slF (rI .u32) (y.1) (y.2) (Big.digs (a*1000000000+d))]):=by
 refine zA Tryz.func115 rfl rfl rfl (fun c=> ?_)
 show RunC _ _ _ _ _ [(0,.slice p0 ((Big.digs a).length) cap),(1,.int .u32 ((d:Nat):Int))] [] [slF (rI .u32) p0 cap (Big.digs a)]
 refine zra 0 rfl (fun hL0=> ?_)
 have hok2:Big.okL ([((d:Nat):Int)]++Big.digs a):=Big.okL_cons.2 ⟨by omega,Big.digs_ok a⟩
 have hz:(Big.sg false (Big.valL (((d:Nat):Int) :: Big.digs a))).natAbs=a*1000000000+d:=by rw [Big.sg_abs (Big.valL_nonneg (l:=((d:Nat):Int) :: Big.digs a) hok2)];simp only [Big.valL,Big.valL_digs];omega
 refine zk<|zc<|r_pv rfl rfl (zh rfl)<|zl<|zg<|zk<|zc<|r_pv rfl rfl (zd rfl)<|zLa rfl rfl (zda (enc:=fun z:Int=>[.int .u32 z]) (ok:=InK .u32) (h1:=fun _=>rfl) (h2:=fun _=>rfl) (k:=1) Tryz.underlying40 inf131 rfl (by decide) (by decide) (by decide) (.c (x:=((d:Nat):Int)) rfl rfl (fun _ _=>by exact zI.2 (by omega)) .n)) (fun b1 _=> ?_)
 refine r_pv rfl rfl (zd rfl)<|zZa 0 rfl rfl rfl (zNa 0 rfl Tryz.underlying40 inf131 (by decide) rfl rfl (by first|rfl|assumption|(simp;done)|(simp;omega)|omega) rfl (by first|rfl|assumption|(simp;done)|(simp;omega)|omega) (by omega) (by omega)) (fun _=> .z) ?_
 rintro ⟨p2,c3⟩ -
 dsimp only [List.append_eq,List.nil_append,List.cons_append]
 refine zsa 0 rfl .z<|zJ rfl rfl (.c rfl (.c rfl .n)) ce91 (zRa (s:=false) (p:=p2) (n:=1+((Big.digs a).length)) (cap:=c3) (l:=(([((d:Nat):Int)])++(Big.digs a))) (hn:=by first|rfl|omega|(simp;done)|(simp;omega)) (ho:=by exact hok2) (hln:=by first|rfl|omega|(simp;done)|(simp;omega))) (.c (j:=0) rfl .n) ?_
 rintro ⟨p24,c25⟩ -
 dsimp only [List.append_eq,List.nil_append,List.cons_append]
 refine r_pv rfl rfl (zIa Tryz.underlying42 rfl ty40 rfl rfl)<|r_pv rfl rfl (zh rfl)<|zl<|zg<|zT ?_
 exact zO Tryz.results115 (p24,c25) trivial (zG rfl) (by rw [hz]) (ho:=(.n:PickO _ _ _)) ((.e (j:=0) rfl (by rw [hz]) .n):SelR _ _ _)
theorem zkd {a:Nat} {mm:Nat} {p:Option Addr} {cap:Nat} (hb:(Big.digs a).length≤1099511627776) (hm0:0<mm) (hm1:mm≤1000000000):Con Tryz.prog 113 [.slice p ((Big.digs a).length) cap,.int .u64 ((mm:Nat):Int)] [] [slF (rI .u32) p cap (Big.digs a)] (Y:=(Option Addr)×Nat) (fun y=>True) (fun y=> .tuple #[.slice (y.1) ((Big.digs (a / mm)).length) (y.2),.int .u64 (((a%mm):Nat):Int)]) (fun y=>[]) (fun y=>[slF (rI .u32) (y.1) (y.2) (Big.digs (a / mm))]):=by
 refine zA Tryz.func113 rfl rfl rfl (fun c=> ?_)
 show RunC _ _ _ _ _ [(0,.slice p ((Big.digs a).length) cap),(1,.int .u64 ((mm:Nat):Int))] [] [slF (rI .u32) p cap (Big.digs a)]
 refine zra 0 rfl (fun hL0=> ?_)
 refine zk<|zc<|r_pv rfl rfl (zh rfl)<|r_pv rfl rfl (zh rfl)<|zl<|zg<|zk<|zc<|r_pv rfl rfl (zd rfl)<|r_pv rfl rfl (zga Tryz.underlying40 rfl)<|zLa rfl rfl (zGb (r:=rI .u32) (k:=(Big.digs a).length) (x0:=0) (γ0:=()) Tryz.underlying40 inf131 rfl rfl rfl rfl (by omega) (by omega) rfl (fun _ _=>by exact zI.2 (by decide)) (by decide)) (fun b1 _=> ?_)
 refine r_pv rfl rfl (zh rfl)<|zl<|zg<|zk<|zc<|r_pv rfl rfl (zh rfl)<|zl<|zg<|zk<|zk<|zc<|r_pv rfl rfl (zd rfl)<|r_pv rfl rfl (zga Tryz.underlying40 rfl)<|r_pv rfl rfl (zma (z:=((((Big.digs a).length:Nat):Int) - 1)) rfl rfl (w64 (by omega)))<|r_pv rfl rfl (zh rfl)<|zl<|zg<|zv<|zAa (X:=Nat×(List Int)×(List Int)×Int) (fun x:Nat×(List Int)×(List Int)×Int=>x.2.1=List.replicate x.1 0++x.2.2.1∧Big.ShI (Big.digs a) (mm:Int) x.1 x.2.2.1 x.2.2.2) (fun x=>[(7,.int .u64 (x.2.2.2)),(8,.int .i64 (((x.1:Nat):Int) - 1)),(6,.slice (some ⟨b1,0,none⟩) ((Big.digs a).length) ((Big.digs a).length)),(5,.int .u64 0),(4,.slice none 0 0),(0,.slice p ((Big.digs a).length) cap),(1,.int .u64 ((mm:Nat):Int))]) (fun x=>[rowA 131 (rI .u32) (some ⟨b1,0,none⟩) ((Big.digs a).length) (x.2.1)]) (fun x=>[slF (rI .u32) p cap (Big.digs a)]) (fun x:Nat×(List Int)×(List Int)×Int=>x.1) ((Big.digs a).length,(List.replicate (Big.digs a).length 0),([]:List Int),(0:Int)) (show (List.replicate (Big.digs a).length 0)=List.replicate ((Big.digs a).length) 0++([]:List Int)∧Big.ShI (Big.digs a) (mm:Int) ((Big.digs a).length) ([]:List Int) (0:Int) from by exact ⟨by simp,Big.ShI.start (by omega)⟩) ((.e rfl (by first|rfl|(congr 1;omega)|simp_all) (.e rfl (by first|rfl|(congr 1;omega)|simp_all) (.of rfl))):SubM _ _) (ho:=((.e (i:=0) rfl (by first|rfl|(congr 1;omega)|simp_all) .n):PickO _ _ _)) ((.c (j:=0) rfl .n):SelR _ _ _) ?_
 rintro ⟨jj,os,qs,z⟩ hI
 replace hI:os=List.replicate jj 0++qs∧Big.ShI (Big.digs a) (mm:Int) jj qs z:=hI
 try dsimp only
 obtain ⟨hos,hS⟩:=hI
 have hz0:=hS.r0
 have hz1:=hS.r1
 have hkle:=hS.le
 refine zk<|zk<|zc<|r_pv rfl rfl (zd rfl)<|r_pv rfl rfl (zqb rfl rfl)<|zl<|zg<|zV rfl (fun h2=> ?_) (fun h2=> ?_)
 ·
  obtain ⟨k,rfl⟩:∃k,jj=k+1:=⟨jj - 1,by omega⟩
  have e3:(((((k+1):Nat):Int) - 1):Int)=((k:Nat):Int):=by omega
  rw [e3]
  have hosl:os.length=(Big.digs a).length:=by rw [hos,List.length_append,List.length_replicate,hS.len];omega
  have hg:=Big.okL_getD (Big.digs_ok a) k
  have hdg:=Big.sh_digit hz0 hz1 hg
  have hrm:=Int.emod_lt_of_pos (z*1000000000+(Big.digs a).getD k 0) (show 0<(mm:Int) by omega)
  have hrm0:=Int.emod_nonneg (z*1000000000+(Big.digs a).getD k 0) (show (mm:Int)≠0 by omega)
  refine zE<|zg<|zk<|zv<|zk<|zc<|r_pv rfl rfl (zd rfl)<|r_pv rfl rfl (zTa (z:=(z*1000000000)) rfl rfl (wu64 (by omega)))<|r_pv rfl rfl (zd rfl)<|r_pv rfl rfl (zd rfl)<|zQ (x0:=((Big.digs a).getD k 0)) 0 k rfl Tryz.underlying40 sz131 rfl rfl rfl (by first|rfl|assumption|(simp;done)|(simp;omega)|omega) rfl rfl (gD (d:=0) (by omega)) (fun b4 o5 hok6=> ?_)
  replace hok6:=zI.1 hok6
  refine r_u rfl rfl (zC (j:=0) 0 ty131 rfl rfl rfl rfl)<|r_pv rfl rfl (zL (z:=((Big.digs a).getD k 0)) rfl (by rw [Tryz.underlying131];rfl) Tryz.underlying130 (wu64 (by omega)))<|r_pv rfl rfl (zM (z:=((z*1000000000)+((Big.digs a).getD k 0))) rfl rfl (wu64 (by omega)))<|r_pv rfl rfl (zh rfl)<|zl<|zg<|zk<|zc<|r_pv rfl rfl (zd rfl)<|r_pv rfl rfl (zd rfl)<|r_pv rfl rfl (zd rfl)<|r_pv rfl rfl (zd rfl)<|r_pv rfl rfl (zdb (z:=(((z*1000000000)+((Big.digs a).getD k 0)) / ((mm:Nat):Int))) rfl rfl (by omega) (by rw [quoN (z:=(((z*1000000000)+((Big.digs a).getD k 0)) / ((mm:Nat):Int))) (by omega) (by omega)];exact wu64 (by omega)))<|r_pv rfl rfl (zL (z:=(((z*1000000000)+((Big.digs a).getD k 0)) / ((mm:Nat):Int))) rfl (by rw [Tryz.underlying130];rfl) Tryz.underlying131 (wu32 (by omega)))<|r_pv rfl rfl (zqa (j:=k) Tryz.underlying40 sz131 rfl rfl rfl (by omega))<|zZa 0 rfl rfl rfl (zja (j:=k) (x0:=(((z*1000000000)+((Big.digs a).getD k 0)) / ((mm:Nat):Int))) (γ0:=()) rfl rfl (by first|omega|(rw [List.length_map];omega)|(simp only [List.length_set];omega)|(simp;done)|(simp;omega)) rfl rfl sz131 (fun _ _=>by exact zI.2 (by omega))) (fun _=> .z) (fun _ _=> ?_)
  refine zl<|zg<|zc<|r_pv rfl rfl (zd rfl)<|r_pv rfl rfl (zd rfl)<|r_pv rfl rfl (zUa (z:=(((z*1000000000)+((Big.digs a).getD k 0))%((mm:Nat):Int))) rfl rfl (by omega) (remN (by omega) (by omega)))<|r_pv rfl rfl (zh rfl)<|zl<|zN<|zg<|zc<|r_pv rfl rfl (zd rfl)<|r_pv rfl rfl (zma (z:=(((k:Nat):Int) - 1)) rfl rfl (w64 (by omega)))<|r_pv rfl rfl (zh rfl)<|zl<|zva (k,(os.set k (((z*1000000000)+((Big.digs a).getD k 0)) / ((mm:Nat):Int))),((z*1000000000+(Big.digs a).getD k 0) / (mm:Int) :: qs),((z*1000000000+(Big.digs a).getD k 0)%(mm:Int))) (show (os.set k (((z*1000000000)+((Big.digs a).getD k 0)) / ((mm:Nat):Int)))=List.replicate k 0++((z*1000000000+(Big.digs a).getD k 0) / (mm:Int) :: qs)∧Big.ShI (Big.digs a) (mm:Int) k ((z*1000000000+(Big.digs a).getD k 0) / (mm:Int) :: qs) ((z*1000000000+(Big.digs a).getD k 0)%(mm:Int)) from by exact ⟨by rw [hos];exact Big.pad_set _,hS.step (Big.digs_ok a)⟩) (by show k<k+1;omega) ((.e rfl (by first|rfl|(congr 1;omega)|simp_all) (.of rfl)):SubM _ _) (ho:=((.c (i:=0) rfl .n):PickO _ _ _)) ((.c (j:=1) rfl .n):SelR _ _ _)
 ·
  have hj0:jj=0:=by omega
  have hS0:Big.ShI (Big.digs a) (mm:Int) 0 qs z:=hj0 ▸ hS
  obtain ⟨hf1,hf2⟩:=hS0.fin
  have hoq:os=qs:=by rw [hos,hj0];rfl
  have hok2:Big.okL os:=by rw [hoq];exact hS.ok
  have hosl:os.length=(Big.digs a).length:=by rw [hoq,hS0.len];omega
  have hz9:(Big.sg false (Big.valL os)).natAbs=a / mm:=by rw [hoq,Big.sg_abs (Big.valL_nonneg hS.ok),←Big.valL_trim,hf1,Big.valL_digs];exact Int.toNat_natCast _
  refine zna<|zp<|zp<|zH<|zg<|zk<|zc<|r_pv rfl rfl (zd rfl)<|zsa 0 rfl .z<|zJ rfl rfl (.c rfl (.c rfl .n)) ce91 (zRa (s:=false) (p:=some ⟨b1,0,none⟩) (n:=(Big.digs a).length) (cap:=(Big.digs a).length) (l:=os) (hn:=by first|rfl|omega|(simp;done)|(simp;omega)) (ho:=by exact hok2) (hln:=by first|rfl|omega|(simp;done)|(simp;omega))) (.c (j:=0) rfl .n) ?_
  rintro ⟨p27,c28⟩ -
  dsimp only [List.append_eq,List.nil_append,List.cons_append]
  refine r_pv rfl rfl (zIa Tryz.underlying42 rfl ty40 rfl rfl)<|r_pv rfl rfl (zd rfl)<|r_pv rfl rfl (zh rfl)<|r_pv rfl rfl (zh rfl)<|zl<|zg<|zT ?_
  exact zDa Tryz.results113 (p27,c28) trivial (zG rfl) (zG rfl) (by rw [hz9,hf2]) (ho:=(.n:PickO _ _ _)) ((.e (j:=0) rfl (by rw [hz9]) .n):SelR _ _ _)
theorem zQd {a:Nat} {p:Option Addr} {cap:Nat} (hb:(Big.digs a).length≤2):Con Tryz.prog 100 [.slice p ((Big.digs a).length) cap] [] [slF (rI .u32) p cap (Big.digs a)] (Y:=Unit) (fun y=>True) (fun y=> .int .u64 ((a:Nat):Int)) (fun y=>[]) (fun y=>[]):=by
 refine zA Tryz.func100 rfl rfl rfl (fun c=> ?_)
 show RunC _ _ _ _ _ [(0,.slice p ((Big.digs a).length) cap)] [] [slF (rI .u32) p cap (Big.digs a)]
 refine zra 0 rfl (fun hL0=> ?_)
 have hpv:=Big.pair_val hb
 have hg0:=Big.okL_getD (Big.digs_ok a) 0
 have hg1:=Big.okL_getD (Big.digs_ok a) 1
 refine zk<|zc<|r_pv rfl rfl (zh rfl)<|zl<|zg<|zk<|zc<|r_pv rfl rfl (zd rfl)<|zX rfl rfl (.c rfl (.c rfl .n)) ce109 (zjb (p:=p) (n:=(Big.digs a).length) (cap:=cap) (l:=Big.digs a) (i:=1) (hn:=by first|rfl|assumption|omega|(simp;done)|(simp;omega)|(simp_all;done)) (hi:=by first|rfl|assumption|omega|(simp;done)|(simp;omega)|(simp_all;done))) (.c (j:=0) rfl .n)<|r_pv rfl rfl (zTa (z:=((Big.digs a).getD 1 0*1000000000)) rfl rfl (wu64 (by omega)))<|r_pv rfl rfl (zd rfl)<|zX rfl rfl (.c rfl (.c rfl .n)) ce109 (zjb (p:=p) (n:=(Big.digs a).length) (cap:=cap) (l:=Big.digs a) (i:=0) (hn:=by first|rfl|assumption|omega|(simp;done)|(simp;omega)|(simp_all;done)) (hi:=by first|rfl|assumption|omega|(simp;done)|(simp;omega)|(simp_all;done))) (.c (j:=0) rfl .n)<|r_pv rfl rfl (zM (z:=(((Big.digs a).getD 1 0*1000000000)+(Big.digs a).getD 0 0)) rfl rfl (wu64 (by omega)))<|r_pv rfl rfl (zh rfl)<|zl<|zg<|zT ?_
 exact zO Tryz.results100 () trivial (zG rfl) (by rw [hpv]) (ho:=(.n:PickO _ _ _)) (.n:SelR _ _ _)
end Go.Proofs.YtjeahiahjgifgaaGreatDoor.Sp
namespace Go.Proofs.YtjeahiahjgifgaaGreatDoor.Sp
open Go
set_option linter.unusedVariables false
set_option maxRecDepth 100000
set_option maxHeartbeats 8000000
theorem zld {a:Nat} {b:Nat} {p1:Option Addr} {c1:Nat} {p2:Option Addr} {c2:Nat} (hb1:(Big.digs a).length≤549755813888) (hb2:(Big.digs b).length≤549755813888) (hb0:0<b):Con Tryz.prog 99 [.slice p1 ((Big.digs a).length) c1,.slice p2 ((Big.digs b).length) c2] [] [slF (rI .u32) p1 c1 (Big.digs a),slF (rI .u32) p2 c2 (Big.digs b)] (Y:=(Option Addr)×Nat×(Option Addr)×Nat) (fun y=>True) (fun y=> .tuple #[.slice (y.1) ((Big.digs (a / b)).length) (y.2.1),.slice (y.2.2.1) ((Big.digs (a%b)).length) (y.2.2.2)]) (fun y=>[]) (fun y=>[slF (rI .u32) (y.1) (y.2.1) (Big.digs (a / b)),slF (rI .u32) (y.2.2.1) (y.2.2.2) (Big.digs (a%b))]):=by
 refine zA Tryz.func99 rfl rfl rfl (fun c=> ?_)
 show RunC _ _ _ _ _ [(0,.slice p1 ((Big.digs a).length) c1),(1,.slice p2 ((Big.digs b).length) c2)] [] [slF (rI .u32) p1 c1 (Big.digs a),slF (rI .u32) p2 c2 (Big.digs b)]
 refine zra 0 rfl (fun hL0=> ?_)
 refine zra 1 rfl (fun hL1=> ?_)
 have hln0:=Big.zLe hb0
 have hob:=Big.okL_getD (Big.digs_ok b) 0
 have hob1:=Big.okL_getD (Big.digs_ok b) ((Big.digs b).length - 1)
 have hdv:=Big.ln_mono' (Nat.div_le_self a b)
 have hdm:=Nat.mod_lt a hb0
 refine zk<|zc<|r_pv rfl rfl (zh rfl)<|r_pv rfl rfl (zh rfl)<|zl<|zg<|zk<|zc<|r_pv rfl rfl (zd rfl)<|r_pv rfl rfl (zga Tryz.underlying40 rfl)<|r_pv rfl rfl (zh rfl)<|zl<|zg<|zk<|zk<|zc<|r_pv rfl rfl (zd rfl)<|r_pv rfl rfl (zMa rfl rfl)<|zl<|zg<|zV rfl (fun hl1=> ?_) (fun hl1=> ?_)
 ·
  have hbd:=Big.one_digit (by omega:(Big.digs b).length=1)
  have hbl:b<1000000000:=by omega
  have hokt:Big.okL [((a%b:Nat):Int)]:=Big.okL_cons.2 ⟨by omega,Big.okL_nil⟩
  have hz3:=Big.made_nat hokt (show Big.valL [((a%b:Nat):Int)]=((a%b:Nat):Int) by simp only [Big.valL];omega)
  refine zk<|zc<|r_pv rfl rfl (zd rfl)<|r_pv rfl rfl (zd rfl)<|zQ (x0:=((Big.digs b).getD 0 0)) 1 0 rfl Tryz.underlying40 sz131 rfl rfl rfl (by first|rfl|assumption|(simp;done)|(simp;omega)|omega) rfl rfl (gD (d:=0) (by omega)) (fun b1 o2 hok3=> ?_)
  replace hok3:=zI.1 hok3
  refine r_u rfl rfl (zC (j:=0) 0 ty131 rfl rfl rfl rfl)<|r_pv rfl rfl (zL (z:=((Big.digs b).getD 0 0)) rfl (by rw [Tryz.underlying131];rfl) Tryz.underlying130 (wu64 (by omega))) ?_
  have e4:(((Big.digs b).getD 0 0):Int)=((b:Nat):Int):=by exact hbd
  rw [e4]
  refine zJ rfl rfl (.c rfl (.c rfl .n)) ce113 (zkd (a:=a) (mm:=b) (p:=p1) (cap:=c1) (hb:=by first|rfl|assumption|omega|(simp;done)) (hm0:=by assumption) (hm1:=by first|rfl|assumption|omega|(simp;done))) (.c (j:=1) rfl .n) ?_
  rintro ⟨p25,c26⟩ -
  dsimp only [List.append_eq,List.nil_append,List.cons_append]
  refine r_pv rfl rfl (zd rfl)<|r_pv rfl rfl (zy rfl rfl)<|r_pv rfl rfl (zy rfl rfl)<|r_pv rfl rfl (zh rfl)<|r_pv rfl rfl (zh rfl)<|zl<|zg<|zk<|zc<|r_pv rfl rfl (zd rfl)<|r_pv rfl rfl (zd rfl)<|r_pv rfl rfl (zL (z:=(((a%b):Nat):Int)) rfl (by rw [Tryz.underlying130];rfl) Tryz.underlying131 (wu32 (by omega)))<|zLa rfl rfl (zda (enc:=fun z:Int=>[.int .u32 z]) (ok:=InK .u32) (h1:=fun _=>rfl) (h2:=fun _=>rfl) (k:=1) Tryz.underlying40 inf131 rfl (by decide) (by decide) (by decide) (.c (x:=(((a%b):Nat):Int)) rfl rfl (fun _ _=>by exact zI.2 (by omega)) .n)) (fun b7 _=> ?_)
  refine zsa 0 rfl .z<|zJ rfl rfl (.c rfl (.c rfl .n)) ce91 (zRa (s:=false) (p:=some ⟨b7,0,none⟩) (n:=1) (cap:=1) (l:=[(((a%b):Nat):Int)]) (hn:=by first|rfl|omega|(simp;done)|(simp;omega)) (ho:=by exact hokt) (hln:=by first|rfl|omega|(simp;done)|(simp;omega))) (.c (j:=0) rfl .n) ?_
  rintro ⟨p28,c29⟩ -
  dsimp only [List.append_eq,List.nil_append,List.cons_append]
  refine r_pv rfl rfl (zIa Tryz.underlying42 rfl ty40 rfl rfl)<|r_pv rfl rfl (zh rfl)<|r_pv rfl rfl (zh rfl)<|zl<|zg<|zT<|zx ?_
  exact zDa Tryz.results99 (p25,c26,p28,c29) trivial (zG rfl) (zG rfl) (by rw [hz3]) (ho:=(.n:PickO _ _ _)) ((.c (j:=2) rfl (.e (j:=0) rfl (by rw [hz3]) .n)):SelR _ _ _)
 ·
  refine zE<|zg<|zk<|zk<|zc<|r_pv rfl rfl (zd rfl)<|r_pv rfl rfl (zd rfl)<|zX rfl rfl (.c rfl (.c rfl .n)) ce93 (zWc (a:=a) (b:=b) (p1:=p1) (c1:=c1) (p2:=p2) (c2:=c2)) (.c (j:=0) rfl (.c (j:=1) rfl .n))<|r_pv rfl rfl (zU rfl rfl)<|zl<|zg<|zV rfl (fun hlt=> ?_) (fun hlt=> ?_)
  ·
   have hab9:¬(b:Int)≤a:=fun h=>by have:=Big.cmp_ge.2 h;omega
   have hab:a<b:=by omega
   refine zk<|zc<|zLa rfl rfl (zCa (rI .u32) Tryz.underlying40 inf131) (fun b10 _=> ?_)
   refine r_pv rfl rfl (zd rfl)<|r_pv rfl rfl (zh rfl)<|r_pv rfl rfl (zh rfl)<|zl<|zg<|zT<|zx ?_
   have hz1:a / b=0:=Nat.div_eq_of_lt hab
   have hz2:a%b=a:=Nat.mod_eq_of_lt hab
   refine zUb 0 rfl .z ?_
   exact zDa Tryz.results99 (some ⟨b10,0,none⟩,0,p1,c1) trivial (zG rfl) (zG rfl) (by rw [hz1,hz2];rfl) (ho:=(.n:PickO _ _ _)) ((.e (j:=0) rfl (by rw [hz1];rfl) (.e (j:=1) rfl (by rw [hz2]) .n)):SelR _ _ _)
  ·
   have hab:b≤a:=by have h9:=Big.cmp_ge.1 (by omega:0≤Big.cmp (a:Int) (b:Int));omega
   have hab2:=Big.ln_mono' hab
   have hq1:0≤1000000000 / ((Big.digs b).getD ((Big.digs b).length - 1) 0+1):=Int.ediv_nonneg (by omega) (by omega)
   have hdt:=Big.digs_top (b:=b) (n:=(Big.digs b).length - 1) (by omega)
   have hq2:1000000000 / ((Big.digs b).getD ((Big.digs b).length - 1) 0+1)≤500000000:=Int.ediv_le_of_le_mul (by omega) (by omega)
   refine zE<|zg<|zk<|zc<|r_pv rfl rfl (zd rfl)<|r_pv rfl rfl (zd rfl)<|r_pv rfl rfl (zma (z:=((((Big.digs b).length - 1):Nat):Int)) rfl rfl (w64 (by omega)))<|zQ (x0:=((Big.digs b).getD ((Big.digs b).length - 1) 0)) 1 ((Big.digs b).length - 1) rfl Tryz.underlying40 sz131 rfl rfl rfl (by first|rfl|assumption|(simp;done)|(simp;omega)|omega) rfl rfl (gD (d:=0) (by omega)) (fun b11 o12 hok13=> ?_)
   replace hok13:=zI.1 hok13
   refine r_u rfl rfl (zC (j:=0) 0 ty131 rfl rfl rfl rfl)<|r_pv rfl rfl (zL (z:=((Big.digs b).getD ((Big.digs b).length - 1) 0)) rfl (by rw [Tryz.underlying131];rfl) Tryz.underlying130 (wu64 (by omega)))<|r_pv rfl rfl (zM (z:=(((Big.digs b).getD ((Big.digs b).length - 1) 0)+1)) rfl rfl (wu64 (by omega)))<|r_pv rfl rfl (zdb (z:=(1000000000 / (((Big.digs b).getD ((Big.digs b).length - 1) 0)+1))) rfl rfl (by omega) (by rw [quoN (z:=(1000000000 / (((Big.digs b).getD ((Big.digs b).length - 1) 0)+1))) (by omega) (by omega)];exact wu64 (by omega)))<|r_pv rfl rfl (zh rfl)<|zl<|zg<|zk ?_
   obtain ⟨s,hs⟩:∃s:Nat,s=(1000000000 / ((Big.digs b).getD ((Big.digs b).length - 1) 0+1)).toNat:=⟨_,rfl⟩
   obtain ⟨hs1,hs2,hs3⟩:=Big.scale_len (n:=(Big.digs b).length - 1) (by omega) hs
   have hsd:=Big.digs_one hs1 (by omega:s<1000000000)
   have hsl:(Big.digs s).length=1:=by rw [hsd];rfl
   have e14:((1000000000 / (((Big.digs b).getD ((Big.digs b).length - 1) 0)+1)):Int)=((s:Nat):Int):=by omega
   rw [e14]
   refine zc<|r_pv rfl rfl (zd rfl)<|r_pv rfl rfl (zd rfl)<|zJ rfl rfl (.c rfl (.c rfl .n)) ce114 (zgc (a:=a) (d:=s) (p0:=p1) (cap:=c1) (hb:=by first|rfl|assumption|omega|(simp;done)) (hd:=by first|rfl|assumption|omega|(simp;done))) (.c (j:=1) rfl .n) ?_
   rintro ⟨p315,c316⟩ -
   dsimp only [List.append_eq,List.nil_append,List.cons_append]
   refine r_pv rfl rfl (zd rfl)<|r_pv rfl rfl (zd rfl)<|zJ rfl rfl (.c rfl (.c rfl .n)) ce114 (zgc (a:=b) (d:=s) (p0:=p2) (cap:=c2) (hb:=by first|rfl|assumption|omega|(simp;done)) (hd:=by first|rfl|assumption|omega|(simp;done))) (.c (j:=3) rfl .n) ?_
   rintro ⟨p317,c318⟩ -
   dsimp only [List.append_eq,List.nil_append,List.cons_append]
   refine r_pv rfl rfl (zh rfl)<|r_pv rfl rfl (zh rfl)<|zl<|zg<|zk ?_
   obtain ⟨A,hA⟩:∃z,z=a*s:=⟨_,rfl⟩
   rw [← hA]
   obtain ⟨V,hV⟩:∃z,z=b*s:=⟨_,rfl⟩
   rw [← hV]
   refine zra 1 rfl (fun hcA=> ?_)
   have hAl:(Big.digs a).length≤(Big.digs A).length:=by rw [hA];exact Big.len_mul_ge hs1
   have hAl2:(Big.digs A).length≤(Big.digs a).length+1:=by have h8:=Big.len_mul_le a s;rw [hsl] at h8;rw [hA];exact h8
   obtain ⟨m,hm⟩:∃z,(Big.digs V).length=z+1:=⟨(Big.digs b).length - 1,by rw [hV,hs3]⟩
   have hmb:(Big.digs b).length=m+1:=by rw [hV,hs3] at hm;omega
   have e19:((((Big.digs b).length:Nat):Int):Int)=(((m+1):Nat):Int):=by omega
   rw [e19]
   refine zc<|r_pv rfl rfl (zd rfl)<|r_pv rfl rfl (zd rfl)<|r_pv rfl rfl (zga Tryz.underlying40 rfl)<|r_pv rfl rfl (zd rfl)<|r_pv rfl rfl (zma (z:=((((Big.digs A).length - (m+1)):Nat):Int)) rfl rfl (w64 (by omega)))<|r_pv rfl rfl (zM (z:=((((Big.digs A).length - m):Nat):Int)) rfl rfl (w64 (by omega)))<|r_pv rfl rfl (zfe (lo:=((Big.digs A).length - m)) (hi:=(Big.digs A).length) Tryz.underlying40 sz131 rfl (.s rfl) .n (.inr ⟨_,rfl⟩) (.inl ⟨rfl,rfl⟩) (by omega) (by omega))<|zBc (zdf 1 rfl ((Big.digs A).length - m) ((Big.digs A).length) (by omega) (by omega)) (fun _ _=> ?_)
   refine zJ rfl rfl (.c rfl (.c rfl .n)) ce91 (zRa (s:=false) (p:=(newP p315 c316 ((Big.digs A).length - m) 1)) (n:=((Big.digs A).length) - ((Big.digs A).length - m)) (cap:=(c316 - ((Big.digs A).length - m))) (l:=(((Big.digs A).take ((Big.digs A).length)).drop ((Big.digs A).length - m))) (hn:=by first|rfl|omega|(simp;done)|(simp;omega)) (ho:=by exact Big.okL_drop (Big.okL_take (Big.digs_ok _) _) _) (hln:=by first|rfl|omega|(simp;done)|(simp;omega))) (.c (j:=0) rfl .n) ?_
   rintro ⟨p220,c221⟩ -
   dsimp only [List.append_eq,List.nil_append,List.cons_append]
   refine r_pv rfl rfl (zIa Tryz.underlying42 rfl ty40 rfl rfl)<|r_pv rfl rfl (zh rfl)<|zl<|zg<|zk ?_
   obtain ⟨R0,hR0⟩:∃z,z=(Big.sg false (Big.valL (((Big.digs A).take ((Big.digs A).length)).drop ((Big.digs A).length - m)))).natAbs:=⟨_,rfl⟩
   rw [← hR0]
   have hpt:Big.PtI A V ((Big.digs A).length - m) [] R0:=Big.PtI.start hm (by omega) (by rw [hR0,List.take_length];have:=Big.valL_nonneg (Big.okL_drop (Big.digs_ok A) ((Big.digs A).length - m));simp only [Big.sg];omega)
   refine zc<|r_pv rfl rfl (zd rfl)<|r_pv rfl rfl (zga Tryz.underlying40 rfl)<|r_pv rfl rfl (zd rfl)<|r_pv rfl rfl (zma (z:=((((Big.digs A).length - (m+1)):Nat):Int)) rfl rfl (w64 (by omega)))<|r_pv rfl rfl (zM (z:=((((Big.digs A).length - m):Nat):Int)) rfl rfl (w64 (by omega)))<|zLa rfl rfl (zGb (r:=rI .u32) (k:=((Big.digs A).length - m)) (x0:=0) (γ0:=()) Tryz.underlying40 inf131 rfl rfl rfl rfl (by omega) (by omega) rfl (fun _ _=>by exact zI.2 (by decide)) (by decide)) (fun b22 _=> ?_)
   refine r_pv rfl rfl (zh rfl)<|zl<|zg<|zk<|zk<|zc<|r_pv rfl rfl (zd rfl)<|r_pv rfl rfl (zga Tryz.underlying40 rfl)<|r_pv rfl rfl (zd rfl)<|r_pv rfl rfl (zma (z:=((((Big.digs A).length:Nat):Int) - (((m+1):Nat):Int))) rfl rfl (w64 (by omega)))<|r_pv rfl rfl (zh rfl)<|zl<|zg<|zv<|zAa (X:=Nat×(List Int)×Nat×(Option Addr)×Nat) (fun x:Nat×(List Int)×Nat×(Option Addr)×Nat=>Big.PtI A V x.1 x.2.1 x.2.2.1∧x.1+x.2.1.length=(Big.digs A).length - m) (fun x=>[(10,.slice (x.2.2.2.1) ((Big.digs (x.2.2.1)).length) (x.2.2.2.2)),(12,.int .i64 (((x.1:Nat):Int) - 1)),(11,.slice (some ⟨b22,0,none⟩) ((Big.digs A).length - m) ((Big.digs A).length - m)),(1,.slice p317 ((Big.digs V).length) c318),(0,.slice p315 ((Big.digs A).length) c316),(9,.int .u64 ((s:Nat):Int)),(6,.int .i64 (((m+1):Nat):Int)),(5,.slice none 0 0),(4,.slice none 0 0)]) (fun x=>[rowA 131 (rI .u32) (some ⟨b22,0,none⟩) ((Big.digs A).length - m) (List.replicate x.1 0++x.2.1)]) (fun x=>[slF (rI .u32) (x.2.2.2.1) (x.2.2.2.2) (Big.digs (x.2.2.1)),slF (rI .u32) p220 c221 (Big.digs R0),slF (rI .u32) (newP p315 c316 ((Big.digs A).length - m) 1) (c316 - ((Big.digs A).length - m)) (((Big.digs A).take ((Big.digs A).length)).drop ((Big.digs A).length - m)),slF (rI .u32) p317 c318 (Big.digs V),slF (rI .u32) p315 c316 (Big.digs A),atF b11 o12 [.int .u32 ((Big.digs b).getD ((Big.digs b).length - 1) 0)],slF (rI .u32) p1 c1 (Big.digs a),slF (rI .u32) p2 c2 (Big.digs b)]) (fun x:Nat×(List Int)×Nat×(Option Addr)×Nat=>x.1) (((Big.digs A).length - m),([]:List Int),R0,p220,c221) (show Big.PtI A V ((Big.digs A).length - m) ([]:List Int) R0∧((Big.digs A).length - m)+([]:List Int).length=(Big.digs A).length - m from by exact ⟨hpt,rfl⟩) ((.e rfl (by first|rfl|(congr 1;omega)|simp_all) (.e rfl (congrArg (Value.int .i64) (by omega)) (.of rfl))):SubM _ _) (ho:=((.e (i:=0) rfl (by simp) .n):PickO _ _ _)) ((.e (j:=0) rfl (by first|rfl|simp_all) (.of [0,1,2,3,4,5,6] rfl)):SelR _ _ _) ?_
   rintro ⟨jj,qs,R,pr,cr⟩ hI
   replace hI:Big.PtI A V jj qs R∧jj+qs.length=(Big.digs A).length - m:=hI
   try dsimp only
   obtain ⟨hP,hql⟩:=hI
   refine zk<|zk<|zc<|r_pv rfl rfl (zd rfl)<|r_pv rfl rfl (zqb rfl rfl)<|zl<|zg<|zV rfl (fun hj=> ?_) (fun hj=> ?_)
   ·
    obtain ⟨j,rfl⟩:∃j,jj=j+1:=⟨jj - 1,by omega⟩
    have e23:(((((j+1):Nat):Int) - 1):Int)=((j:Nat):Int):=by omega
    rw [e23]
    have hjle:=hP.le
    have hRV:=hP.lt
    have hdn:=Big.okL_getD (Big.digs_ok A) j
    obtain ⟨d,hd⟩:∃d:Nat,(Big.digs A).getD j 0=(d:Int):=⟨_,(Int.toNat_of_nonneg hdn.1).symm⟩
    have hd9:d<1000000000:=by omega
    have hWlt9:=Big.pt_lim hRV hd9
    have hRl:=Big.ln_mono' (Nat.le_of_lt hRV)
    refine zE<|zg<|zk<|zv<|zk<|zc<|r_pv rfl rfl (zd rfl)<|r_pv rfl rfl (zd rfl)<|r_pv rfl rfl (zd rfl)<|zQ (x0:=((Big.digs A).getD j 0)) 4 j rfl Tryz.underlying40 sz131 rfl rfl rfl (by first|rfl|assumption|(simp;done)|(simp;omega)|omega) rfl rfl (gD (d:=0) (by omega)) (fun b24 o25 hok26=> ?_)
    replace hok26:=zI.1 hok26
    refine r_u rfl rfl (zC (j:=0) 0 ty131 rfl rfl rfl rfl) ?_
    have e27:(((Big.digs A).getD j 0):Int)=((d:Nat):Int):=by exact hd
    rw [e27]
    refine zJ rfl rfl (.c rfl (.c rfl .n)) ce115 (zPd (a:=R) (d:=d) (p0:=pr) (cap:=cr) (hb:=by first|rfl|assumption|omega|(simp;done)) (hd:=by first|rfl|assumption|omega|(simp;done))) (.c (j:=1) rfl .n) ?_
    rintro ⟨p328,c329⟩ -
    dsimp only [List.append_eq,List.nil_append,List.cons_append]
    refine r_pv rfl rfl (zh rfl)<|zl<|zg<|zk ?_
    obtain ⟨W,hW⟩:∃z,z=(R*1000000000+d):=⟨_,rfl⟩
    rw [← hW]
    have hWlt:W<V*1000000000:=by rw [hW];exact hWlt9
    have hWl:=Big.pt_wlen hWlt hm
    have hw1:=Big.okL_getD (Big.digs_ok W) (m+1)
    have hw0:=Big.okL_getD (Big.digs_ok W) m
    have hv0:=Big.okL_getD (Big.digs_ok V) m
    have hg0:0≤(((Big.digs W).getD (m+1) 0*1000000000+(Big.digs W).getD m 0) / ((Big.digs V).getD m 0+1)):=Int.ediv_nonneg (by omega) (by omega)
    have hg1:(((Big.digs W).getD (m+1) 0*1000000000+(Big.digs W).getD m 0) / ((Big.digs V).getD m 0+1))≤1000000000000000000:=Int.le_trans (Int.ediv_le_self _ (by omega)) (by omega)
    refine zS (OW:=[]) (O:=[rowA 131 (rI .u32) (some ⟨b22,0,none⟩) ((Big.digs A).length - m) (List.replicate (j+1) 0++qs)]) 100000 mixed (.then (.block (.then (.then (.block (.then .ret)))))) (by kernel_rfl)<|d_pv 0 rfl rfl (by kernel_rfl) (by kernel_rfl) rfl rfl (zd rfl)<|d_pv 1 rfl rfl (by kernel_rfl) (by kernel_rfl) rfl rfl (zd rfl)<|d_pv 4 rfl rfl (by kernel_rfl) (by kernel_rfl) rfl rfl (zd rfl)<|d_pv 5 rfl rfl (by kernel_rfl) (by kernel_rfl) rfl rfl (zd rfl)<|d_pv 6 rfl rfl (by kernel_rfl) (by kernel_rfl) rfl rfl (zma (z:=((m:Nat):Int)) rfl rfl (w64 (by omega)))<|d_pv 9 rfl rfl (by kernel_rfl) (by kernel_rfl) rfl rfl (zd rfl)<|d_pv 10 rfl rfl (by kernel_rfl) (by kernel_rfl) rfl rfl (zd rfl)<|d_pv 11 rfl rfl (by kernel_rfl) (by kernel_rfl) rfl rfl (zma (z:=((m:Nat):Int)) rfl rfl (w64 (by omega)))<|zOa (x0:=((Big.digs V).getD m 0)) 12 rfl rfl (by kernel_rfl) (by kernel_rfl) 5 m rfl Tryz.underlying40 sz131 rfl rfl rfl (by first|rfl|assumption|(simp;done)|(simp;omega)|omega) rfl rfl (gD (d:=0) (by omega)) (fun b30 o31 hok32=> ?_)
    replace hok32:=zI.1 hok32
    refine d_u 13 rfl rfl (by kernel_rfl) (by kernel_rfl) rfl rfl (zC (j:=0) 0 ty131 rfl rfl rfl rfl)<|d_pv 14 rfl rfl (by kernel_rfl) (by kernel_rfl) rfl rfl (zL (z:=((Big.digs V).getD m 0)) rfl (by rw [Tryz.underlying131];rfl) Tryz.underlying130 (wu64 (by omega)))<|d_pv 15 rfl rfl (by kernel_rfl) (by kernel_rfl) rfl rfl (zM (z:=(((Big.digs V).getD m 0)+1)) rfl rfl (wu64 (by omega)))<|zt 2 (by kernel_rfl) (zFa rfl rfl rfl rfl (.c rfl (.c rfl .n)) ce109 (zjb (p:=p328) (n:=(Big.digs W).length) (cap:=c329) (l:=Big.digs W) (i:=(m+1)) (hn:=by first|rfl|assumption|omega|(simp;done)) (hi:=by first|rfl|assumption|omega|(simp;done))) (.c (j:=1) rfl .n) ?_)
    refine d_pv 3 rfl rfl (by kernel_rfl) (by kernel_rfl) rfl rfl (zTa (z:=((Big.digs W).getD (m+1) 0*1000000000)) rfl rfl (wu64 (by omega)))<|zt 7 (by kernel_rfl) (zFa rfl rfl rfl rfl (.c rfl (.c rfl .n)) ce109 (zjb (p:=p328) (n:=(Big.digs W).length) (cap:=c329) (l:=Big.digs W) (i:=m) (hn:=by first|rfl|assumption|omega|(simp;done)) (hi:=by first|rfl|assumption|omega|(simp;done))) (.c (j:=1) rfl .n) ?_)
    refine d_pv 8 rfl rfl (by kernel_rfl) (by kernel_rfl) rfl rfl (zM (z:=(((Big.digs W).getD (m+1) 0*1000000000)+(Big.digs W).getD m 0)) rfl rfl (wu64 (by omega)))<|d_pv 16 rfl rfl (by kernel_rfl) (by kernel_rfl) rfl rfl (zdb (z:=((((Big.digs W).getD (m+1) 0*1000000000)+(Big.digs W).getD m 0) / (((Big.digs V).getD m 0)+1))) rfl rfl (by omega) (by rw [quoN (z:=((((Big.digs W).getD (m+1) 0*1000000000)+(Big.digs W).getD m 0) / (((Big.digs V).getD m 0)+1))) (by omega) (by omega)];exact wu64 (by omega)))<|d_pv 17 rfl rfl (by kernel_rfl) (by kernel_rfl) rfl rfl (zh rfl)<|zR (by kernel_rfl)<|zg<|zk ?_
    obtain ⟨g0,hg9⟩:∃g:Nat,(g:Int)=(((Big.digs W).getD (m+1) 0*1000000000+(Big.digs W).getD m 0) / ((Big.digs V).getD m 0+1)):=⟨_,Int.toNat_of_nonneg hg0⟩
    obtain ⟨hgm,hgl⟩:=Big.pt_guess hWlt hm hg9
    have hVg:=Big.ln_mono' hgm
    have e33:(((((Big.digs W).getD (m+1) 0*1000000000)+(Big.digs W).getD m 0) / (((Big.digs V).getD m 0)+1)):Int)=((g0:Nat):Int):=by exact hg9.symm
    rw [e33]
    refine zc<|r_pv rfl rfl (zd rfl)<|r_pv rfl rfl (zd rfl)<|r_pv rfl rfl (zd rfl)<|zJ rfl rfl (.c rfl (.c rfl .n)) ce114 (zgc (a:=V) (d:=g0) (p0:=p317) (cap:=c318) (hb:=by first|rfl|assumption|omega|(simp;done)) (hd:=by first|rfl|assumption|omega|(simp;done))) (.c (j:=6) rfl .n) ?_
    rintro ⟨p334,c335⟩ -
    dsimp only [List.append_eq,List.nil_append,List.cons_append]
    refine zJ rfl rfl (.c rfl (.c rfl .n)) ce94 (zXb (a:=W) (b:=V*g0) (p1:=p328) (c1:=c329) (p2:=p334) (c2:=c335) (hb1:=by first|rfl|assumption|omega|(simp;done)) (hb2:=by first|rfl|assumption|omega|(simp;done)) (hab:=by first|rfl|assumption|omega|(simp;done))) (.c (j:=2) rfl (.c (j:=0) rfl .n)) ?_
    rintro ⟨p336,c337⟩ -
    dsimp only [List.append_eq,List.nil_append,List.cons_append]
    refine r_pv rfl rfl (zh rfl)<|zl<|zg<|zk<|zv<|zAa (X:=Nat×Nat×(Option Addr)×Nat) (fun x:Nat×Nat×(Option Addr)×Nat=>x.2.1+V*x.1=W) (fun x=>[(10,.slice (x.2.2.1) ((Big.digs (x.2.1)).length) (x.2.2.2)),(13,.int .u64 ((x.1:Nat):Int)),(12,.int .i64 ((j:Nat):Int)),(11,.slice (some ⟨b22,0,none⟩) ((Big.digs A).length - m) ((Big.digs A).length - m)),(1,.slice p317 ((Big.digs V).length) c318),(0,.slice p315 ((Big.digs A).length) c316),(9,.int .u64 ((s:Nat):Int)),(6,.int .i64 (((m+1):Nat):Int)),(5,.slice none 0 0),(4,.slice none 0 0)]) (fun x=>[rowA 131 (rI .u32) (some ⟨b22,0,none⟩) ((Big.digs A).length - m) (List.replicate (j+1) 0++qs)]) (fun x=>[slF (rI .u32) (x.2.2.1) (x.2.2.2) (Big.digs (x.2.1)),slF (rI .u32) p336 c337 (Big.digs (W - (V*g0))),slF (rI .u32) p334 c335 (Big.digs (V*g0)),atF b30 o31 [.int .u32 ((Big.digs V).getD m 0)],slF (rI .u32) p328 c329 (Big.digs W),atF b24 o25 [.int .u32 ((d:Nat):Int)],slF (rI .u32) pr cr (Big.digs R),slF (rI .u32) p220 c221 (Big.digs R0),slF (rI .u32) (newP p315 c316 ((Big.digs A).length - m) 1) (c316 - ((Big.digs A).length - m)) (((Big.digs A).take ((Big.digs A).length)).drop ((Big.digs A).length - m)),slF (rI .u32) p317 c318 (Big.digs V),slF (rI .u32) p315 c316 (Big.digs A),atF b11 o12 [.int .u32 ((Big.digs b).getD ((Big.digs b).length - 1) 0)],slF (rI .u32) p1 c1 (Big.digs a),slF (rI .u32) p2 c2 (Big.digs b)]) (fun x:Nat×Nat×(Option Addr)×Nat=>x.2.1) (g0,(W - V*g0),p336,c337) (show (W - V*g0)+V*g0=W from by exact Nat.sub_add_cancel hgm) ((.e rfl (by first|rfl|(congr 1;omega)|simp_all) (.of rfl)):SubM _ _) (ho:=((.c (i:=0) rfl .n):PickO _ _ _)) ((.e (j:=0) rfl (by first|rfl|simp_all) (.of [0,1,2,3,4,5,6,7,8,9,10,11,12] rfl)):SelR _ _ _) ?_
    rintro ⟨g,r,p9,c9⟩ hJ
    replace hJ:r+V*g=W:=hJ
    try dsimp only
    have hgb:g<1000000000:=Nat.lt_of_mul_lt_mul_left (a:=V) (by omega)
    have hrl:=Big.ln_mono' (show r≤W by omega)
    refine zk<|zk<|zc<|r_pv rfl rfl (zd rfl)<|r_pv rfl rfl (zd rfl)<|zX rfl rfl (.c rfl (.c rfl .n)) ce93 (zWc (a:=r) (b:=V) (p1:=p9) (c1:=c9) (p2:=p317) (c2:=c318)) (.c (j:=0) rfl (.c (j:=9) rfl .n))<|r_pv rfl rfl (zqb rfl rfl)<|zl<|zg<|zV rfl (fun hge=> ?_) (fun hge=> ?_)
    ·
     have hrV:V≤r:=by have h9:=Big.cmp_ge.1 hge;omega
     refine zE<|zg<|zv<|zk<|zc<|r_pv rfl rfl (zd rfl)<|r_pv rfl rfl (zd rfl)<|zJ rfl rfl (.c rfl (.c rfl .n)) ce94 (zXb (a:=r) (b:=V) (p1:=p9) (c1:=c9) (p2:=p317) (c2:=c318) (hb1:=by first|rfl|assumption|omega|(simp;done)) (hb2:=by first|rfl|assumption|omega|(simp;done)) (hab:=by first|rfl|assumption|omega|(simp;done))) (.c (j:=0) rfl (.c (j:=9) rfl .n)) ?_
     rintro ⟨p338,c339⟩ -
     dsimp only [List.append_eq,List.nil_append,List.cons_append]
     refine r_pv rfl rfl (zh rfl)<|zl<|zg<|zc<|r_pv rfl rfl (zd rfl)<|r_pv rfl rfl (zM (z:=(((g+1):Nat):Int)) rfl rfl (wu64 (by omega)))<|r_pv rfl rfl (zh rfl)<|zl<|zN<|zva ((g+1),(r - V),p338,c339) (show (r - V)+V*(g+1)=W from by rw [Nat.mul_succ];omega) (by show r - V<r;omega) ((.e rfl (by first|rfl|(congr 1;omega)|simp_all) (.of rfl)):SubM _ _) (ho:=((.c (i:=0) rfl .n):PickO _ _ _)) ((.e (j:=0) rfl (by first|rfl|simp_all) (.of [2,3,4,5,6,7,8,9,10,11,12,13,14] rfl)):SelR _ _ _)
    ·
     have hrV:r<V:=by have h9:¬(V:Int)≤r:=fun h=>hge (Big.cmp_ge.2 h);omega
     have hst:=hP.step hd (by rw [← hW];exact hJ) hrV
     refine zna<|zp<|zp<|zH<|zg<|zc<|r_pv rfl rfl (zd rfl)<|r_pv rfl rfl (zd rfl)<|r_pv rfl rfl (zd rfl)<|r_pv rfl rfl (zL (z:=((g:Nat):Int)) rfl (by rw [Tryz.underlying130];rfl) Tryz.underlying131 (wu32 (by omega)))<|r_pv rfl rfl (zqa (j:=j) Tryz.underlying40 sz131 rfl rfl rfl (by omega))<|zZa 0 rfl rfl rfl (zja (j:=j) (x0:=((g:Nat):Int)) (γ0:=()) rfl rfl (by first|omega|(rw [List.length_map];omega)|(simp only [List.length_set];omega)|(simp;done)|(simp;omega)) rfl rfl sz131 (fun _ _=>by exact zI.2 (by omega))) (fun _=> .z) (fun _ _=> ?_)
     refine zl<|zN<|zg<|zc<|r_pv rfl rfl (zd rfl)<|r_pv rfl rfl (zma (z:=(((j:Nat):Int) - 1)) rfl rfl (w64 (by omega)))<|r_pv rfl rfl (zh rfl)<|zl<|zva (j,(((g:Nat):Int) :: qs),r,p9,c9) (show Big.PtI A V j (((g:Nat):Int) :: qs) r∧j+(((g:Nat):Int) :: qs).length=(Big.digs A).length - m from by exact ⟨hst,by rw [List.length_cons];omega⟩) (by show j<j+1;omega) ((.of rfl):SubM _ _) (ho:=((.e (i:=0) rfl (by rw [Big.pad_set]) .n):PickO _ _ _)) ((.of [0,7,8,9,10,11,12,13] rfl):SelR _ _ _)
   ·
    have hj0:jj=0:=by omega
    have hI0:Big.PtI A V 0 qs R:=hj0 ▸ hP
    obtain ⟨hf1,hf2⟩:=hI0.fin
    have hsc:=Big.scale_div (a:=a) (b:=b) hs1
    have hRV:=hI0.lt
    have hRl:=Big.ln_mono' (Nat.le_of_lt hRV)
    have hz4:=Big.made_nat hI0.ok hf1
    have hok5:=hI0.ok
    refine zna<|zp<|zp<|zH<|zg<|zk<|zc<|r_pv rfl rfl (zd rfl)<|r_pv rfl rfl (zd rfl)<|zJ rfl rfl (.c rfl (.c rfl .n)) ce113 (zkd (a:=R) (mm:=s) (p:=pr) (cap:=cr) (hb:=by first|rfl|assumption|omega|(simp;done)) (hm0:=by first|rfl|assumption|omega|(simp;done)) (hm1:=by first|rfl|assumption|omega|(simp;done))) (.c (j:=0) rfl .n) ?_
    rintro ⟨p240,c241⟩ -
    dsimp only [List.append_eq,List.nil_append,List.cons_append]
    refine r_pv rfl rfl (zd rfl)<|r_pv rfl rfl (zy rfl rfl)<|r_pv rfl rfl (zy rfl rfl)<|r_pv rfl rfl (zh rfl)<|r_pv rfl rfl (zh rfl)<|zl<|zg<|zk ?_
    have e42:List.replicate jj 0++qs=qs:=by rw [hj0];rfl
    rw [e42]
    refine zc<|r_pv rfl rfl (zd rfl)<|zsa 0 rfl .z<|zJ rfl rfl (.c rfl (.c rfl .n)) ce91 (zRa (s:=false) (p:=some ⟨b22,0,none⟩) (n:=((Big.digs A).length - m)) (cap:=((Big.digs A).length - m)) (l:=qs) (hn:=by first|rfl|omega|(simp;done)|(simp;omega)) (ho:=by exact hok5) (hln:=by first|rfl|omega|(simp;done)|(simp;omega))) (.c (j:=0) rfl .n) ?_
    rintro ⟨p243,c244⟩ -
    dsimp only [List.append_eq,List.nil_append,List.cons_append]
    refine r_pv rfl rfl (zIa Tryz.underlying42 rfl ty40 rfl rfl)<|r_pv rfl rfl (zd rfl)<|r_pv rfl rfl (zh rfl)<|r_pv rfl rfl (zh rfl)<|zl<|zg<|zT ?_
    have hr9:R / s=a%b:=by rw [hf2,hA,hV,hsc.2]
    have hz5:(Big.sg false (Big.valL qs)).natAbs=a / b:=by rw [hz4,hA,hV,hsc.1]
    exact zDa Tryz.results99 (p243,c244,p240,c241) trivial (zG rfl) (zG rfl) (by rw [hz5,hr9]) (ho:=(.n:PickO _ _ _)) ((.e (j:=0) rfl (by rw [hz5]) (.e (j:=2) rfl (by rw [hr9]) .n)):SelR _ _ _)
end Go.Proofs.YtjeahiahjgifgaaGreatDoor.Sp
namespace Go.Proofs.YtjeahiahjgifgaaGreatDoor.Sp
open Go
set_option linter.unusedVariables false
set_option maxRecDepth 100000
set_option maxHeartbeats 8000000
theorem zoe {s:Bool} {p1:Option Addr} {n1:Nat} {c1:Nat} {l1:List Int} {t:Bool} {p2:Option Addr} {n2:Nat} {c2:Nat} {l2:List Int} (hn1:l1.length=n1) (hn2:l2.length=n2) (hm1:n1≤549755813888) (hm2:n2≤549755813888):Con Tryz.prog 68 [.agg #[.bool s,.slice p1 n1 c1],.agg #[.bool t,.slice p2 n2 c2]] [] [slF (rI .u32) p1 c1 l1,slF (rI .u32) p2 c2 l2] (Y:=(Option Addr)×Nat) (fun y=>True) (fun y=> .agg #[.bool (decide (((Nat.gcd (Big.raw s l1).natAbs (Big.raw t l2).natAbs:Nat):Int)<0)),.slice (y.1) ((Big.digs (((Nat.gcd (Big.raw s l1).natAbs (Big.raw t l2).natAbs:Nat):Int).natAbs)).length) (y.2)]) (fun y=>[]) (fun y=>[slF (rI .u32) (y.1) (y.2) (Big.digs (((Nat.gcd (Big.raw s l1).natAbs (Big.raw t l2).natAbs:Nat):Int).natAbs))]):=by
 refine zA Tryz.func68 rfl rfl rfl (fun c=> ?_)
 show RunC _ _ _ _ _ [(0,.agg #[.bool s,.slice p1 n1 c1]),(1,.agg #[.bool t,.slice p2 n2 c2])] [] [slF (rI .u32) p1 c1 l1,slF (rI .u32) p2 c2 l2]
 refine zra 0 rfl (fun hL0=> ?_)
 refine zfb 0 rfl (fun hE0=> ?_)
 refine zra 1 rfl (fun hL1=> ?_)
 refine zfb 1 rfl (fun hE1=> ?_)
 have hnn1:Big.nn l1:=fun g hg=>(zI.1 (hE0 g hg)).1
 have hnn2:Big.nn l2:=fun g hg=>(zI.1 (hE1 g hg)).1
 have hb1:Big.ln (Big.raw s l1)≤n1:=by have:=Big.zgb (s:=s) hnn1;omega
 have hb2:Big.ln (Big.raw t l2)≤n2:=by have:=Big.zgb (s:=t) hnn2;omega
 unfold Big.ln at hb1 hb2
 refine zk<|zc<|zK rfl rfl (zfa rfl rfl) (fun b1=> ?_)
 refine zK rfl rfl (zfa rfl rfl) (fun b2=> ?_)
 refine zK rfl rfl (zq zr42 rfl) (fun b3=> ?_)
 refine zl<|zg<|zk<|zS (OW:=[]) (O:=[boxA b3 42 [.bool false,.slice none 0 0],boxA b2 42 [.bool t,.slice p2 n2 c2],boxA b1 42 [.bool s,.slice p1 n1 c1]]) 100000 mixed (.then .ret) (by kernel_rfl)<|d_u 0 rfl rfl (by kernel_rfl) (by kernel_rfl) rfl rfl (ze 2 ty42 rfl rfl (.take (.take .nil)))<|d_u 3 rfl rfl (by kernel_rfl) (by kernel_rfl) rfl rfl (ze 1 ty42 rfl rfl (.take (.take .nil)))<|zt 1 (by kernel_rfl) (zo rfl rfl rfl rfl (.c rfl .n) ce90 (zbb (s:=s) (p:=p1) (n:=n1) (cap:=c1) (l:=l1) (hn:=by assumption) (hln:=by first|rfl|assumption|omega)) (.c (j:=0) rfl .n) ?_)
 rintro ⟨p24,c25⟩ -
 dsimp only [List.append_eq,List.nil_append,List.cons_append]
 refine d_pv 2 rfl rfl (by kernel_rfl) (by kernel_rfl) rfl rfl (zIa Tryz.underlying42 rfl ty40 rfl rfl)<|zt 4 (by kernel_rfl) (zo rfl rfl rfl rfl (.c rfl .n) ce90 (zbb (s:=t) (p:=p2) (n:=n2) (cap:=c2) (l:=l2) (hn:=by assumption) (hln:=by first|rfl|assumption|omega)) (.c (j:=2) rfl .n) ?_)
 rintro ⟨p26,c27⟩ -
 dsimp only [List.append_eq,List.nil_append,List.cons_append]
 refine d_pv 5 rfl rfl (by kernel_rfl) (by kernel_rfl) rfl rfl (zIa Tryz.underlying42 rfl ty40 rfl rfl)<|d_pv 6 rfl rfl (by kernel_rfl) (by kernel_rfl) rfl rfl (zh rfl)<|d_pv 7 rfl rfl (by kernel_rfl) (by kernel_rfl) rfl rfl (zh rfl)<|zR (by kernel_rfl)<|zg<|zk<|zv<|zAa (X:=Nat×Nat×(Option Addr)×Nat×(Option Addr)×Nat) (fun x:Nat×Nat×(Option Addr)×Nat×(Option Addr)×Nat=>Nat.gcd x.1 x.2.1=Nat.gcd (Big.raw s l1).natAbs (Big.raw t l2).natAbs∧(Big.digs x.1).length≤549755813888∧(Big.digs x.2.1).length≤549755813888) (fun x=>[(6,.slice (x.2.2.2.2.1) ((Big.digs (x.2.1)).length) (x.2.2.2.2.2)),(5,.slice (x.2.2.1) ((Big.digs (x.1)).length) (x.2.2.2.1)),(4,.pointer (some ⟨b3,0,none⟩))]) (fun x=>[boxA b3 42 [.bool false,.slice none 0 0],boxA b2 42 [.bool t,.slice p2 n2 c2],boxA b1 42 [.bool s,.slice p1 n1 c1]]) (fun x=>[slF (rI .u32) (x.2.2.1) (x.2.2.2.1) (Big.digs (x.1)),slF (rI .u32) (x.2.2.2.2.1) (x.2.2.2.2.2) (Big.digs (x.2.1)),slF (rI .u32) p26 c27 (Big.digs ((Big.raw t l2).natAbs)),slF (rI .u32) p24 c25 (Big.digs ((Big.raw s l1).natAbs)),slF (rI .u32) p1 c1 l1,slF (rI .u32) p2 c2 l2]) (fun x:Nat×Nat×(Option Addr)×Nat×(Option Addr)×Nat=>x.2.1) ((Big.raw s l1).natAbs,(Big.raw t l2).natAbs,p24,c25,p26,c27) (show Nat.gcd ((Big.raw s l1).natAbs) ((Big.raw t l2).natAbs)=Nat.gcd (Big.raw s l1).natAbs (Big.raw t l2).natAbs∧(Big.digs ((Big.raw s l1).natAbs)).length≤549755813888∧(Big.digs ((Big.raw t l2).natAbs)).length≤549755813888 from by exact ⟨rfl,by omega,by omega⟩) ((.of rfl):SubM _ _) (ho:=((.of [0,0,0] rfl):PickO _ _ _)) ((.of [1,0,0,1,2,3] rfl):SelR _ _ _) ?_
 rintro ⟨a,b,pa,ca,pb,cb⟩ hI
 replace hI:Nat.gcd a b=Nat.gcd (Big.raw s l1).natAbs (Big.raw t l2).natAbs∧(Big.digs a).length≤549755813888∧(Big.digs b).length≤549755813888:=hI
 try dsimp only
 obtain ⟨hgc,hba,hbb⟩:=hI
 refine zk<|zKa (X:=Unit) (fun x=>True) (fun x=>[(29,.bool (decide (0<(Big.digs b).length∧(2<(Big.digs a).length∨2<(Big.digs b).length)))),(6,.slice pb ((Big.digs b).length) cb),(5,.slice pa ((Big.digs a).length) ca),(4,.pointer (some ⟨b3,0,none⟩))]) (fun x=>[boxA b3 42 [.bool false,.slice none 0 0],boxA b2 42 [.bool t,.slice p2 n2 c2],boxA b1 42 [.bool s,.slice p1 n1 c1]]) (fun x=>[slF (rI .u32) pa ca (Big.digs a),slF (rI .u32) pb cb (Big.digs b),slF (rI .u32) p26 c27 (Big.digs ((Big.raw t l2).natAbs)),slF (rI .u32) p24 c25 (Big.digs ((Big.raw s l1).natAbs)),slF (rI .u32) p1 c1 l1,slF (rI .u32) p2 c2 l2]) ?_ ?_
 ·
  refine zc<|r_pv rfl rfl (zd rfl)<|r_pv rfl rfl (zga Tryz.underlying40 rfl)<|r_pv rfl rfl (zeb rfl rfl)<|zta rfl rfl (zd rfl) (fun h8=> ?_) (fun h8=> ?_)
  ·
   refine r_pv rfl rfl (zd rfl)<|r_pv rfl rfl (zga Tryz.underlying40 rfl)<|r_pv rfl rfl (zeb rfl rfl)<|zta rfl rfl (zd rfl) (fun h9=> ?_) (fun h9=> ?_)
   ·
    refine zm rfl rfl<|zm rfl rfl<|zm rfl rfl<|r_pv rfl rfl (zW rfl rfl)<|r_pv rfl rfl (zW rfl rfl)<|zl ?_
    exact zoa () (show True from by first|trivial|omega|simp_all) ((.e rfl (congrArg Value.bool (by first|(simp;omega)|exact decide_eq_decide.2 ⟨fun h=>⟨by omega,.inr (by omega)⟩,fun h=>by omega⟩)) (.of rfl)):SubM _ _) (ho:=((.of [0,0,0] rfl):PickO _ _ _)) ((.of [0,1,2,3,4,5] rfl):SelR _ _ _)
   ·
    refine r_pv rfl rfl (zd rfl)<|r_pv rfl rfl (zga Tryz.underlying40 rfl)<|r_pv rfl rfl (zeb rfl rfl)<|r_pv rfl rfl (zW rfl rfl)<|r_pv rfl rfl (zW rfl rfl)<|zl ?_
    exact zoa () (show True from by first|trivial|omega|simp_all) ((.e rfl (congrArg Value.bool (by first|(simp;omega)|exact decide_eq_decide.2 ⟨fun h=>⟨by omega,.inr (by omega)⟩,fun h=>by omega⟩)) (.of rfl)):SubM _ _) (ho:=((.of [0,0,0] rfl):PickO _ _ _)) ((.of [0,1,2,3,4,5] rfl):SelR _ _ _)
  ·
   refine zm rfl rfl<|zm rfl rfl<|zm rfl rfl<|zm rfl rfl<|zm rfl rfl<|zm rfl rfl<|zm rfl rfl<|zm rfl rfl<|r_pv rfl rfl (zW rfl rfl)<|zl ?_
   exact zoa () (show True from by first|trivial|omega|simp_all) ((.e rfl (congrArg Value.bool (by first|(simp;omega)|exact decide_eq_decide.2 ⟨fun h=>⟨by omega,.inr (by omega)⟩,fun h=>by omega⟩)) (.of rfl)):SubM _ _) (ho:=((.of [0,0,0] rfl):PickO _ _ _)) ((.of [0,1,2,3,4,5] rfl):SelR _ _ _)
 ·
  rintro ⟨⟩ -
  try dsimp only
  refine zV rfl (fun hw=> ?_) (fun hw=> ?_)
  ·
   have hb0:0<b:=Nat.pos_of_ne_zero (fun e=>by rw [e] at hw;simp [Big.digs_zero] at hw)
   refine zE<|zg<|zv<|zk<|zc<|r_pv rfl rfl (zd rfl)<|r_pv rfl rfl (zd rfl)<|zJ rfl rfl (.c rfl (.c rfl .n)) ce99 (zld (a:=a) (b:=b) (p1:=pa) (c1:=ca) (p2:=pb) (c2:=cb) (hb1:=by first|rfl|assumption|omega) (hb2:=by first|rfl|assumption|omega) (hb0:=by first|rfl|assumption|omega)) (.c (j:=0) rfl (.c (j:=1) rfl .n)) ?_
   rintro ⟨p310,c311,p412,c413⟩ -
   dsimp only [List.append_eq,List.nil_append,List.cons_append]
   refine r_pv rfl rfl (zd rfl)<|r_pv rfl rfl (zy rfl rfl)<|r_pv rfl rfl (zy rfl rfl)<|r_pv rfl rfl (zh rfl)<|r_pv rfl rfl (zh rfl)<|zl<|zg<|zc<|r_pv rfl rfl (zd rfl)<|r_pv rfl rfl (zd rfl)<|r_pv rfl rfl (zh rfl)<|r_pv rfl rfl (zh rfl)<|zl<|zN<|zva (b,(a%b),pb,cb,p412,c413) (show Nat.gcd b (a%b)=Nat.gcd (Big.raw s l1).natAbs (Big.raw t l2).natAbs∧(Big.digs b).length≤549755813888∧(Big.digs (a%b)).length≤549755813888 from by exact ⟨by rw [Big.gcd_rest,hgc],hbb,Nat.le_trans (Big.ln_mono' (Nat.le_of_lt (Nat.mod_lt a hb0))) hbb⟩) (by exact Nat.mod_lt a hb0) ((.e rfl (by first|rfl|(congr 1;omega)|simp_all) (.c rfl (.c rfl .n))):SubM _ _) (ho:=((.of [0,0,0] rfl):PickO _ _ _)) ((.c (j:=3) rfl (.e (j:=1) rfl (by first|rfl|simp_all) (.of [4,5,6,7] rfl))):SelR _ _ _)
  ·
   refine zna<|zp<|zp<|zH<|zg<|zk<|zk<|zc<|r_pv rfl rfl (zd rfl)<|r_pv rfl rfl (zga Tryz.underlying40 rfl)<|r_pv rfl rfl (zMa rfl rfl)<|zl<|zg<|zV rfl (fun hbz=> ?_) (fun hbz=> ?_)
   ·
    have hbz0:b=0:=Big.len_digs_nil.1 (by omega)
    have hfin:a=Nat.gcd (Big.raw s l1).natAbs (Big.raw t l2).natAbs:=by rw [← hgc,hbz0,Nat.gcd_zero_right]
    refine zk<|zc<|r_pv rfl rfl (zd rfl)<|zJ rfl rfl (.c rfl (.c rfl .n)) ce91 (zwb (s:=false) (a:=a) (p:=pa) (cap:=ca) (hln:=by first|rfl|assumption|omega)) (.c (j:=0) rfl .n) ?_
    rintro ⟨p214,c215⟩ -
    dsimp only [List.append_eq,List.nil_append,List.cons_append]
    refine zn 0 rfl rfl rfl rfl rfl sz42 rfl (.take (.take .nil)) .z<|zl<|zg<|zT<|zx ?_
    exact zO Tryz.results68 (p214,c215) trivial (zu 0 ty42 rfl rfl (.take (.take .nil))) (by rw [← hfin];rfl) (ho:=(.n:PickO _ _ _)) ((.e (j:=0) rfl (by rw [← hfin];rfl) .n):SelR _ _ _)
   ·
    have ha2:(Big.digs a).length≤2:=by omega
    have hb2:(Big.digs b).length≤2:=by omega
    have ha18:=Big.two_lt ha2
    have hb18:=Big.two_lt hb2
    refine zE<|zg<|zk<|zc<|r_pv rfl rfl (zd rfl)<|zX rfl rfl (.c rfl .n) ce100 (zQd (a:=a) (p:=pa) (cap:=ca) (hb:=by first|rfl|assumption|omega)) (.c (j:=0) rfl .n)<|r_pv rfl rfl (zd rfl)<|zX rfl rfl (.c rfl .n) ce100 (zQd (a:=b) (p:=pb) (cap:=cb) (hb:=by first|rfl|assumption|omega)) (.c (j:=1) rfl .n)<|r_pv rfl rfl (zh rfl)<|r_pv rfl rfl (zh rfl)<|zl<|zg<|zk<|zv<|zAa (X:=Nat×Nat) (fun x:Nat×Nat=>Nat.gcd x.1 x.2=Nat.gcd a b∧x.1<1000000000000000000∧x.2<1000000000000000000) (fun x=>[(10,.int .u64 ((x.2:Nat):Int)),(9,.int .u64 ((x.1:Nat):Int)),(4,.pointer (some ⟨b3,0,none⟩))]) (fun x=>[boxA b3 42 [.bool false,.slice none 0 0],boxA b2 42 [.bool t,.slice p2 n2 c2],boxA b1 42 [.bool s,.slice p1 n1 c1]]) (fun x=>[slF (rI .u32) pa ca (Big.digs a),slF (rI .u32) pb cb (Big.digs b),slF (rI .u32) p26 c27 (Big.digs ((Big.raw t l2).natAbs)),slF (rI .u32) p24 c25 (Big.digs ((Big.raw s l1).natAbs)),slF (rI .u32) p1 c1 l1,slF (rI .u32) p2 c2 l2]) (fun x:Nat×Nat=>x.2) (a,b) (show Nat.gcd a b=Nat.gcd a b∧a<1000000000000000000∧b<1000000000000000000 from by exact ⟨rfl,ha18,hb18⟩) ((.of rfl):SubM _ _) (ho:=((.of [0,0,0] rfl):PickO _ _ _)) ((.of [0,1,2,3,4,5] rfl):SelR _ _ _) ?_
    rintro ⟨q,r⟩ hJ
    replace hJ:Nat.gcd q r=Nat.gcd a b∧q<1000000000000000000∧r<1000000000000000000:=hJ
    try dsimp only
    obtain ⟨hgq,hq18,hr18⟩:=hJ
    have hmr:=Nat.mod_le q r
    refine zk<|zk<|zc<|r_pv rfl rfl (zd rfl)<|r_pv rfl rfl (zeb rfl rfl)<|zl<|zg<|zV rfl (fun hy=> ?_) (fun hy=> ?_)
    ·
     refine zE<|zg<|zv<|zS (OW:=[]) (O:=[boxA b3 42 [.bool false,.slice none 0 0],boxA b2 42 [.bool t,.slice p2 n2 c2],boxA b1 42 [.bool s,.slice p1 n1 c1]]) 100000 mixed (.block (.then (.block (.then .ret)))) (by kernel_rfl)<|d_pv 0 rfl rfl (by kernel_rfl) (by kernel_rfl) rfl rfl (zd rfl)<|d_pv 1 rfl rfl (by kernel_rfl) (by kernel_rfl) rfl rfl (zd rfl)<|d_pv 2 rfl rfl (by kernel_rfl) (by kernel_rfl) rfl rfl (zd rfl)<|d_pv 3 rfl rfl (by kernel_rfl) (by kernel_rfl) rfl rfl (zUa (z:=(((q%r):Nat):Int)) rfl rfl (by omega) (remN (by omega) (by omega)))<|d_pv 4 rfl rfl (by kernel_rfl) (by kernel_rfl) rfl rfl (zh rfl)<|d_pv 5 rfl rfl (by kernel_rfl) (by kernel_rfl) rfl rfl (zh rfl)<|zR (by kernel_rfl)<|zN<|zva (r,(q%r)) (show Nat.gcd r (q%r)=Nat.gcd a b∧r<1000000000000000000∧(q%r)<1000000000000000000 from by exact ⟨by rw [Big.gcd_rest,hgq],hr18,by omega⟩) (by exact Nat.mod_lt q (by omega)) ((.of rfl):SubM _ _) (ho:=((.of [0,0,0] rfl):PickO _ _ _)) ((.of [0,1,2,3,4,5] rfl):SelR _ _ _)
    ·
     have hrz:r=0:=by omega
     have hfin:q=Nat.gcd (Big.raw s l1).natAbs (Big.raw t l2).natAbs:=by rw [← hgc,←hgq,hrz,Nat.gcd_zero_right]
     obtain ⟨ht1,ht2⟩:=Big.two_val hq18
     refine zna<|zp<|zp<|zH<|zg<|zk<|zc<|r_pv rfl rfl (zd rfl)<|r_pv rfl rfl (zUa (z:=(((q%1000000000):Nat):Int)) rfl rfl (by omega) (remN (by omega) (by omega)))<|r_pv rfl rfl (zL (z:=(((q%1000000000):Nat):Int)) rfl (by rw [Tryz.underlying130];rfl) Tryz.underlying131 (wu32 (by omega)))<|r_pv rfl rfl (zd rfl)<|r_pv rfl rfl (zdb (z:=(((q / 1000000000):Nat):Int)) rfl rfl (by omega) (by rw [quoN (z:=(((q / 1000000000):Nat):Int)) (by omega) (by omega)];exact wu64 (by omega)))<|r_pv rfl rfl (zL (z:=(((q / 1000000000):Nat):Int)) rfl (by rw [Tryz.underlying130];rfl) Tryz.underlying131 (wu32 (by omega)))<|zLa rfl rfl (zda (enc:=fun z:Int=>[.int .u32 z]) (ok:=InK .u32) (h1:=fun _=>rfl) (h2:=fun _=>rfl) (k:=2) Tryz.underlying40 inf131 rfl (by decide) (by decide) (by decide) (.c (x:=(((q%1000000000):Nat):Int)) rfl rfl (fun _ _=>by exact zI.2 (by omega)) (.c (x:=(((q / 1000000000):Nat):Int)) rfl rfl (fun _ _=>by exact zI.2 (by omega)) .n))) (fun b16 _=> ?_)
     refine zsa 0 rfl .z<|zJ rfl rfl (.c rfl (.c rfl .n)) ce91 (zRa (s:=false) (p:=some ⟨b16,0,none⟩) (n:=2) (cap:=2) (l:=[(((q%1000000000):Nat):Int),(((q / 1000000000):Nat):Int)]) (hn:=by first|rfl|omega|(simp;done)|(simp;omega)) (ho:=by exact ht1) (hln:=by first|rfl|omega|(simp;done)|(simp;omega))) (.c (j:=0) rfl .n) ?_
     rintro ⟨p217,c218⟩ -
     dsimp only [List.append_eq,List.nil_append,List.cons_append]
     refine zn 1 rfl rfl rfl rfl rfl sz42 rfl (.take (.take .nil)) (.s .z)<|zl<|zg<|zT ?_
     exact zO Tryz.results68 (p217,c218) trivial (zu 1 ty42 rfl rfl (.take (.take .nil))) (by rw [ht2,←hfin];rfl) (ho:=(.n:PickO _ _ _)) ((.e (j:=0) rfl (by rw [ht2,←hfin];rfl) .n):SelR _ _ _)
theorem zXe {x1:Int} {x2:Int} {p1:Option Addr} {c1:Nat} {p2:Option Addr} {c2:Nat} (hb1:Big.ln x1≤549755813888) (hb2:Big.ln x2≤549755813888):Con Tryz.prog 68 [.agg #[.bool (decide ((x1)<0)),.slice (p1) ((Big.digs ((x1).natAbs)).length) (c1)],.agg #[.bool (decide ((x2)<0)),.slice (p2) ((Big.digs ((x2).natAbs)).length) (c2)]] [] [slF (rI .u32) (p1) (c1) (Big.digs ((x1).natAbs)),slF (rI .u32) (p2) (c2) (Big.digs ((x2).natAbs))] (Y:=(Option Addr)×(Nat)) (fun y=>True) (fun y=> .agg #[.bool (decide ((((Nat.gcd x1.natAbs x2.natAbs:Nat):Int))<0)),.slice (y.1) ((Big.digs ((((Nat.gcd x1.natAbs x2.natAbs:Nat):Int)).natAbs)).length) (y.2)]) (fun y=>[]) (fun y=>[slF (rI .u32) (y.1) (y.2) (Big.digs ((((Nat.gcd x1.natAbs x2.natAbs:Nat):Int)).natAbs))]):=by
  have h:= @zoe (decide ((x1)<0)) p1 (Big.digs (x1).natAbs).length c1 (Big.digs (x1).natAbs) (decide ((x2)<0)) p2 (Big.digs (x2).natAbs).length c2 (Big.digs (x2).natAbs) rfl rfl hb1 hb2
  rw [Big.raw_big,Big.raw_big] at h
  exact h
theorem zYe {w1:Wd} {w2:Wd} {x1:Int} {x2:Int} (hb1:Big.ln x1≤549755813888) (hb2:Big.ln x2≤549755813888):Con Tryz.prog 68 [.agg #[w1.b,w1.l],.agg #[w2.b,w2.l]] [] [zF w1 (x1),zF w2 (x2)] (Y:=(Wd)) (fun y=>True) (fun y=> .agg #[y.b,y.l]) (fun y=>[]) (fun y=>[zF y (((Nat.gcd x1.natAbs x2.natAbs:Nat):Int))]):=by
  exact zbc (zGc (fun p1 c1 p2 c2=>zXe hb1 hb2))
theorem zRd {s:Bool} {p1:Option Addr} {n1:Nat} {c1:Nat} {l1:List Int} {t:Bool} {p2:Option Addr} {n2:Nat} {c2:Nat} {l2:List Int} (hn1:l1.length=n1) (hn2:l2.length=n2) (hm1:n1≤549755813888) (hm2:n2≤549755813888):Con Tryz.prog 67 [.agg #[.bool s,.slice p1 n1 c1],.agg #[.bool t,.slice p2 n2 c2]] [] [slF (rI .u32) p1 c1 l1,slF (rI .u32) p2 c2 l2] (Y:=Unit) (fun y=>True) (fun y=> .int .i64 ((Big.raw s l1 - Big.raw t l2).sign)) (fun y=>[]) (fun y=>[]):=by
 refine zA Tryz.func67 rfl rfl rfl (fun c=> ?_)
 show RunC _ _ _ _ _ [(0,.agg #[.bool s,.slice p1 n1 c1]),(1,.agg #[.bool t,.slice p2 n2 c2])] [] [slF (rI .u32) p1 c1 l1,slF (rI .u32) p2 c2 l2]
 refine zra 0 rfl (fun hL0=> ?_)
 refine zfb 0 rfl (fun hE0=> ?_)
 refine zra 1 rfl (fun hL1=> ?_)
 refine zfb 1 rfl (fun hE1=> ?_)
 have hnn1:Big.nn l1:=fun g hg=>(zI.1 (hE0 g hg)).1
 have hnn2:Big.nn l2:=fun g hg=>(zI.1 (hE1 g hg)).1
 have hb1:Big.ln (Big.raw s l1)≤n1:=by have:=Big.zgb (s:=s) hnn1;omega
 have hb2:Big.ln (Big.raw t l2)≤n2:=by have:=Big.zgb (s:=t) hnn2;omega
 unfold Big.ln at hb1 hb2
 have hls:=Big.ln_sub (Big.raw s l1) (Big.raw t l2)
 unfold Big.ln at hls
 refine zk<|zc<|zK rfl rfl (zfa rfl rfl) (fun b1=> ?_)
 refine zK rfl rfl (zfa rfl rfl) (fun b2=> ?_)
 refine r_pv rfl rfl (zh rfl)<|zl<|zg<|zk<|zc<|r_u rfl rfl (ze 1 ty42 rfl rfl (.take (.take .nil)))<|r_u rfl rfl (ze 0 ty42 rfl rfl (.take (.take .nil)))<|zJ rfl rfl (.c rfl (.c rfl .n)) ce98 (zne (s:=s) (p1:=p1) (n1:=n1) (c1:=c1) (l1:=l1) (t:=t) (p2:=p2) (n2:=n2) (c2:=c2) (l2:=l2) (hn1:=by assumption) (hn2:=by assumption) (hm1:=by first|rfl|assumption|omega|(unfold Big.ln;omega)) (hm2:=by first|rfl|assumption|omega|(unfold Big.ln;omega))) (.c (j:=0) rfl (.c (j:=1) rfl .n)) ?_
 rintro ⟨p33,c34⟩ -
 dsimp only [List.append_eq,List.nil_append,List.cons_append]
 refine zX rfl rfl (.c rfl .n) ce66 (zjd (z:=Big.raw s l1 - Big.raw t l2) (p:=p33) (cap:=c34) (hln:=by first|rfl|assumption|omega|(unfold Big.ln;omega))) (.c (j:=0) rfl .n)<|r_pv rfl rfl (zh rfl)<|zl<|zg<|zT ?_
 exact zO Tryz.results67 () trivial (zG rfl) rfl (ho:=(.n:PickO _ _ _)) (.n:SelR _ _ _)
theorem zwd {x1:Int} {x2:Int} {p1:Option Addr} {c1:Nat} {p2:Option Addr} {c2:Nat} (hb1:Big.ln x1≤549755813888) (hb2:Big.ln x2≤549755813888):Con Tryz.prog 67 [.agg #[.bool (decide ((x1)<0)),.slice (p1) ((Big.digs ((x1).natAbs)).length) (c1)],.agg #[.bool (decide ((x2)<0)),.slice (p2) ((Big.digs ((x2).natAbs)).length) (c2)]] [] [slF (rI .u32) (p1) (c1) (Big.digs ((x1).natAbs)),slF (rI .u32) (p2) (c2) (Big.digs ((x2).natAbs))] (Y:=Unit) (fun y=>True) (fun y=> .int .i64 ((x1 - x2).sign)) (fun y=>[]) (fun y=>[]):=by
  have h:= @zRd (decide ((x1)<0)) p1 (Big.digs (x1).natAbs).length c1 (Big.digs (x1).natAbs) (decide ((x2)<0)) p2 (Big.digs (x2).natAbs).length c2 (Big.digs (x2).natAbs) rfl rfl hb1 hb2
  rw [Big.raw_big,Big.raw_big] at h
  exact h
theorem zSd {x1:Int} {x2:Int} {p1:Option Addr} {c1:Nat} {p2:Option Addr} {c2:Nat} (hb1:Big.ln x1≤274877906944) (hb2:Big.ln x2≤274877906944) (hy:x2≠0):Con Tryz.prog 89 [.agg #[.bool (decide (x1<0)),.slice p1 ((Big.digs ((x1).natAbs)).length) c1],.agg #[.bool (decide (x2<0)),.slice p2 ((Big.digs ((x2).natAbs)).length) c2]] [] [slF (rI .u32) p1 c1 (Big.digs ((x1).natAbs)),slF (rI .u32) p2 c2 (Big.digs ((x2).natAbs))] (Y:=(Option Addr)×Nat×(Option Addr)×Nat) (fun y=>True) (fun y=> .tuple #[.agg #[.bool (decide ((Big.fq x1 x2)<0)),.slice (y.1) ((Big.digs ((Big.fq x1 x2).natAbs)).length) (y.2.1)],.agg #[.bool (decide ((Big.fr x1 x2)<0)),.slice (y.2.2.1) ((Big.digs ((Big.fr x1 x2).natAbs)).length) (y.2.2.2)],.int .i64 0]) (fun y=>[]) (fun y=>[slF (rI .u32) (y.1) (y.2.1) (Big.digs ((Big.fq x1 x2).natAbs)),slF (rI .u32) (y.2.2.1) (y.2.2.2) (Big.digs ((Big.fr x1 x2).natAbs))]):=by
 refine zA Tryz.func89 rfl rfl rfl (fun c=> ?_)
 show RunC _ _ _ _ _ [(0,.agg #[.bool (decide (x1<0)),.slice p1 ((Big.digs ((x1).natAbs)).length) c1]),(1,.agg #[.bool (decide (x2<0)),.slice p2 ((Big.digs ((x2).natAbs)).length) c2])] [] [slF (rI .u32) p1 c1 (Big.digs ((x1).natAbs)),slF (rI .u32) p2 c2 (Big.digs ((x2).natAbs))]
 refine zra 0 rfl (fun hL0=> ?_)
 refine zra 1 rfl (fun hL1=> ?_)
 have hfl:=Big.ln_fq (x:=x1) hy
 have hml:=Big.zcb (Big.fq x1 x2) x2
 unfold Big.ln at hb1 hb2 hfl hml
 have hd1:=Nat.div_le_self x1.natAbs x2.natAbs
 have hd2:=Nat.mod_lt x1.natAbs (show 0<x2.natAbs by omega)
 have hl1:=Big.ln_mono' hd1
 have hl2:=Big.ln_mono' (Nat.le_of_lt hd2)
 refine zk<|zc<|zK rfl rfl (zfa rfl rfl) (fun b1=> ?_)
 refine zK rfl rfl (zfa rfl rfl) (fun b2=> ?_)
 refine zK rfl rfl (zq zr42 rfl) (fun b3=> ?_)
 refine zK rfl rfl (zq zr42 rfl) (fun b4=> ?_)
 refine r_pv rfl rfl (zh rfl)<|zl<|zg<|zk<|zea (.c (i:=3) rfl (.c (i:=2) rfl (.c (i:=0) rfl (.c (i:=0) rfl .n))))<|zS (OW:=[boxA b1 42 [.bool (decide (x1<0)),.slice p1 ((Big.digs ((x1).natAbs)).length) c1],boxA b2 42 [.bool (decide (x2<0)),.slice p2 ((Big.digs ((x2).natAbs)).length) c2]]) (O:=[boxA b4 42 [.bool false,.slice none 0 0],boxA b3 42 [.bool false,.slice none 0 0]]) 4 mixed (.then .ret) (by kernel_rfl)<|d_uw 0 rfl rfl (by kernel_rfl) (by kernel_rfl) (by kernel_rfl) rfl rfl (ze 0 ty42 rfl rfl (.take (.take .nil)))<|d_uw 2 rfl rfl (by kernel_rfl) (by kernel_rfl) (by kernel_rfl) rfl rfl (ze 1 ty42 rfl rfl (.take (.take .nil)))<|zt 1 (by kernel_rfl) (zo rfl rfl rfl rfl (.c rfl .n) ce90 (zVc (z:=x1) (p:=p1) (cap:=c1) (hln:=by first|rfl|assumption|omega|(unfold Big.ln;omega)|(unfold Big.ln;rw [hsq];omega)|(decide +kernel))) (.c (j:=0) rfl .n) ?_)
 rintro ⟨p25,c26⟩ -
 dsimp only [List.append_eq,List.nil_append,List.cons_append]
 refine zt 3 (by kernel_rfl) (zo rfl rfl rfl rfl (.c rfl .n) ce90 (zVc (z:=x2) (p:=p2) (cap:=c2) (hln:=by first|rfl|assumption|omega|(unfold Big.ln;omega)|(unfold Big.ln;rw [hsq];omega)|(decide +kernel))) (.c (j:=2) rfl .n) ?_)
 rintro ⟨p27,c28⟩ -
 dsimp only [List.append_eq,List.nil_append,List.cons_append]
 refine zt 4 (by kernel_rfl) (zr (by kernel_rfl) rfl rfl rfl rfl rfl sz42 rfl (.take (.take .nil)) ?_)
 refine zWa (zpa (i:=1) rfl)<|zt 5 (by kernel_rfl) (zr (by kernel_rfl) rfl rfl rfl rfl rfl sz42 rfl (.take (.take .nil)) ?_)
 refine zR (by kernel_rfl)<|zg<|zk<|zk<|zc<|r_pv rfl rfl (zi Tryz.underlying42 rfl sz40 rfl rfl)<|r_u rfl rfl (zf 0 ty40 rfl rfl rfl)<|r_pv rfl rfl (zga Tryz.underlying40 rfl)<|r_pv rfl rfl (zMa rfl rfl)<|zl<|zg<|zV rfl (fun h9=> ?_) (fun h9=> ?_)
 ·
  exact absurd (Big.len_digs_nil.1 (show (Big.digs x2.natAbs).length=0 by omega)) (by omega)
 ·
  refine zE<|zg<|zk<|zc<|r_pv rfl rfl (zi Tryz.underlying42 rfl sz40 rfl rfl)<|r_u rfl rfl (zf 1 ty40 rfl rfl rfl)<|r_pv rfl rfl (zi Tryz.underlying42 rfl sz40 rfl rfl)<|r_u rfl rfl (zf 0 ty40 rfl rfl rfl)<|zJ rfl rfl (.c rfl (.c rfl .n)) ce99 (zld (a:=(x1).natAbs) (b:=(x2).natAbs) (p1:=p25) (c1:=c26) (p2:=p27) (c2:=c28) (hb1:=by first|rfl|assumption|omega|(unfold Big.ln;omega)|(unfold Big.ln;rw [hsq];omega)|(decide +kernel)) (hb2:=by first|rfl|assumption|omega|(unfold Big.ln;omega)|(unfold Big.ln;rw [hsq];omega)|(decide +kernel)) (hb0:=by first|rfl|assumption|omega|(unfold Big.ln;omega)|(unfold Big.ln;rw [hsq];omega)|(decide +kernel))) (.c (j:=1) rfl (.c (j:=0) rfl .n)) ?_
  rintro ⟨p310,c311,p412,c413⟩ -
  dsimp only [List.append_eq,List.nil_append,List.cons_append]
  refine r_pv rfl rfl (zd rfl)<|r_pv rfl rfl (zy rfl rfl)<|r_pv rfl rfl (zy rfl rfl)<|r_pv rfl rfl (zh rfl)<|r_pv rfl rfl (zh rfl)<|zl<|zg<|zk ?_
  obtain ⟨Q,hQ⟩:∃z,z=((x1).natAbs) / ((x2).natAbs):=⟨_,rfl⟩
  rw [← hQ]
  obtain ⟨R0,hR0⟩:∃z,z=((x1).natAbs)%((x2).natAbs):=⟨_,rfl⟩
  rw [← hR0]
  rw [← hQ] at hl1
  rw [← hR0] at hl2
  have hsq:(Big.sg (decide (decide (x1<0)≠decide (x2<0))) (Q:Int)).natAbs=Q:=by rw [Big.sg_abs (by omega)];exact Int.toNat_natCast _
  refine zc<|r_pv rfl rfl (zi Tryz.underlying42 rfl sz4 rfl rfl)<|r_u rfl rfl (zf 1 ty4 rfl rfl rfl)<|r_pv rfl rfl (zi Tryz.underlying42 rfl sz4 rfl rfl)<|r_u rfl rfl (zf 0 ty4 rfl rfl rfl)<|r_pv rfl rfl (zVa Tryz.underlying4 rfl rfl)<|r_pv rfl rfl (zd rfl)<|zJ rfl rfl (.c rfl (.c rfl .n)) ce91 (zwb (s:=decide (decide (x1<0)≠decide (x2<0))) (a:=Q) (p:=p310) (cap:=c311) (hln:=by first|rfl|assumption|omega|(unfold Big.ln;omega)|(unfold Big.ln;rw [hsq];omega)|(decide +kernel))) (.c (j:=0) rfl .n) ?_
  rintro ⟨p214,c215⟩ -
  dsimp only [List.append_eq,List.nil_append,List.cons_append]
  refine zK rfl rfl (zq zr42 rfl) (fun b16=> ?_)
  refine zn 0 rfl rfl rfl rfl rfl sz42 rfl (.take (.take .nil)) .z<|zl<|zg<|zk<|zk<|zc<|r_pv rfl rfl (zi Tryz.underlying42 rfl sz4 rfl rfl)<|r_u rfl rfl (zf 2 ty4 rfl rfl rfl)<|r_pv rfl rfl (zi Tryz.underlying42 rfl sz4 rfl rfl)<|r_u rfl rfl (zf 1 ty4 rfl rfl rfl)<|r_pv rfl rfl (zVa Tryz.underlying4 rfl rfl)<|zta rfl rfl (zd rfl) (fun hsd=> ?_) (fun hsd=> ?_)
  ·
   refine r_pv rfl rfl (zd rfl)<|r_pv rfl rfl (zga Tryz.underlying40 rfl)<|r_pv rfl rfl (zeb rfl rfl)<|r_pv rfl rfl (zW rfl rfl)<|zl<|zg<|zV rfl (fun hadj=> ?_) (fun hadj=> ?_)
   ·
    have hr0:x1.natAbs%x2.natAbs≠0:=fun e=>by rw [hR0,e,Big.digs_zero] at hadj;exact absurd hadj (by decide)
    have hqz:Big.sg (decide (decide (x1<0)≠decide (x2<0))) (Q:Int) - 1=Big.fq x1 x2:=by have h9:=(Big.fq_odd hy hsd hr0).1;rw [← h9,decide_eq_true hsd,hQ,Big.sg_t,Big.sg_t];omega
    refine zS (OW:=[boxA b16 42 [.bool (decide ((Big.sg (decide (decide (x1<0)≠decide (x2<0))) (Q:Int))<0)),.slice p214 ((Big.digs ((Big.sg (decide (decide (x1<0)≠decide (x2<0))) (Q:Int)).natAbs)).length) c215]]) (O:=[boxA b2 42 [.bool (decide (x2<0)),.slice p27 ((Big.digs ((x2).natAbs)).length) c28],boxA b1 42 [.bool (decide (x1<0)),.slice p25 ((Big.digs ((x1).natAbs)).length) c26],boxA b4 42 [.bool false,.slice none 0 0],boxA b3 42 [.bool false,.slice none 0 0]]) 3 mixed (.then .ret) (by kernel_rfl)<|d_uw 0 rfl rfl (by kernel_rfl) (by kernel_rfl) (by kernel_rfl) rfl rfl (ze 0 ty42 rfl rfl (.take (.take .nil)))<|zt 1 (by kernel_rfl) (zo rfl rfl rfl rfl (.c rfl .n) ce87 (zSe (z:=1) (hz:=by first|rfl|assumption|omega|(unfold Big.ln;omega)|(unfold Big.ln;rw [hsq];omega)|(decide +kernel))) (.n) ?_)
    rintro ⟨p217,c218⟩ -
    dsimp only [List.append_eq,List.nil_append,List.cons_append]
    refine zt 2 (by kernel_rfl) (zo rfl rfl rfl rfl (.c rfl (.c rfl .n)) ce98 (zrc (x1:=Big.sg (decide (decide (x1<0)≠decide (x2<0))) (Q:Int)) (x2:=1) (p1:=p214) (c1:=c215) (p2:=p217) (c2:=c218) (hb1:=by first|rfl|assumption|omega|(unfold Big.ln;omega)|(unfold Big.ln;rw [hsq];omega)|(decide +kernel)) (hb2:=by first|rfl|assumption|omega|(unfold Big.ln;omega)|(unfold Big.ln;rw [hsq];omega)|(decide +kernel))) (.c (j:=1) rfl (.c (j:=0) rfl .n)) ?_)
    rintro ⟨p319,c320⟩ -
    dsimp only [List.append_eq,List.nil_append,List.cons_append]
    refine zt 3 (by kernel_rfl) (zr (by kernel_rfl) rfl rfl rfl rfl rfl sz42 rfl (.take (.take .nil)) ?_)
    refine zR (by kernel_rfl)<|zg<|zk ?_
    have e21:(Big.sg (decide (decide (x1<0)≠decide (x2<0))) (Q:Int)) - 1=Big.fq x1 x2:=by exact hqz
    rw [e21]
    refine zea (.c (i:=4) rfl (.c (i:=3) rfl (.c (i:=0) rfl (.c (i:=0) rfl (.c (i:=0) rfl .n)))))<|zS (OW:=[boxA b3 42 [.bool false,.slice none 0 0],boxA b4 42 [.bool false,.slice none 0 0]]) (O:=[boxA b16 42 [.bool (decide ((Big.fq x1 x2)<0)),.slice p319 ((Big.digs ((Big.fq x1 x2).natAbs)).length) c320],boxA b2 42 [.bool (decide (x2<0)),.slice p27 ((Big.digs ((x2).natAbs)).length) c28],boxA b1 42 [.bool (decide (x1<0)),.slice p25 ((Big.digs ((x1).natAbs)).length) c26]]) 6 mixed (.then .ret) (by kernel_rfl)<|d_uw 0 rfl rfl (by kernel_rfl) (by kernel_rfl) (by kernel_rfl) rfl rfl (ze 2 ty42 rfl rfl (.take (.take .nil)))<|d_uw 1 rfl rfl (by kernel_rfl) (by kernel_rfl) (by kernel_rfl) rfl rfl (ze 4 ty42 rfl rfl (.take (.take .nil)))<|d_uw 2 rfl rfl (by kernel_rfl) (by kernel_rfl) (by kernel_rfl) rfl rfl (ze 2 ty42 rfl rfl (.take (.take .nil)))<|d_uw 3 rfl rfl (by kernel_rfl) (by kernel_rfl) (by kernel_rfl) rfl rfl (ze 3 ty42 rfl rfl (.take (.take .nil)))<|zt 4 (by kernel_rfl) (zo rfl rfl rfl rfl (.c rfl (.c rfl .n)) ce60 (zsc (x1:=Big.fq x1 x2) (x2:=x2) (p1:=p319) (c1:=c320) (p2:=p27) (c2:=c28) (hb1:=by first|rfl|assumption|omega|(unfold Big.ln;omega)|(unfold Big.ln;rw [hsq];omega)|(decide +kernel)) (hb2:=by first|rfl|assumption|omega|(unfold Big.ln;omega)|(unfold Big.ln;rw [hsq];omega)|(decide +kernel))) (.c (j:=0) rfl (.c (j:=5) rfl .n)) ?_)
    rintro ⟨p322,c323⟩ -
    dsimp only [List.append_eq,List.nil_append,List.cons_append]
    refine zt 5 (by kernel_rfl) (zo rfl rfl rfl rfl (.c rfl (.c rfl .n)) ce98 (zrc (x1:=x1) (x2:=(Big.fq x1 x2)*x2) (p1:=p25) (c1:=c26) (p2:=p322) (c2:=c323) (hb1:=by first|rfl|assumption|omega|(unfold Big.ln;omega)|(unfold Big.ln;rw [hsq];omega)|(decide +kernel)) (hb2:=by first|rfl|assumption|omega|(unfold Big.ln;omega)|(unfold Big.ln;rw [hsq];omega)|(decide +kernel))) (.c (j:=7) rfl (.c (j:=0) rfl .n)) ?_)
    rintro ⟨p324,c325⟩ -
    dsimp only [List.append_eq,List.nil_append,List.cons_append]
    refine zt 6 (by kernel_rfl) (zr (by kernel_rfl) rfl rfl rfl rfl rfl sz42 rfl (.take (.take .nil)) ?_)
    refine zWa (zpa (i:=1) rfl)<|zt 7 (by kernel_rfl) (zr (by kernel_rfl) rfl rfl rfl rfl rfl sz42 rfl (.take (.take .nil)) ?_)
    refine d_pv 8 rfl rfl (by kernel_rfl) (by kernel_rfl) rfl rfl (zh rfl)<|zR (by kernel_rfl)<|zg<|zT ?_
    have hz2:x1 - Big.fq x1 x2*x2=Big.fr x1 x2:=by unfold Big.fr;rw [Int.mul_comm]
    exact zZb Tryz.results89 (p319,c320,p324,c325) trivial (zu 1 ty42 rfl rfl (.take (.take .nil))) (zu 0 ty42 rfl rfl (.take (.take .nil))) (zG rfl) (by rw [hz2]) (ho:=(.n:PickO _ _ _)) ((.c (j:=2) rfl (.e (j:=0) rfl (by rw [hz2]) .n)):SelR _ _ _)
   ·
    have hr0:x1.natAbs%x2.natAbs=0:=Big.len_digs_nil.1 (by rw [← hR0];omega)
    have hqz:Big.sg (decide (decide (x1<0)≠decide (x2<0))) (Q:Int)=Big.fq x1 x2:=by rw [decide_eq_true hsd,hQ];exact (Big.fq_even hy hsd hr0).1
    refine zE<|zg<|zk ?_
    have e26:Big.sg (decide (decide (x1<0)≠decide (x2<0))) (Q:Int)=Big.fq x1 x2:=by exact hqz
    rw [e26]
    refine zea (.c (i:=4) rfl (.c (i:=3) rfl (.c (i:=0) rfl (.c (i:=0) rfl (.c (i:=0) rfl .n)))))<|zS (OW:=[boxA b3 42 [.bool false,.slice none 0 0],boxA b4 42 [.bool false,.slice none 0 0]]) (O:=[boxA b16 42 [.bool (decide ((Big.fq x1 x2)<0)),.slice p214 ((Big.digs ((Big.fq x1 x2).natAbs)).length) c215],boxA b2 42 [.bool (decide (x2<0)),.slice p27 ((Big.digs ((x2).natAbs)).length) c28],boxA b1 42 [.bool (decide (x1<0)),.slice p25 ((Big.digs ((x1).natAbs)).length) c26]]) 6 mixed (.then .ret) (by kernel_rfl)<|d_uw 0 rfl rfl (by kernel_rfl) (by kernel_rfl) (by kernel_rfl) rfl rfl (ze 2 ty42 rfl rfl (.take (.take .nil)))<|d_uw 1 rfl rfl (by kernel_rfl) (by kernel_rfl) (by kernel_rfl) rfl rfl (ze 4 ty42 rfl rfl (.take (.take .nil)))<|d_uw 2 rfl rfl (by kernel_rfl) (by kernel_rfl) (by kernel_rfl) rfl rfl (ze 2 ty42 rfl rfl (.take (.take .nil)))<|d_uw 3 rfl rfl (by kernel_rfl) (by kernel_rfl) (by kernel_rfl) rfl rfl (ze 3 ty42 rfl rfl (.take (.take .nil)))<|zt 4 (by kernel_rfl) (zo rfl rfl rfl rfl (.c rfl (.c rfl .n)) ce60 (zsc (x1:=Big.fq x1 x2) (x2:=x2) (p1:=p214) (c1:=c215) (p2:=p27) (c2:=c28) (hb1:=by first|rfl|assumption|omega|(unfold Big.ln;omega)|(unfold Big.ln;rw [hsq];omega)|(decide +kernel)) (hb2:=by first|rfl|assumption|omega|(unfold Big.ln;omega)|(unfold Big.ln;rw [hsq];omega)|(decide +kernel))) (.c (j:=0) rfl (.c (j:=3) rfl .n)) ?_)
    rintro ⟨p327,c328⟩ -
    dsimp only [List.append_eq,List.nil_append,List.cons_append]
    refine zt 5 (by kernel_rfl) (zo rfl rfl rfl rfl (.c rfl (.c rfl .n)) ce98 (zrc (x1:=x1) (x2:=(Big.fq x1 x2)*x2) (p1:=p25) (c1:=c26) (p2:=p327) (c2:=c328) (hb1:=by first|rfl|assumption|omega|(unfold Big.ln;omega)|(unfold Big.ln;rw [hsq];omega)|(decide +kernel)) (hb2:=by first|rfl|assumption|omega|(unfold Big.ln;omega)|(unfold Big.ln;rw [hsq];omega)|(decide +kernel))) (.c (j:=5) rfl (.c (j:=0) rfl .n)) ?_)
    rintro ⟨p329,c330⟩ -
    dsimp only [List.append_eq,List.nil_append,List.cons_append]
    refine zt 6 (by kernel_rfl) (zr (by kernel_rfl) rfl rfl rfl rfl rfl sz42 rfl (.take (.take .nil)) ?_)
    refine zWa (zpa (i:=1) rfl)<|zt 7 (by kernel_rfl) (zr (by kernel_rfl) rfl rfl rfl rfl rfl sz42 rfl (.take (.take .nil)) ?_)
    refine d_pv 8 rfl rfl (by kernel_rfl) (by kernel_rfl) rfl rfl (zh rfl)<|zR (by kernel_rfl)<|zg<|zT ?_
    have hz2:x1 - Big.fq x1 x2*x2=Big.fr x1 x2:=by unfold Big.fr;rw [Int.mul_comm]
    exact zZb Tryz.results89 (p214,c215,p329,c330) trivial (zu 1 ty42 rfl rfl (.take (.take .nil))) (zu 0 ty42 rfl rfl (.take (.take .nil))) (zG rfl) (by rw [hz2]) (ho:=(.n:PickO _ _ _)) ((.c (j:=2) rfl (.e (j:=0) rfl (by rw [hz2]) .n)):SelR _ _ _)
  ·
   have hs9:=Decidable.not_not.1 hsd
   have hqz:Big.sg (decide (decide (x1<0)≠decide (x2<0))) (Q:Int)=Big.fq x1 x2:=by rw [decide_eq_false hsd,hQ];exact (Big.fq_same hy hs9).1
   refine zm rfl rfl<|zm rfl rfl<|zm rfl rfl<|r_pv rfl rfl (zW rfl rfl)<|zl<|zg<|zua rfl rfl<|zE<|zg<|zk ?_
   have e31:Big.sg (decide (decide (x1<0)≠decide (x2<0))) (Q:Int)=Big.fq x1 x2:=by exact hqz
   rw [e31]
   refine zea (.c (i:=4) rfl (.c (i:=3) rfl (.c (i:=0) rfl (.c (i:=0) rfl (.c (i:=0) rfl .n)))))<|zS (OW:=[boxA b3 42 [.bool false,.slice none 0 0],boxA b4 42 [.bool false,.slice none 0 0]]) (O:=[boxA b16 42 [.bool (decide ((Big.fq x1 x2)<0)),.slice p214 ((Big.digs ((Big.fq x1 x2).natAbs)).length) c215],boxA b2 42 [.bool (decide (x2<0)),.slice p27 ((Big.digs ((x2).natAbs)).length) c28],boxA b1 42 [.bool (decide (x1<0)),.slice p25 ((Big.digs ((x1).natAbs)).length) c26]]) 6 mixed (.then .ret) (by kernel_rfl)<|d_uw 0 rfl rfl (by kernel_rfl) (by kernel_rfl) (by kernel_rfl) rfl rfl (ze 2 ty42 rfl rfl (.take (.take .nil)))<|d_uw 1 rfl rfl (by kernel_rfl) (by kernel_rfl) (by kernel_rfl) rfl rfl (ze 4 ty42 rfl rfl (.take (.take .nil)))<|d_uw 2 rfl rfl (by kernel_rfl) (by kernel_rfl) (by kernel_rfl) rfl rfl (ze 2 ty42 rfl rfl (.take (.take .nil)))<|d_uw 3 rfl rfl (by kernel_rfl) (by kernel_rfl) (by kernel_rfl) rfl rfl (ze 3 ty42 rfl rfl (.take (.take .nil)))<|zt 4 (by kernel_rfl) (zo rfl rfl rfl rfl (.c rfl (.c rfl .n)) ce60 (zsc (x1:=Big.fq x1 x2) (x2:=x2) (p1:=p214) (c1:=c215) (p2:=p27) (c2:=c28) (hb1:=by first|rfl|assumption|omega|(unfold Big.ln;omega)|(unfold Big.ln;rw [hsq];omega)|(decide +kernel)) (hb2:=by first|rfl|assumption|omega|(unfold Big.ln;omega)|(unfold Big.ln;rw [hsq];omega)|(decide +kernel))) (.c (j:=0) rfl (.c (j:=3) rfl .n)) ?_)
   rintro ⟨p332,c333⟩ -
   dsimp only [List.append_eq,List.nil_append,List.cons_append]
   refine zt 5 (by kernel_rfl) (zo rfl rfl rfl rfl (.c rfl (.c rfl .n)) ce98 (zrc (x1:=x1) (x2:=(Big.fq x1 x2)*x2) (p1:=p25) (c1:=c26) (p2:=p332) (c2:=c333) (hb1:=by first|rfl|assumption|omega|(unfold Big.ln;omega)|(unfold Big.ln;rw [hsq];omega)|(decide +kernel)) (hb2:=by first|rfl|assumption|omega|(unfold Big.ln;omega)|(unfold Big.ln;rw [hsq];omega)|(decide +kernel))) (.c (j:=5) rfl (.c (j:=0) rfl .n)) ?_)
   rintro ⟨p334,c335⟩ -
   dsimp only [List.append_eq,List.nil_append,List.cons_append]
   refine zt 6 (by kernel_rfl) (zr (by kernel_rfl) rfl rfl rfl rfl rfl sz42 rfl (.take (.take .nil)) ?_)
   refine zWa (zpa (i:=1) rfl)<|zt 7 (by kernel_rfl) (zr (by kernel_rfl) rfl rfl rfl rfl rfl sz42 rfl (.take (.take .nil)) ?_)
   refine d_pv 8 rfl rfl (by kernel_rfl) (by kernel_rfl) rfl rfl (zh rfl)<|zR (by kernel_rfl)<|zg<|zT ?_
   have hz2:x1 - Big.fq x1 x2*x2=Big.fr x1 x2:=by unfold Big.fr;rw [Int.mul_comm]
   exact zZb Tryz.results89 (p214,c215,p334,c335) trivial (zu 1 ty42 rfl rfl (.take (.take .nil))) (zu 0 ty42 rfl rfl (.take (.take .nil))) (zG rfl) (by rw [hz2]) (ho:=(.n:PickO _ _ _)) ((.c (j:=2) rfl (.e (j:=0) rfl (by rw [hz2]) .n)):SelR _ _ _)
theorem zBb {w1:Wd} {w2:Wd} {x1:Int} {x2:Int} (hb1:Big.ln x1≤274877906944) (hb2:Big.ln x2≤274877906944) (hy:x2≠0):Con Tryz.prog 89 [.agg #[w1.b,w1.l],.agg #[w2.b,w2.l]] [] [zF w1 (x1),zF w2 (x2)] (Y:=(Wd)×(Wd)) (fun y=>True) (fun y=> .tuple #[.agg #[y.1.b,y.1.l],.agg #[y.2.b,y.2.l],.int .i64 (0)]) (fun y=>[]) (fun y=>[zF y.1 (Big.fq x1 x2),zF y.2 (Big.fr x1 x2)]):=by
  exact zNe (zGc (fun p1 c1 p2 c2=>zSd hb1 hb2 hy))
end Go.Proofs.YtjeahiahjgifgaaGreatDoor.Sp
namespace Go.Proofs.YtjeahiahjgifgaaGreatDoor.Sp
open Go
set_option linter.unusedVariables false
set_option maxRecDepth 100000
set_option maxHeartbeats 8000000
theorem zmd {z:Int} (hz: -9223372036854775808≤z∧z≤9223372036854775807):Con Tryz.prog 56 [.int .i64 z] [] [] (Y:=(Option Addr)×Nat) (fun y=>True) (fun y=> .agg #[.bool (decide (z<0)),.slice (y.1) ((Big.digs ((z).natAbs)).length) (y.2)]) (fun y=>[]) (fun y=>[slF (rI .u32) (y.1) (y.2) (Big.digs ((z).natAbs))]):=by
 refine zA Tryz.func56 rfl rfl rfl (fun c=> ?_)
 show RunC _ _ _ _ _ [(0,.int .i64 z)] [] []
 refine zk<|zc<|zK rfl rfl (zq zr42 rfl) (fun b1=> ?_)
 refine zl<|zg<|zk<|zc<|r_pv rfl rfl (zd rfl)<|zJ rfl rfl (.c rfl .n) ce87 (zSe (z:=z) (hz:=by assumption)) (.n) ?_
 rintro ⟨p22,c23⟩ -
 dsimp only [List.append_eq,List.nil_append,List.cons_append]
 refine zn 0 rfl rfl rfl rfl rfl sz42 rfl (.take (.take .nil)) .z<|zl<|zg<|zT ?_
 exact zO Tryz.results56 (p22,c23) trivial (zu 0 ty42 rfl rfl (.take (.take .nil))) rfl (ho:=(.n:PickO _ _ _)) ((.c (j:=0) rfl .n):SelR _ _ _)
theorem zMb {z:Int} (hz: -9223372036854775808≤z∧z≤9223372036854775807):Con Tryz.prog 56 [.int .i64 (z)] [] [] (Y:=(Wd)) (fun y=>True) (fun y=> .agg #[y.b,y.l]) (fun y=>[]) (fun y=>[zF y (z)]):=by
  exact zbc (zmd hz)
theorem zYb {z:Int} (hz: -9223372036854775808≤z∧z≤9223372036854775807):Con Tryz.prog 22 [.int .i64 z] [] [] (Y:=Wd×Wd) (fun y=>True) (fun y=> .agg #[y.1.b,y.1.l,y.2.b,y.2.l]) (fun y=>[]) (fun y=>[qF true y.1 y.2 ((z:Int):Rat)]):=by
 refine zA Tryz.func22 rfl rfl rfl (fun c=> ?_)
 show RunC _ _ _ _ _ [(0,.int .i64 z)] [] []
 refine zk<|zc<|zK rfl rfl (zq zr44 rfl) (fun b1=> ?_)
 refine zl<|zg<|zk<|zc<|r_pv rfl rfl (zd rfl)<|zJ rfl rfl (.c rfl .n) ce56 (zMb (z:=z) (hz:=by assumption)) (.n) ?_
 rintro w32 -
 dsimp only [List.append_eq,List.nil_append,List.cons_append]
 refine zJ rfl rfl (.c rfl .n) ce56 (zMb (z:=1) (hz:=by first|rfl|assumption|omega|(rw [Big.zba];omega)|(decide +kernel))) (.n) ?_
 rintro w33 -
 dsimp only [List.append_eq,List.nil_append,List.cons_append]
 refine r_pv rfl rfl (zw zr44 rfl Tryz.underlying44 (.c sz42 (.c sz42 .n)) (.c rfl (.c rfl .n)) (.c rfl rfl rfl (.take (.take .nil)) (.c rfl rfl rfl (.skip (.skip (.take (.take .nil)))) .n)))<|zn 0 rfl rfl rfl rfl rfl sz44 rfl (.take (.take (.take (.take .nil)))) .z<|zl<|zg<|zT<|zQa (qF true w32 w33 ((z:Int):Rat)) (qF_close 1 0 rfl rfl (by exact ⟨(Rat.num_intCast z).symm,by rw [Rat.den_intCast];rfl,Nat.le_trans (Big.hq_64 hz.1 hz.2) (by decide)⟩)) ?_
 exact zO Tryz.results22 (w32,w33) trivial (zu 0 ty44 rfl rfl (.take (.take (.take (.take .nil))))) rfl (ho:=(.n:PickO _ _ _)) ((.c (j:=0) rfl .n):SelR _ _ _)
theorem zYc {s:Bool} {p1:Option Addr} {n1:Nat} {c1:Nat} {l1:List Int} {t:Bool} {p2:Option Addr} {n2:Nat} {c2:Nat} {l2:List Int} (hn1:l1.length=n1) (hn2:l2.length=n2) (hm1:n1≤1048576) (hm2:n2≤1048576):Con Tryz.prog 31 [.agg #[.bool s,.slice p1 n1 c1,.bool t,.slice p2 n2 c2]] [] [slF (rI .u32) p1 c1 l1,slF (rI .u32) p2 c2 l2] (Y:=Unit) (fun y=>True) (fun y=> .bool (decide (Big.qok ((s,l1),(t,l2))))) (fun y=>[]) (fun y=>[]):=by
 refine zA Tryz.func31 rfl rfl rfl (fun c=> ?_)
 show RunC _ _ _ _ _ [(0,.agg #[.bool s,.slice p1 n1 c1,.bool t,.slice p2 n2 c2])] [] [slF (rI .u32) p1 c1 l1,slF (rI .u32) p2 c2 l2]
 refine zra 0 rfl (fun hL0=> ?_)
 refine zfb 0 rfl (fun hE0=> ?_)
 refine zra 1 rfl (fun hL1=> ?_)
 refine zfb 1 rfl (fun hE1=> ?_)
 have hnn1:Big.nn l1:=fun g hg=>(zI.1 (hE0 g hg)).1
 have hnn2:Big.nn l2:=fun g hg=>(zI.1 (hE1 g hg)).1
 have hb1:Big.ln (Big.raw s l1)≤n1:=by have:=Big.zgb (s:=s) hnn1;omega
 have hb2:Big.ln (Big.raw t l2)≤n2:=by have:=Big.zgb (s:=t) hnn2;omega
 refine zk<|zc<|zK rfl rfl (zfa rfl rfl) (fun b1=> ?_)
 refine r_pv rfl rfl (zh rfl)<|zl<|zg<|zk<|zKa (X:=Unit) (fun x=>True) (fun x=>[(18,.bool (decide (¬(Big.canon s l1∧Big.canon t l2∧0<Big.raw t l2)))),(2,.bool false),(1,.pointer (some ⟨b1,0,none⟩))]) (fun x=>[boxA b1 44 [.bool s,.slice p1 n1 c1,.bool t,.slice p2 n2 c2]]) (fun x=>[slF (rI .u32) p1 c1 l1,slF (rI .u32) p2 c2 l2]) ?_ ?_
 ·
  refine zc<|r_pv rfl rfl (zi Tryz.underlying44 rfl sz42 rfl rfl)<|r_u rfl rfl (ze 0 ty42 rfl rfl (.take (.take .nil)))<|zX rfl rfl (.c rfl .n) ce65 (zyc (s:=s) (p:=p1) (n:=n1) (cap:=c1) (l:=l1) (hn:=by assumption)) (.c (j:=0) rfl .n)<|r_pv rfl rfl (zSa rfl)<|zta rfl rfl (zd rfl) (fun h2=> ?_) (fun h2=> ?_)
  ·
   refine zm rfl rfl<|zm rfl rfl<|zm rfl rfl<|zm rfl rfl<|r_pv rfl rfl (zW rfl rfl)<|r_pv rfl rfl (zd rfl)<|zm rfl rfl<|zm rfl rfl<|zm rfl rfl<|zm rfl rfl<|r_pv rfl rfl (zW rfl rfl)<|zl ?_
   exact zoa () (show True from by first|trivial|omega|simp_all) ((.e rfl (congrArg Value.bool (by simp_all)) (.c rfl (.c rfl .n))):SubM _ _) (ho:=((.c (i:=0) rfl .n):PickO _ _ _)) ((.of [0,1] rfl):SelR _ _ _)
  ·
   refine r_pv rfl rfl (zi Tryz.underlying44 rfl sz42 rfl rfl)<|r_u rfl rfl (ze 0 ty42 rfl rfl (.skip (.skip (.take (.take .nil)))))<|zX rfl rfl (.c rfl .n) ce65 (zyc (s:=t) (p:=p2) (n:=n2) (cap:=c2) (l:=l2) (hn:=by assumption)) (.c (j:=1) rfl .n)<|r_pv rfl rfl (zSa rfl)<|r_pv rfl rfl (zW rfl rfl)<|zta rfl rfl (zd rfl) (fun h3=> ?_) (fun h3=> ?_)
   ·
    refine zm rfl rfl<|zm rfl rfl<|zm rfl rfl<|zm rfl rfl<|r_pv rfl rfl (zW rfl rfl)<|zl ?_
    exact zoa () (show True from by first|trivial|omega|simp_all) ((.e rfl (congrArg Value.bool (by simp_all)) (.c rfl (.c rfl .n))):SubM _ _) (ho:=((.c (i:=0) rfl .n):PickO _ _ _)) ((.of [0,1] rfl):SelR _ _ _)
   ·
    refine r_pv rfl rfl (zi Tryz.underlying44 rfl sz42 rfl rfl)<|r_u rfl rfl (ze 0 ty42 rfl rfl (.skip (.skip (.take (.take .nil)))))<|zX rfl rfl (.c rfl .n) ce66 (zOd (s:=t) (p:=p2) (n:=n2) (cap:=c2) (l:=l2) (hn:=by assumption) (hln:=by first|rfl|assumption|omega|(rw [Big.zba];omega)|(decide +kernel))) (.c (j:=1) rfl .n)<|r_pv rfl rfl (zLc rfl rfl)<|r_pv rfl rfl (zW rfl rfl)<|zl ?_
    exact zoa () (show True from by first|trivial|omega|simp_all) ((.e rfl (congrArg Value.bool (by exact decide_eq_decide.2 (Big.sgn_le (Decidable.not_not.1 ‹_›) (Decidable.not_not.1 ‹_›)))) (.c rfl (.c rfl .n))):SubM _ _) (ho:=((.c (i:=0) rfl .n):PickO _ _ _)) ((.of [0,1] rfl):SelR _ _ _)
 ·
  rintro ⟨⟩ -
  try dsimp only
  refine zV rfl (fun hc=> ?_) (fun hc=> ?_)
  ·
   refine zk<|zc<|r_pv rfl rfl (zh rfl)<|zl<|zg<|zT<|zx ?_
   exact zO Tryz.results31 () trivial (zG rfl) (congrArg Value.bool (decide_eq_false (fun h=>hc ⟨h.1,h.2.1,h.2.2.1⟩))) (ho:=(.n:PickO _ _ _)) (.n:SelR _ _ _)
  ·
   have hcc:=Decidable.not_not.1 hc
   have hgl:=Big.zGd (n:=Big.raw s l1) (d:=Big.raw t l2) (by omega)
   refine zE<|zg<|zk<|zc<|r_pv rfl rfl (zi Tryz.underlying44 rfl sz42 rfl rfl)<|r_u rfl rfl (ze 0 ty42 rfl rfl (.take (.take .nil)))<|r_pv rfl rfl (zi Tryz.underlying44 rfl sz42 rfl rfl)<|r_u rfl rfl (ze 0 ty42 rfl rfl (.skip (.skip (.take (.take .nil)))))<|zJ rfl rfl (.c rfl (.c rfl .n)) ce68 (zoe (s:=s) (p1:=p1) (n1:=n1) (c1:=c1) (l1:=l1) (t:=t) (p2:=p2) (n2:=n2) (c2:=c2) (l2:=l2) (hn1:=by assumption) (hn2:=by assumption) (hm1:=by first|rfl|assumption|omega|(rw [Big.zba];omega)|(decide +kernel)) (hm2:=by first|rfl|assumption|omega|(rw [Big.zba];omega)|(decide +kernel))) (.c (j:=0) rfl (.c (j:=1) rfl .n)) ?_
   rintro ⟨p34,c35⟩ -
   dsimp only [List.append_eq,List.nil_append,List.cons_append]
   refine zJ rfl rfl (.c rfl .n) ce56 (zmd (z:=1) (hz:=by first|rfl|assumption|omega|(rw [Big.zba];omega)|(decide +kernel))) (.n) ?_
   rintro ⟨p26,c27⟩ -
   dsimp only [List.append_eq,List.nil_append,List.cons_append]
   refine zX rfl rfl (.c rfl (.c rfl .n)) ce67 (zwd (x1:=((Nat.gcd (Big.raw s l1).natAbs (Big.raw t l2).natAbs:Nat):Int)) (x2:=1) (p1:=p34) (c1:=c35) (p2:=p26) (c2:=c27) (hb1:=by first|rfl|assumption|omega|(rw [Big.zba];omega)|(decide +kernel)) (hb2:=by first|rfl|assumption|omega|(rw [Big.zba];omega)|(decide +kernel))) (.c (j:=1) rfl (.c (j:=0) rfl .n))<|r_pv rfl rfl (zMa rfl rfl)<|r_pv rfl rfl (zh rfl)<|zl<|zg<|zT ?_
   exact zO Tryz.results31 () trivial (zG rfl) (congrArg Value.bool (decide_eq_decide.2 (Big.qok_sub (x:=((s,l1),(t,l2))) (Decidable.not_not.1 hc)).symm)) (ho:=(.n:PickO _ _ _)) (.n:SelR _ _ _)
theorem zHc {u1:Wd} {v1:Wd} {q1:Rat}:Con Tryz.prog 31 [.agg #[u1.b,u1.l,v1.b,v1.l]] [] [qF true u1 v1 (q1)] (Y:=Unit) (fun y=>True) (fun y=> .bool true) (fun y=>[]) (fun y=>[]):=by
  exact zxf (fun x hx hk h1 h2=>by have h:= @zYc x.1.1 u1.p _ u1.c x.1.2 x.2.1 v1.p _ v1.c x.2.2 rfl rfl h1 h2;rw [decide_eq_true (hk rfl)] at h;exact h)
theorem zde {s:Bool} {p1:Option Addr} {n1:Nat} {c1:Nat} {l1:List Int} {t:Bool} {p2:Option Addr} {n2:Nat} {c2:Nat} {l2:List Int} (hn1:l1.length=n1) (hn2:l2.length=n2) (hm1:n1≤1048576) (hm2:n2≤1048576):Con Tryz.prog 57 [.agg #[.bool s,.slice p1 n1 c1,.bool t,.slice p2 n2 c2]] [] [slF (rI .u32) p1 c1 l1,slF (rI .u32) p2 c2 l2] (Y:=Wd×Wd) (fun y=>True) (fun y=> .agg #[y.1.b,y.1.l,y.2.b,y.2.l]) (fun y=>[]) (fun y=>[qF true y.1 y.2 (Big.qv ((s,l1),(t,l2)))]):=by
 refine zA Tryz.func57 rfl rfl rfl (fun c=> ?_)
 show RunC _ _ _ _ _ [(0,.agg #[.bool s,.slice p1 n1 c1,.bool t,.slice p2 n2 c2])] [] [slF (rI .u32) p1 c1 l1,slF (rI .u32) p2 c2 l2]
 refine zra 0 rfl (fun hL0=> ?_)
 refine zfb 0 rfl (fun hE0=> ?_)
 refine zra 1 rfl (fun hL1=> ?_)
 refine zfb 1 rfl (fun hE1=> ?_)
 have hnn1:Big.nn l1:=fun g hg=>(zI.1 (hE0 g hg)).1
 have hnn2:Big.nn l2:=fun g hg=>(zI.1 (hE1 g hg)).1
 have hb1:Big.ln (Big.raw s l1)≤n1:=by have:=Big.zgb (s:=s) hnn1;omega
 have hb2:Big.ln (Big.raw t l2)≤n2:=by have:=Big.zgb (s:=t) hnn2;omega
 refine zk<|zc<|zK rfl rfl (zfa rfl rfl) (fun b1=> ?_)
 refine zK rfl rfl (zq zr44 rfl) (fun b2=> ?_)
 refine zl<|zg<|zk<|zk<|zc<|r_u rfl rfl (ze 1 ty44 rfl rfl (.take (.take (.take (.take .nil)))))<|zX rfl rfl (.c rfl .n) ce31 (zYc (s:=s) (p1:=p1) (n1:=n1) (c1:=c1) (l1:=l1) (t:=t) (p2:=p2) (n2:=n2) (c2:=c2) (l2:=l2) (hn1:=by assumption) (hn2:=by assumption) (hm1:=by assumption) (hm2:=by assumption)) (.c (j:=0) rfl (.c (j:=1) rfl .n))<|zl<|zg<|zV rfl (fun hq=> ?_) (fun hq=> ?_)
 ·
  have hrp:=Big.raw_parts (x:=((s,l1),(t,l2))) hnn1 hnn2 hq
  have hqp:=Big.qv_parts (x:=((s,l1),(t,l2))) hq
  have hl:Big.hq (Big.qv ((s,l1),(t,l2)))≤1048576:=by unfold Big.hq;rw [hqp.1,hqp.2];dsimp only;omega
  refine zk<|zc<|r_u rfl rfl (ze 1 ty44 rfl rfl (.take (.take (.take (.take .nil)))))<|zn 0 rfl rfl rfl rfl rfl sz44 rfl (.take (.take (.take (.take .nil)))) .z<|zl<|zg<|zT<|zx<|zQa (qF true ⟨s,p1,n1,c1⟩ ⟨t,p2,n2,c2⟩ (Big.qv ((s,l1),(t,l2)))) (fun g r=>qF_rawI 0 1 rfl rfl hn1 hn2 hm1 hm2 hq g r) ?_
  exact zO Tryz.results57 (⟨s,p1,n1,c1⟩,⟨t,p2,n2,c2⟩) trivial (zu 0 ty44 rfl rfl (.take (.take (.take (.take .nil))))) rfl (ho:=(.n:PickO _ _ _)) ((.c (j:=0) rfl .n):SelR _ _ _)
 ·
  have hz:=Big.qv_not (x:=((s,l1),(t,l2))) hq
  refine zE<|zg<|zk<|zc<|zJ rfl rfl (.c rfl .n) ce22 (zYb (z:=0) (hz:=by first|rfl|assumption|omega|(rw [Big.zba];omega)|(decide +kernel))) (.n) ?_
  rintro ⟨w33,w44⟩ -
  dsimp only [List.append_eq,List.nil_append,List.cons_append]
  refine zn 0 rfl rfl rfl rfl rfl sz44 rfl (.take (.take (.take (.take .nil)))) .z<|zl<|zg<|zT ?_
  exact zO Tryz.results57 (w33,w44) trivial (zu 0 ty44 rfl rfl (.take (.take (.take (.take .nil))))) rfl (ho:=(.n:PickO _ _ _)) ((.e (j:=0) rfl (by rw [hz];rfl) .n):SelR _ _ _)
theorem zCb {k1:Bool} {u1:Wd} {v1:Wd} {q1:Rat}:Con Tryz.prog 57 [.agg #[u1.b,u1.l,v1.b,v1.l]] [] [qF k1 u1 v1 (q1)] (Y:=(Wd)×(Wd)) (fun y=>True) (fun y=> .agg #[y.1.b,y.1.l,y.2.b,y.2.l]) (fun y=>[]) (fun y=>[qF true y.1 y.2 (q1)]):=by
  exact zMe (fun x hx hk h1 h2 hl=>by subst hx;exact zde rfl rfl h1 h2)
theorem zIc {w1:Wd} {w2:Wd} {x1:Int} {x2:Int} (hl1:Big.ln x1≤1048576) (hl2:Big.ln x2≤1048576) (hd:x2≠0):Con Tryz.prog 58 [.agg #[w1.b,w1.l],.agg #[w2.b,w2.l]] [] [zF w1 x1,zF w2 x2] (Y:=Wd×Wd) (fun y=>True) (fun y=> .agg #[y.1.b,y.1.l,y.2.b,y.2.l]) (fun y=>[]) (fun y=>[qF true y.1 y.2 (Rat.divInt x1 x2)]):=by
 refine zA Tryz.func58 rfl rfl rfl (fun c=> ?_)
 show RunC _ _ _ _ _ [(0,.agg #[w1.b,w1.l]),(1,.agg #[w2.b,w2.l])] [] [zF w1 x1,zF w2 x2]
 refine zk<|zc<|zK rfl rfl (zfa rfl rfl) (fun b1=> ?_)
 refine zK rfl rfl (zfa rfl rfl) (fun b2=> ?_)
 refine zK rfl rfl (zq zr44 rfl) (fun b3=> ?_)
 refine zl<|zg<|zk<|zc<|r_u rfl rfl (ze 2 ty42 rfl rfl (.take (.take .nil)))<|r_u rfl rfl (ze 1 ty42 rfl rfl (.take (.take .nil)))<|zJ rfl rfl (.c rfl (.c rfl .n)) ce68 (zYe (w1:=w1) (w2:=w2) (x1:=x1) (x2:=x2) (hb1:=by first|rfl|assumption|omega|(rw [Big.zba];omega)|(decide +kernel)) (hb2:=by first|rfl|assumption|omega|(rw [Big.zba];omega)|(decide +kernel))) (.c (j:=0) rfl (.c (j:=1) rfl .n)) ?_
 rintro w34 -
 dsimp only [List.append_eq,List.nil_append,List.cons_append]
 refine zK rfl rfl (zq zr42 rfl) (fun b5=> ?_)
 refine zn 0 rfl rfl rfl rfl rfl sz42 rfl (.take (.take .nil)) .z<|zl<|zg<|zk<|zk<|zc<|r_u rfl rfl (ze 2 ty42 rfl rfl (.take (.take .nil)))<|zX rfl rfl (.c rfl .n) ce66 (zzc (w1:=w2) (x1:=x2) (hln:=by first|rfl|assumption|omega|(rw [Big.zba];omega)|(decide +kernel))) (.c (j:=2) rfl .n)<|r_pv rfl rfl (zU rfl rfl)<|zl<|zg<|zV rfl (fun hneg=> ?_) (fun hneg=> ?_)
 ·
  have hs:x2<0:=by rcases Big.sign_le (x:=x2) with h|h|h <;> omega
  have hgp:=Big.gcd_pos_right (n:=x1) (d:=x2) (by omega)
  have hgl:=Big.zGd (n:=x1) (d:=x2) (by omega)
  obtain ⟨hr1,hr2⟩:=Big.red_neg (n:=x1) hs
  refine zc<|r_u rfl rfl (ze 0 ty42 rfl rfl (.take (.take .nil)))<|zJ rfl rfl (.c rfl .n) ce88 (zNd (w1:=w34) (x1:=((Nat.gcd x1.natAbs x2.natAbs:Nat):Int)) (hln:=by first|rfl|assumption|omega|(rw [Big.zba];omega)|(decide +kernel))) (.c (j:=0) rfl .n) ?_
  rintro w36 -
  dsimp only [List.append_eq,List.nil_append,List.cons_append]
  refine zn 0 rfl rfl rfl rfl rfl sz42 rfl (.take (.take .nil)) .z<|zl<|zg<|zk<|zc<|r_u rfl rfl (ze 3 ty42 rfl rfl (.take (.take .nil)))<|r_u rfl rfl (ze 0 ty42 rfl rfl (.take (.take .nil)))<|zJ rfl rfl (.c rfl (.c rfl .n)) ce89 (zBb (w1:=w1) (w2:=w36) (x1:=x1) (x2:= - ((Nat.gcd x1.natAbs x2.natAbs:Nat):Int)) (hb1:=by first|rfl|assumption|omega|(rw [Big.zba];omega)|(decide +kernel)) (hb2:=by first|rfl|assumption|omega|(rw [Big.zba];omega)|(decide +kernel)) (hy:=by first|rfl|assumption|omega|(rw [Big.zba];omega)|(decide +kernel))) (.c (j:=2) rfl (.c (j:=0) rfl .n)) ?_
  rintro ⟨w37,w48⟩ -
  dsimp only [List.append_eq,List.nil_append,List.cons_append]
  refine r_pv rfl rfl (zd rfl)<|r_pv rfl rfl (zy rfl rfl)<|r_pv rfl rfl (zy rfl rfl)<|r_pv rfl rfl (zy rfl rfl)<|zK rfl rfl (zq zr42 rfl) (fun b9=> ?_)
  refine zK rfl rfl (zq zr42 rfl) (fun b10=> ?_)
  refine zn 1 rfl rfl rfl rfl rfl sz42 rfl (.take (.take .nil)) (.s .z)<|zn 0 rfl rfl rfl rfl rfl sz42 rfl (.take (.take .nil)) .z<|r_pv rfl rfl (zh rfl)<|zl<|zg<|zk<|zc<|r_u rfl rfl (ze 4 ty42 rfl rfl (.take (.take .nil)))<|r_u rfl rfl (ze 2 ty42 rfl rfl (.take (.take .nil)))<|zJ rfl rfl (.c rfl (.c rfl .n)) ce89 (zBb (w1:=w2) (w2:=w36) (x1:=x2) (x2:= - ((Nat.gcd x1.natAbs x2.natAbs:Nat):Int)) (hb1:=by first|rfl|assumption|omega|(rw [Big.zba];omega)|(decide +kernel)) (hb2:=by first|rfl|assumption|omega|(rw [Big.zba];omega)|(decide +kernel)) (hy:=by first|rfl|assumption|omega|(rw [Big.zba];omega)|(decide +kernel))) (.c (j:=5) rfl (.c (j:=2) rfl .n)) ?_
  rintro ⟨w311,w412⟩ -
  dsimp only [List.append_eq,List.nil_append,List.cons_append]
  refine r_pv rfl rfl (zd rfl)<|r_pv rfl rfl (zy rfl rfl)<|r_pv rfl rfl (zy rfl rfl)<|r_pv rfl rfl (zy rfl rfl)<|zK rfl rfl (zq zr42 rfl) (fun b13=> ?_)
  refine zK rfl rfl (zq zr42 rfl) (fun b14=> ?_)
  refine zn 1 rfl rfl rfl rfl rfl sz42 rfl (.take (.take .nil)) (.s .z)<|zn 0 rfl rfl rfl rfl rfl sz42 rfl (.take (.take .nil)) .z<|r_pv rfl rfl (zh rfl)<|zl<|zg<|zk<|zc<|r_u rfl rfl (ze 3 ty42 rfl rfl (.take (.take .nil)))<|r_u rfl rfl (ze 1 ty42 rfl rfl (.take (.take .nil)))<|r_pv rfl rfl (zw zr44 rfl Tryz.underlying44 (.c sz42 (.c sz42 .n)) (.c rfl (.c rfl .n)) (.c rfl rfl rfl (.take (.take .nil)) (.c rfl rfl rfl (.skip (.skip (.take (.take .nil)))) .n)))<|zn 5 rfl rfl rfl rfl rfl sz44 rfl (.take (.take (.take (.take .nil)))) (.s (.s (.s (.s (.s .z)))))<|zl<|zg<|zT<|zQa (qF true w37 w311 (Rat.divInt x1 x2)) (qF_close 2 0 rfl rfl (by exact ⟨hr1,hr2,Nat.le_trans (Big.hq_divInt hd) (by omega)⟩)) ?_
  exact zO Tryz.results58 (w37,w311) trivial (zu 5 ty44 rfl rfl (.take (.take (.take (.take .nil))))) rfl (ho:=(.n:PickO _ _ _)) ((.c (j:=0) rfl .n):SelR _ _ _)
 ·
  have hs:0<x2:=by rcases Big.sign_le (x:=x2) with h|h|h <;> omega
  have hgp:=Big.gcd_pos_right (n:=x1) (d:=x2) (by omega)
  have hgl:=Big.zGd (n:=x1) (d:=x2) (by omega)
  obtain ⟨hr1,hr2⟩:=Big.red_pos (n:=x1) hs
  refine zE<|zg<|zk<|zc<|r_u rfl rfl (ze 3 ty42 rfl rfl (.take (.take .nil)))<|r_u rfl rfl (ze 0 ty42 rfl rfl (.take (.take .nil)))<|zJ rfl rfl (.c rfl (.c rfl .n)) ce89 (zBb (w1:=w1) (w2:=w34) (x1:=x1) (x2:=((Nat.gcd x1.natAbs x2.natAbs:Nat):Int)) (hb1:=by first|rfl|assumption|omega|(rw [Big.zba];omega)|(decide +kernel)) (hb2:=by first|rfl|assumption|omega|(rw [Big.zba];omega)|(decide +kernel)) (hy:=by first|rfl|assumption|omega|(rw [Big.zba];omega)|(decide +kernel))) (.c (j:=1) rfl (.c (j:=0) rfl .n)) ?_
  rintro ⟨w315,w416⟩ -
  dsimp only [List.append_eq,List.nil_append,List.cons_append]
  refine r_pv rfl rfl (zd rfl)<|r_pv rfl rfl (zy rfl rfl)<|r_pv rfl rfl (zy rfl rfl)<|r_pv rfl rfl (zy rfl rfl)<|zK rfl rfl (zq zr42 rfl) (fun b17=> ?_)
  refine zK rfl rfl (zq zr42 rfl) (fun b18=> ?_)
  refine zn 1 rfl rfl rfl rfl rfl sz42 rfl (.take (.take .nil)) (.s .z)<|zn 0 rfl rfl rfl rfl rfl sz42 rfl (.take (.take .nil)) .z<|r_pv rfl rfl (zh rfl)<|zl<|zg<|zk<|zc<|r_u rfl rfl (ze 4 ty42 rfl rfl (.take (.take .nil)))<|r_u rfl rfl (ze 2 ty42 rfl rfl (.take (.take .nil)))<|zJ rfl rfl (.c rfl (.c rfl .n)) ce89 (zBb (w1:=w2) (w2:=w34) (x1:=x2) (x2:=((Nat.gcd x1.natAbs x2.natAbs:Nat):Int)) (hb1:=by first|rfl|assumption|omega|(rw [Big.zba];omega)|(decide +kernel)) (hb2:=by first|rfl|assumption|omega|(rw [Big.zba];omega)|(decide +kernel)) (hy:=by first|rfl|assumption|omega|(rw [Big.zba];omega)|(decide +kernel))) (.c (j:=4) rfl (.c (j:=2) rfl .n)) ?_
  rintro ⟨w319,w420⟩ -
  dsimp only [List.append_eq,List.nil_append,List.cons_append]
  refine r_pv rfl rfl (zd rfl)<|r_pv rfl rfl (zy rfl rfl)<|r_pv rfl rfl (zy rfl rfl)<|r_pv rfl rfl (zy rfl rfl)<|zK rfl rfl (zq zr42 rfl) (fun b21=> ?_)
  refine zK rfl rfl (zq zr42 rfl) (fun b22=> ?_)
  refine zn 1 rfl rfl rfl rfl rfl sz42 rfl (.take (.take .nil)) (.s .z)<|zn 0 rfl rfl rfl rfl rfl sz42 rfl (.take (.take .nil)) .z<|r_pv rfl rfl (zh rfl)<|zl<|zg<|zk<|zc<|r_u rfl rfl (ze 3 ty42 rfl rfl (.take (.take .nil)))<|r_u rfl rfl (ze 1 ty42 rfl rfl (.take (.take .nil)))<|r_pv rfl rfl (zw zr44 rfl Tryz.underlying44 (.c sz42 (.c sz42 .n)) (.c rfl (.c rfl .n)) (.c rfl rfl rfl (.take (.take .nil)) (.c rfl rfl rfl (.skip (.skip (.take (.take .nil)))) .n)))<|zn 5 rfl rfl rfl rfl rfl sz44 rfl (.take (.take (.take (.take .nil)))) (.s (.s (.s (.s (.s .z)))))<|zl<|zg<|zT<|zQa (qF true w315 w319 (Rat.divInt x1 x2)) (qF_close 2 0 rfl rfl (by exact ⟨hr1,hr2,Nat.le_trans (Big.hq_divInt hd) (by omega)⟩)) ?_
  exact zO Tryz.results58 (w315,w319) trivial (zu 5 ty44 rfl rfl (.take (.take (.take (.take .nil))))) rfl (ho:=(.n:PickO _ _ _)) ((.c (j:=0) rfl .n):SelR _ _ _)
theorem ztf {w1:Wd} {w2:Wd} {x1:Int} {x2:Int} (hl1:Big.ln x1≤1048576) (hl2:Big.ln x2≤1048576):Con Tryz.prog 72 [.agg #[w1.b,w1.l],.agg #[w2.b,w2.l]] [] [zF w1 x1,zF w2 x2] (Y:=Wd×Wd) (fun y=>True) (fun y=> .tuple #[.agg #[y.1.b,y.1.l,y.2.b,y.2.l],.int .i64 (if x2=0 then 14 else 0)]) (fun y=>[]) (fun y=>[qF (decide (x2≠0)) y.1 y.2 (Rat.divInt x1 x2)]):=by
 refine zA Tryz.func72 rfl rfl rfl (fun c=> ?_)
 show RunC _ _ _ _ _ [(0,.agg #[w1.b,w1.l]),(1,.agg #[w2.b,w2.l])] [] [zF w1 x1,zF w2 x2]
 refine zk<|zc<|zK rfl rfl (zfa rfl rfl) (fun b1=> ?_)
 refine zK rfl rfl (zfa rfl rfl) (fun b2=> ?_)
 refine zK rfl rfl (zq zr44 rfl) (fun b3=> ?_)
 refine r_pv rfl rfl (zh rfl)<|zl<|zg<|zk<|zk<|zc<|r_u rfl rfl (ze 1 ty42 rfl rfl (.take (.take .nil)))<|zX rfl rfl (.c rfl .n) ce66 (zzc (w1:=w2) (x1:=x2) (hln:=by first|rfl|assumption|omega|(rw [Big.zba];omega)|(decide +kernel))) (.c (j:=1) rfl .n)<|r_pv rfl rfl (zMa rfl rfl)<|zl<|zg<|zV rfl (fun hz0=> ?_) (fun hz0=> ?_)
 ·
  have hx0:x2=0:=Big.sign_zero.1 hz0
  refine zk<|zc<|r_pv rfl rfl (zw zr44 rfl Tryz.underlying44 (.c sz42 (.c sz42 .n)) .n .n)<|zn 0 rfl rfl rfl rfl rfl sz44 rfl (.take (.take (.take (.take .nil)))) .z<|r_pv rfl rfl (zh rfl)<|zl<|zg<|zT<|zx<|zQa (qF false wz wz 0) (fun g _=>qF_none g) ?_
  exact zDa Tryz.results72 (wz,wz) trivial (zu 0 ty44 rfl rfl (.take (.take (.take (.take .nil))))) (zG rfl) (by rw [if_pos hx0];rfl) (ho:=(.n:PickO _ _ _)) ((.e (j:=0) rfl (by rw [Big.divInt_nil hx0,decide_eq_false (not_not_intro hx0)]) .n):SelR _ _ _)
 ·
  have hx0:x2≠0:=fun e=>hz0 (Big.sign_zero.2 e)
  refine zE<|zg<|zk<|zc<|r_u rfl rfl (ze 2 ty42 rfl rfl (.take (.take .nil)))<|r_u rfl rfl (ze 1 ty42 rfl rfl (.take (.take .nil)))<|zJ rfl rfl (.c rfl (.c rfl .n)) ce58 (zIc (w1:=w1) (w2:=w2) (x1:=x1) (x2:=x2) (hl1:=by assumption) (hl2:=by assumption) (hd:=by first|rfl|assumption|omega|(rw [Big.zba];omega)|(decide +kernel))) (.c (j:=0) rfl (.c (j:=1) rfl .n)) ?_
  rintro ⟨w34,w45⟩ -
  dsimp only [List.append_eq,List.nil_append,List.cons_append]
  refine zn 0 rfl rfl rfl rfl rfl sz44 rfl (.take (.take (.take (.take .nil)))) .z<|r_pv rfl rfl (zh rfl)<|zl<|zg<|zT ?_
  exact zDa Tryz.results72 (w34,w45) trivial (zu 0 ty44 rfl rfl (.take (.take (.take (.take .nil))))) (zG rfl) (by rw [if_neg hx0]) (ho:=(.n:PickO _ _ _)) ((.e (j:=0) rfl (by rw [decide_eq_true hx0]) .n):SelR _ _ _)
theorem zuf {z1:Int} {z2:Int} (hz1: -9223372036854775808≤z1∧z1≤9223372036854775807) (hz2: -9223372036854775808≤z2∧z2≤9223372036854775807):Con Tryz.prog 41 [.int .i64 z1,.int .i64 z2] [] [] (Y:=Wd×Wd) (fun y=>True) (fun y=> .tuple #[.agg #[y.1.b,y.1.l,y.2.b,y.2.l],.int .i64 (if z2=0 then 14 else 0)]) (fun y=>[]) (fun y=>[qF (decide (z2≠0)) y.1 y.2 (Rat.divInt z1 z2)]):=by
 refine zA Tryz.func41 rfl rfl rfl (fun c=> ?_)
 show RunC _ _ _ _ _ [(0,.int .i64 z1),(1,.int .i64 z2)] [] []
 have g1:=Big.zJe hz1.1 hz1.2
 have g2:=Big.zJe hz2.1 hz2.2
 refine zk<|zc<|zK rfl rfl (zq zr44 rfl) (fun b1=> ?_)
 refine r_pv rfl rfl (zh rfl)<|zl<|zg<|zk<|zc<|r_pv rfl rfl (zd rfl)<|zJ rfl rfl (.c rfl .n) ce56 (zMb (z:=z1) (hz:=by assumption)) (.n) ?_
 rintro w32 -
 dsimp only [List.append_eq,List.nil_append,List.cons_append]
 refine r_pv rfl rfl (zd rfl)<|zJ rfl rfl (.c rfl .n) ce56 (zMb (z:=z2) (hz:=by assumption)) (.n) ?_
 rintro w33 -
 dsimp only [List.append_eq,List.nil_append,List.cons_append]
 refine zJ rfl rfl (.c rfl (.c rfl .n)) ce72 (ztf (w1:=w32) (w2:=w33) (x1:=z1) (x2:=z2) (hl1:=by first|rfl|assumption|omega|(rw [Big.zba];omega)|(decide +kernel)) (hl2:=by first|rfl|assumption|omega|(rw [Big.zba];omega)|(decide +kernel))) (.c (j:=1) rfl (.c (j:=0) rfl .n)) ?_
 rintro ⟨w34,w45⟩ -
 dsimp only [List.append_eq,List.nil_append,List.cons_append]
 refine r_pv rfl rfl (zy rfl rfl)<|r_pv rfl rfl (zy rfl rfl)<|zn 0 rfl rfl rfl rfl rfl sz44 rfl (.take (.take (.take (.take .nil)))) .z<|r_pv rfl rfl (zh rfl)<|zl<|zg<|zT ?_
 exact zDa Tryz.results41 (w34,w45) trivial (zu 0 ty44 rfl rfl (.take (.take (.take (.take .nil))))) (zG rfl) rfl (ho:=(.n:PickO _ _ _)) ((.c (j:=0) rfl .n):SelR _ _ _)
theorem zxe {z1:Int} {z2:Int} (hz1: -9223372036854775808≤z1∧z1≤9223372036854775807) (hz2: -9223372036854775808≤z2∧z2≤9223372036854775807) (hy:z2≠0):Con Tryz.prog 41 [.int .i64 (z1),.int .i64 (z2)] [] [] (Y:=(Wd)×(Wd)) (fun y=>True) (fun y=> .tuple #[.agg #[y.1.b,y.1.l,y.2.b,y.2.l],.int .i64 (0)]) (fun y=>[]) (fun y=>[qF true y.1 y.2 (Rat.divInt z1 z2)]):=by
  have h:=zuf hz1 hz2
  rw [if_neg hy,decide_eq_true hy] at h
  exact h
theorem zye {k1:Bool} {u1:Wd} {v1:Wd} {q1:Rat} (hl:Big.hq q1≤1048576):Con Tryz.prog 53 [.agg #[u1.b,u1.l,v1.b,v1.l]] [] [qF k1 u1 v1 q1] (Y:=Unit) (fun y=>True) (fun y=> .int .i64 (Big.sgq q1)) (fun y=>[]) (fun y=>[]):=by
 refine zA Tryz.func53 rfl rfl rfl (fun c=> ?_)
 show RunC _ _ _ _ _ [(0,.agg #[u1.b,u1.l,v1.b,v1.l])] [] [qF k1 u1 v1 q1]
 have a1:=Big.hq_num q1
 have a2:=Big.hq_den q1
 refine zk<|zc<|zK rfl rfl (zfa rfl rfl) (fun b1=> ?_)
 refine r_pv rfl rfl (zh rfl)<|zl<|zg<|zk<|zc<|r_u rfl rfl (ze 0 ty44 rfl rfl (.take (.take (.take (.take .nil)))))<|zJ rfl rfl (.c rfl .n) ce57 (zCb (k1:=k1) (u1:=u1) (v1:=v1) (q1:=q1)) (.c (j:=0) rfl .n) ?_
 rintro ⟨w32,w43⟩ -
 dsimp only [List.append_eq,List.nil_append,List.cons_append]
 refine r_pv rfl rfl (zDc Tryz.underlying44 rfl ty42 rfl (.take (.take .nil)))<|zBc (qF_open 0 rfl) (fun _ _=> ?_)
 refine zX rfl rfl (.c rfl .n) ce66 (zzc (w1:=w32) (x1:=(q1).num) (hln:=by first|rfl|assumption|omega|(rw [Big.zba];omega)|(decide +kernel))) (.c (j:=0) rfl .n)<|r_pv rfl rfl (zh rfl)<|zl<|zg<|zT ?_
 exact zO Tryz.results53 () trivial (zG rfl) rfl (ho:=(.n:PickO _ _ _)) (.n:SelR _ _ _)
theorem zZe {k1:Bool} {u1:Wd} {v1:Wd} {q1:Rat} (hl:Big.hq q1≤1048576):Con Tryz.prog 62 [.agg #[u1.b,u1.l,v1.b,v1.l]] [] [qF k1 u1 v1 q1] (Y:=Wd×Wd) (fun y=>True) (fun y=> .agg #[y.1.b,y.1.l,y.2.b,y.2.l]) (fun y=>[]) (fun y=>[qF true y.1 y.2 (- q1)]):=by
 refine zA Tryz.func62 rfl rfl rfl (fun c=> ?_)
 show RunC _ _ _ _ _ [(0,.agg #[u1.b,u1.l,v1.b,v1.l])] [] [qF k1 u1 v1 q1]
 have a1:=Big.hq_num q1
 have a2:=Big.hq_den q1
 refine zk<|zc<|zK rfl rfl (zfa rfl rfl) (fun b1=> ?_)
 refine zK rfl rfl (zq zr44 rfl) (fun b2=> ?_)
 refine zl<|zg<|zk<|zc<|r_u rfl rfl (ze 1 ty44 rfl rfl (.take (.take (.take (.take .nil)))))<|zJ rfl rfl (.c rfl .n) ce57 (zCb (k1:=k1) (u1:=u1) (v1:=v1) (q1:=q1)) (.c (j:=0) rfl .n) ?_
 rintro ⟨w33,w44⟩ -
 dsimp only [List.append_eq,List.nil_append,List.cons_append]
 refine zK rfl rfl (zq zr44 rfl) (fun b5=> ?_)
 refine zn 0 rfl rfl rfl rfl rfl sz44 rfl (.take (.take (.take (.take .nil)))) .z<|zl<|zg<|zk<|zea (.c (i:=1) rfl (.c (i:=0) rfl (.c (i:=0) rfl .n)))<|zS (OW:=[boxA b2 44 [.bool false,.slice none 0 0,.bool false,.slice none 0 0]]) (O:=[boxA b5 44 [w33.b,w33.l,w44.b,w44.l],boxA b1 44 [u1.b,u1.l,v1.b,v1.l]]) 6 mixed (.then .ret) (by kernel_rfl)<|d_pv 0 rfl rfl (by kernel_rfl) (by kernel_rfl) rfl rfl (zi Tryz.underlying44 rfl sz42 rfl rfl)<|d_uw 1 rfl rfl (by kernel_rfl) (by kernel_rfl) (by kernel_rfl) rfl rfl (ze 1 ty42 rfl rfl (.take (.take .nil)))<|d_pv 3 rfl rfl (by kernel_rfl) (by kernel_rfl) rfl rfl (zi Tryz.underlying44 rfl sz42 rfl rfl)<|d_uw 4 rfl rfl (by kernel_rfl) (by kernel_rfl) (by kernel_rfl) rfl rfl (ze 1 ty42 rfl rfl (.skip (.skip (.take (.take .nil)))))<|zic (qF_open 0 rfl) (fun _ _=> ?_)
 refine zt 2 (by kernel_rfl) (zo rfl rfl rfl rfl (.c rfl .n) ce88 (zNd (w1:=w33) (x1:=(q1).num) (hln:=by first|rfl|assumption|omega|(rw [Big.zba];omega)|(decide +kernel))) (.c (j:=0) rfl .n) ?_)
 rintro w36 -
 dsimp only [List.append_eq,List.nil_append,List.cons_append]
 refine d_pv 5 rfl rfl (by kernel_rfl) (by kernel_rfl) rfl rfl (zw zr44 rfl Tryz.underlying44 (.c sz42 (.c sz42 .n)) (.c rfl (.c rfl .n)) (.c rfl rfl rfl (.take (.take .nil)) (.c rfl rfl rfl (.skip (.skip (.take (.take .nil)))) .n)))<|zt 6 (by kernel_rfl) (zr (by kernel_rfl) rfl rfl rfl rfl rfl sz44 rfl (.take (.take (.take (.take .nil)))) ?_)
 refine zR (by kernel_rfl)<|zg<|zT<|zQa (qF true w36 w44 (- q1)) (qF_close 0 2 rfl rfl (by exact ⟨(Rat.neg_num q1).symm,by rw [Rat.neg_den],by rw [Big.hq_neg];exact hl⟩)) ?_
 exact zO Tryz.results62 (w36,w44) trivial (zu 0 ty44 rfl rfl (.take (.take (.take (.take .nil))))) rfl (ho:=(.n:PickO _ _ _)) ((.c (j:=0) rfl .n):SelR _ _ _)
theorem zaf {k1:Bool} {u1:Wd} {v1:Wd} {q1:Rat} {k2:Bool} {u2:Wd} {v2:Wd} {q2:Rat} (hl:Big.hq q1+Big.hq q2+1≤1048576):Con Tryz.prog 25 [.agg #[u1.b,u1.l,v1.b,v1.l],.agg #[u2.b,u2.l,v2.b,v2.l]] [] [qF k1 u1 v1 q1,qF k2 u2 v2 q2] (Y:=Wd×Wd) (fun y=>True) (fun y=> .agg #[y.1.b,y.1.l,y.2.b,y.2.l]) (fun y=>[]) (fun y=>[qF true y.1 y.2 (q1+q2)]):=by
 refine zA Tryz.func25 rfl rfl rfl (fun c=> ?_)
 show RunC _ _ _ _ _ [(0,.agg #[u1.b,u1.l,v1.b,v1.l]),(1,.agg #[u2.b,u2.l,v2.b,v2.l])] [] [qF k1 u1 v1 q1,qF k2 u2 v2 q2]
 have a1:=Big.hq_num q1
 have a2:=Big.hq_den q1
 have a3:=Big.hq_num q2
 have a4:=Big.hq_den q2
 have b1:=Big.zcb q1.num q2.den
 have b2:=Big.zcb q2.num q1.den
 have b3:=Big.zgd (q1.num*q2.den) (q2.num*q1.den)
 have b4:=Big.zcb (q1.den:Int) q2.den
 have b5:=Big.zcb q1.num q2.num
 refine zk<|zc<|zK rfl rfl (zfa rfl rfl) (fun b1=> ?_)
 refine zK rfl rfl (zfa rfl rfl) (fun b2=> ?_)
 refine zK rfl rfl (zq zr44 rfl) (fun b3=> ?_)
 refine zl<|zg<|zk<|zc<|r_u rfl rfl (ze 2 ty44 rfl rfl (.take (.take (.take (.take .nil)))))<|zJ rfl rfl (.c rfl .n) ce57 (zCb (k1:=k1) (u1:=u1) (v1:=v1) (q1:=q1)) (.c (j:=0) rfl .n) ?_
 rintro ⟨w34,w45⟩ -
 dsimp only [List.append_eq,List.nil_append,List.cons_append]
 refine zK rfl rfl (zq zr44 rfl) (fun b6=> ?_)
 refine zn 0 rfl rfl rfl rfl rfl sz44 rfl (.take (.take (.take (.take .nil)))) .z<|zl<|zg<|zk<|zc<|r_u rfl rfl (ze 2 ty44 rfl rfl (.take (.take (.take (.take .nil)))))<|zJ rfl rfl (.c rfl .n) ce57 (zCb (k1:=k2) (u1:=u2) (v1:=v2) (q1:=q2)) (.c (j:=2) rfl .n) ?_
 rintro ⟨w37,w48⟩ -
 dsimp only [List.append_eq,List.nil_append,List.cons_append]
 refine zK rfl rfl (zq zr44 rfl) (fun b9=> ?_)
 refine zn 0 rfl rfl rfl rfl rfl sz44 rfl (.take (.take (.take (.take .nil)))) .z<|zl<|zg<|zk<|zea (.c (i:=2) rfl (.c (i:=0) rfl (.c (i:=0) rfl (.c (i:=0) rfl (.c (i:=0) rfl .n)))))<|zS (OW:=[boxA b3 44 [.bool false,.slice none 0 0,.bool false,.slice none 0 0]]) (O:=[boxA b9 44 [w37.b,w37.l,w48.b,w48.l],boxA b6 44 [w34.b,w34.l,w45.b,w45.l],boxA b2 44 [u2.b,u2.l,v2.b,v2.l],boxA b1 44 [u1.b,u1.l,v1.b,v1.l]]) 17 mixed (.then .ret) (by kernel_rfl)<|d_pv 0 rfl rfl (by kernel_rfl) (by kernel_rfl) rfl rfl (zi Tryz.underlying44 rfl sz42 rfl rfl)<|d_uw 1 rfl rfl (by kernel_rfl) (by kernel_rfl) (by kernel_rfl) rfl rfl (ze 2 ty42 rfl rfl (.take (.take .nil)))<|d_pv 2 rfl rfl (by kernel_rfl) (by kernel_rfl) rfl rfl (zi Tryz.underlying44 rfl sz42 rfl rfl)<|d_uw 3 rfl rfl (by kernel_rfl) (by kernel_rfl) (by kernel_rfl) rfl rfl (ze 1 ty42 rfl rfl (.skip (.skip (.take (.take .nil)))))<|d_pv 5 rfl rfl (by kernel_rfl) (by kernel_rfl) rfl rfl (zi Tryz.underlying44 rfl sz42 rfl rfl)<|d_uw 6 rfl rfl (by kernel_rfl) (by kernel_rfl) (by kernel_rfl) rfl rfl (ze 1 ty42 rfl rfl (.take (.take .nil)))<|d_pv 7 rfl rfl (by kernel_rfl) (by kernel_rfl) rfl rfl (zi Tryz.underlying44 rfl sz42 rfl rfl)<|d_uw 8 rfl rfl (by kernel_rfl) (by kernel_rfl) (by kernel_rfl) rfl rfl (ze 2 ty42 rfl rfl (.skip (.skip (.take (.take .nil)))))<|d_pv 11 rfl rfl (by kernel_rfl) (by kernel_rfl) rfl rfl (zi Tryz.underlying44 rfl sz42 rfl rfl)<|d_uw 12 rfl rfl (by kernel_rfl) (by kernel_rfl) (by kernel_rfl) rfl rfl (ze 2 ty42 rfl rfl (.skip (.skip (.take (.take .nil)))))<|d_pv 13 rfl rfl (by kernel_rfl) (by kernel_rfl) rfl rfl (zi Tryz.underlying44 rfl sz42 rfl rfl)<|d_uw 14 rfl rfl (by kernel_rfl) (by kernel_rfl) (by kernel_rfl) rfl rfl (ze 1 ty42 rfl rfl (.skip (.skip (.take (.take .nil)))))<|zic (qF_open 1 rfl) (fun _ _=> ?_)
 refine zic (qF_open 2 rfl) (fun _ _=> ?_)
 refine zt 4 (by kernel_rfl) (zo rfl rfl rfl rfl (.c rfl (.c rfl .n)) ce60 (zXc (w1:=w34) (w2:=w48) (x1:=(q1).num) (x2:=(((q2).den:Nat):Int)) (hb1:=by first|rfl|assumption|omega|(rw [Big.zba];omega)|(decide +kernel)) (hb2:=by first|rfl|assumption|omega|(rw [Big.zba];omega)|(decide +kernel))) (.c (j:=2) rfl (.c (j:=1) rfl .n)) ?_)
 rintro w310 -
 dsimp only [List.append_eq,List.nil_append,List.cons_append]
 refine zt 9 (by kernel_rfl) (zo rfl rfl rfl rfl (.c rfl (.c rfl .n)) ce60 (zXc (w1:=w37) (w2:=w45) (x1:=(q2).num) (x2:=(((q1).den:Nat):Int)) (hb1:=by first|rfl|assumption|omega|(rw [Big.zba];omega)|(decide +kernel)) (hb2:=by first|rfl|assumption|omega|(rw [Big.zba];omega)|(decide +kernel))) (.c (j:=1) rfl (.c (j:=4) rfl .n)) ?_)
 rintro w311 -
 dsimp only [List.append_eq,List.nil_append,List.cons_append]
 refine zt 10 (by kernel_rfl) (zo rfl rfl rfl rfl (.c rfl (.c rfl .n)) ce59 (zWe (w1:=w310) (w2:=w311) (x1:=((q1).num)*(((q2).den:Nat):Int)) (x2:=((q2).num)*(((q1).den:Nat):Int)) (hb1:=by first|rfl|assumption|omega|(rw [Big.zba];omega)|(decide +kernel)) (hb2:=by first|rfl|assumption|omega|(rw [Big.zba];omega)|(decide +kernel))) (.c (j:=1) rfl (.c (j:=0) rfl .n)) ?_)
 rintro w312 -
 dsimp only [List.append_eq,List.nil_append,List.cons_append]
 refine zt 15 (by kernel_rfl) (zo rfl rfl rfl rfl (.c rfl (.c rfl .n)) ce60 (zXc (w1:=w45) (w2:=w48) (x1:=(((q1).den:Nat):Int)) (x2:=(((q2).den:Nat):Int)) (hb1:=by first|rfl|assumption|omega|(rw [Big.zba];omega)|(decide +kernel)) (hb2:=by first|rfl|assumption|omega|(rw [Big.zba];omega)|(decide +kernel))) (.c (j:=6) rfl (.c (j:=4) rfl .n)) ?_)
 rintro w313 -
 dsimp only [List.append_eq,List.nil_append,List.cons_append]
 refine zt 16 (by kernel_rfl) (zo rfl rfl rfl rfl (.c rfl (.c rfl .n)) ce58 (zIc (w1:=w312) (w2:=w313) (x1:=(((q1).num)*(((q2).den:Nat):Int))+(((q2).num)*(((q1).den:Nat):Int))) (x2:=(((q1).den:Nat):Int)*(((q2).den:Nat):Int)) (hl1:=by first|rfl|assumption|omega|(rw [Big.zba];omega)|(decide +kernel)) (hl2:=by first|rfl|assumption|omega|(rw [Big.zba];omega)|(decide +kernel)) (hd:=by exact Int.mul_ne_zero (Big.den_ne q1) (Big.den_ne q2))) (.c (j:=1) rfl (.c (j:=0) rfl .n)) ?_)
 rintro ⟨w314,w415⟩ -
 dsimp only [List.append_eq,List.nil_append,List.cons_append]
 refine zt 17 (by kernel_rfl) (zr (by kernel_rfl) rfl rfl rfl rfl rfl sz44 rfl (.take (.take (.take (.take .nil)))) ?_)
 refine zR (by kernel_rfl)<|zg<|zT ?_
 exact zO Tryz.results25 (w314,w415) trivial (zu 0 ty44 rfl rfl (.take (.take (.take (.take .nil))))) rfl (ho:=(.n:PickO _ _ _)) ((.e (j:=0) rfl (by rw [Big.add_parts]) .n):SelR _ _ _)
theorem zxb {k1:Bool} {u1:Wd} {v1:Wd} {q1:Rat} {k2:Bool} {u2:Wd} {v2:Wd} {q2:Rat} (hl:Big.hq q1+Big.hq q2+1≤1048576):Con Tryz.prog 28 [.agg #[u1.b,u1.l,v1.b,v1.l],.agg #[u2.b,u2.l,v2.b,v2.l]] [] [qF k1 u1 v1 q1,qF k2 u2 v2 q2] (Y:=Wd×Wd) (fun y=>True) (fun y=> .agg #[y.1.b,y.1.l,y.2.b,y.2.l]) (fun y=>[]) (fun y=>[qF true y.1 y.2 (q1 - q2)]):=by
 refine zA Tryz.func28 rfl rfl rfl (fun c=> ?_)
 show RunC _ _ _ _ _ [(0,.agg #[u1.b,u1.l,v1.b,v1.l]),(1,.agg #[u2.b,u2.l,v2.b,v2.l])] [] [qF k1 u1 v1 q1,qF k2 u2 v2 q2]
 have a1:=Big.hq_num q1
 have a2:=Big.hq_den q1
 have a3:=Big.hq_num q2
 have a4:=Big.hq_den q2
 refine zk<|zc<|zK rfl rfl (zfa rfl rfl) (fun b1=> ?_)
 refine zK rfl rfl (zfa rfl rfl) (fun b2=> ?_)
 refine zK rfl rfl (zq zr44 rfl) (fun b3=> ?_)
 refine zl<|zg<|zk<|zS (OW:=[boxA b3 44 [.bool false,.slice none 0 0,.bool false,.slice none 0 0]]) (O:=[boxA b2 44 [u2.b,u2.l,v2.b,v2.l],boxA b1 44 [u1.b,u1.l,v1.b,v1.l]]) 4 mixed (.then .ret) (by kernel_rfl)<|d_uw 0 rfl rfl (by kernel_rfl) (by kernel_rfl) (by kernel_rfl) rfl rfl (ze 2 ty44 rfl rfl (.take (.take (.take (.take .nil)))))<|d_uw 1 rfl rfl (by kernel_rfl) (by kernel_rfl) (by kernel_rfl) rfl rfl (ze 1 ty44 rfl rfl (.take (.take (.take (.take .nil)))))<|zt 2 (by kernel_rfl) (zo rfl rfl rfl rfl (.c rfl .n) ce62 (zZe (k1:=k2) (u1:=u2) (v1:=v2) (q1:=q2) (hl:=by first|rfl|assumption|omega|(rw [Big.zba];omega)|(decide +kernel)|(rw [Big.hq_neg];omega))) (.c (j:=1) rfl .n) ?_)
 rintro ⟨w34,w45⟩ -
 dsimp only [List.append_eq,List.nil_append,List.cons_append]
 refine zt 3 (by kernel_rfl) (zo rfl rfl rfl rfl (.c rfl (.c rfl .n)) ce25 (zaf (k1:=k1) (u1:=u1) (v1:=v1) (q1:=q1) (k2:=true) (u2:=w34) (v2:=w45) (q2:= - q2) (hl:=by first|rfl|assumption|omega|(rw [Big.zba];omega)|(decide +kernel)|(rw [Big.hq_neg];omega))) (.c (j:=1) rfl (.c (j:=0) rfl .n)) ?_)
 rintro ⟨w36,w47⟩ -
 dsimp only [List.append_eq,List.nil_append,List.cons_append]
 refine zt 4 (by kernel_rfl) (zr (by kernel_rfl) rfl rfl rfl rfl rfl sz44 rfl (.take (.take (.take (.take .nil)))) ?_)
 refine zR (by kernel_rfl)<|zg<|zT ?_
 exact zO Tryz.results28 (w36,w47) trivial (zu 0 ty44 rfl rfl (.take (.take (.take (.take .nil))))) rfl (ho:=(.n:PickO _ _ _)) ((.e (j:=0) rfl (by rw [Rat.sub_eq_add_neg]) .n):SelR _ _ _)
theorem zxd {k1:Bool} {u1:Wd} {v1:Wd} {q1:Rat} {k2:Bool} {u2:Wd} {v2:Wd} {q2:Rat} (hl:Big.hq q1+Big.hq q2+1≤1048576):Con Tryz.prog 38 [.agg #[u1.b,u1.l,v1.b,v1.l],.agg #[u2.b,u2.l,v2.b,v2.l]] [] [qF k1 u1 v1 q1,qF k2 u2 v2 q2] (Y:=Unit) (fun y=>True) (fun y=> .int .i64 (Big.sgq (q1 - q2))) (fun y=>[]) (fun y=>[]):=by
 refine zA Tryz.func38 rfl rfl rfl (fun c=> ?_)
 show RunC _ _ _ _ _ [(0,.agg #[u1.b,u1.l,v1.b,v1.l]),(1,.agg #[u2.b,u2.l,v2.b,v2.l])] [] [qF k1 u1 v1 q1,qF k2 u2 v2 q2]
 have hsb:=Big.hq_sub q1 q2
 refine zk<|zc<|zK rfl rfl (zfa rfl rfl) (fun b1=> ?_)
 refine zK rfl rfl (zfa rfl rfl) (fun b2=> ?_)
 refine r_pv rfl rfl (zh rfl)<|zl<|zg<|zk<|zc<|r_u rfl rfl (ze 1 ty44 rfl rfl (.take (.take (.take (.take .nil)))))<|r_u rfl rfl (ze 0 ty44 rfl rfl (.take (.take (.take (.take .nil)))))<|zJ rfl rfl (.c rfl (.c rfl .n)) ce28 (zxb (k1:=k1) (u1:=u1) (v1:=v1) (q1:=q1) (k2:=k2) (u2:=u2) (v2:=v2) (q2:=q2) (hl:=by assumption)) (.c (j:=0) rfl (.c (j:=1) rfl .n)) ?_
 rintro ⟨w33,w44⟩ -
 dsimp only [List.append_eq,List.nil_append,List.cons_append]
 refine zX rfl rfl (.c rfl .n) ce53 (zye (k1:=true) (u1:=w33) (v1:=w44) (q1:=q1 - q2) (hl:=by first|rfl|assumption|omega|(rw [Big.zba];omega)|(decide +kernel))) (.c (j:=0) rfl .n)<|r_pv rfl rfl (zh rfl)<|zl<|zg<|zT ?_
 exact zO Tryz.results38 () trivial (zG rfl) rfl (ho:=(.n:PickO _ _ _)) (.n:SelR _ _ _)
theorem zEb {u1:Wd} {v1:Wd} {q1:Rat} {u2:Wd} {v2:Wd} {q2:Rat} (hl:Big.hq q1+Big.hq q2+1≤1048576):Con Tryz.prog 27 [.agg #[u1.b,u1.l,v1.b,v1.l],.agg #[u2.b,u2.l,v2.b,v2.l]] [] [qF true u1 v1 q1,qF true u2 v2 q2] (Y:=Unit) (fun y=>True) (fun y=> .bool (decide (q1=q2))) (fun y=>[]) (fun y=>[]):=by
 refine zA Tryz.func27 rfl rfl rfl (fun c=> ?_)
 show RunC _ _ _ _ _ [(0,.agg #[u1.b,u1.l,v1.b,v1.l]),(1,.agg #[u2.b,u2.l,v2.b,v2.l])] [] [qF true u1 v1 q1,qF true u2 v2 q2]
 refine zk<|zc<|zK rfl rfl (zfa rfl rfl) (fun b1=> ?_)
 refine zK rfl rfl (zfa rfl rfl) (fun b2=> ?_)
 refine r_pv rfl rfl (zh rfl)<|zl<|zg<|zKa (X:=Unit) (fun x=>True) (fun x=>[(4,.bool (decide (Big.sgq (q1 - q2)=0)))]) (fun x=>[boxA b2 44 (cw [u2,v2]),boxA b1 44 (cw [u1,v1])]) (fun x=>[qF true u1 v1 q1,qF true u2 v2 q2]) ?_ ?_
 ·
  refine zc<|r_u rfl rfl (ze 1 ty44 rfl rfl (.take (.take (.take (.take .nil)))))<|zX rfl rfl (.c rfl .n) ce31 (zHc (u1:=u1) (v1:=v1) (q1:=q1)) (.c (j:=0) rfl .n)<|r_pv rfl rfl (zd rfl)<|r_u rfl rfl (ze 0 ty44 rfl rfl (.take (.take (.take (.take .nil)))))<|zX rfl rfl (.c rfl .n) ce31 (zHc (u1:=u2) (v1:=v2) (q1:=q2)) (.c (j:=1) rfl .n)<|r_pv rfl rfl (zW rfl rfl)<|r_pv rfl rfl (zd rfl)<|r_u rfl rfl (ze 1 ty44 rfl rfl (.take (.take (.take (.take .nil)))))<|r_u rfl rfl (ze 0 ty44 rfl rfl (.take (.take (.take (.take .nil)))))<|zX rfl rfl (.c rfl (.c rfl .n)) ce38 (zxd (k1:=true) (u1:=u1) (v1:=v1) (q1:=q1) (k2:=true) (u2:=u2) (v2:=v2) (q2:=q2) (hl:=by assumption)) (.c (j:=0) rfl (.c (j:=1) rfl .n))<|r_pv rfl rfl (zMa rfl rfl)<|r_pv rfl rfl (zW rfl rfl)<|r_pv rfl rfl (zh rfl)<|zl ?_
  exact zoa () (show True from by first|trivial|omega|simp_all) ((.c rfl .n):SubM _ _) (ho:=((.of [0,0] rfl):PickO _ _ _)) ((.of [0,1] rfl):SelR _ _ _)
 ·
  rintro ⟨⟩ -
  try dsimp only [cw]
  refine zT ?_
  exact zO Tryz.results27 () trivial (zG rfl) (congrArg Value.bool (decide_eq_decide.2 Big.sgq_sub_zero.symm)) (ho:=(.n:PickO _ _ _)) (.n:SelR _ _ _)
end Go.Proofs.YtjeahiahjgifgaaGreatDoor.Sp
namespace Go.Proofs.YtjeahiahjgifgaaGreatDoor.Sp
open Go
set_option linter.unusedVariables false
def Wd.zz (u v:Wd):Prop:=u.s=false∧v.s=false∧u.n=0∧v.n=0
instance (u v:Wd):Decidable (Wd.zz u v):=inferInstanceAs (Decidable (_∧_))
def qo (y:Big.RQ):Option Rat:=if Big.qok y then some (Big.qv y) else none
section
variable {P : Program} {O : List As} {R : List Fa} {f : Nat} {u v : Wd}
end
end Go.Proofs.YtjeahiahjgifgaaGreatDoor.Sp
