/- Lemmas on the walk and plain lemmas that the claim of this folder uses; each states its own conditions. Lines were printed by a program of ours. -/
import Derived.Test.YtjeahiahjgifgaaGreatDoorZ5E
set_option linter.unusedVariables false
set_option linter.unusedSimpArgs false
set_option linter.unusedSectionVars false
open Go.Value renaming int → yc
open Go.IntKind renaming i64 → yd
open Go.Proofs.YtjeahiahjgifgaaGreatDoor.Sh renaming moved → ye
open Go.Proofs.Tryz renaming underlying25 → yf, underlying39 → yg, underlying23 → yh, underlying61 → yi, underlying60 → yj, underlying3 → yk, results5 → yl, underlying29 → ym, underlying27 → yn, underlying63 → yo, underlying51 → yp, underlying66 → yq, underlying46 → yr
namespace Go.Proofs.YtjeahiahjgifgaaGreatDoor.Sp
open Go
set_option linter.unusedVariables false
set_option maxRecDepth 100000
set_option maxHeartbeats 8000000
theorem zFc {s:Sh.S} {cm:Sh.C} {u:Int} {v:Int} {rr:Int} {h:Int} {ba:Int} {bb:Int} {bc:Int} (hfi: -9223372036854775808≤s.fi∧s.fi≤9223372036854775807) (hst: -9223372036854775808≤s.st∧s.st≤9223372036854775807) (hta: -9223372036854775808≤s.ta∧s.ta≤9223372036854775807) (htb: -9223372036854775808≤s.tb∧s.tb≤9223372036854775807) (hxa: -9223372036854775808≤s.xa∧s.xa≤9223372036854775807) (hya: -9223372036854775808≤s.ya∧s.ya≤9223372036854775807) (hza: -9223372036854775808≤s.za∧s.za≤9223372036854775807) (hqa: -9223372036854775808≤s.qa∧s.qa≤9223372036854775807) (hqb: -9223372036854775808≤s.qb∧s.qb≤9223372036854775807) (hqc: -9223372036854775808≤s.qc∧s.qc≤9223372036854775807) (hqd: -9223372036854775808≤s.qd∧s.qd≤9223372036854775807) (hxb: -9223372036854775808≤s.xb∧s.xb≤9223372036854775807) (hyb: -9223372036854775808≤s.yb∧s.yb≤9223372036854775807) (hzb: -9223372036854775808≤s.zb∧s.zb≤9223372036854775807) (hra: -9223372036854775808≤s.ra∧s.ra≤9223372036854775807) (hrb: -9223372036854775808≤s.rb∧s.rb≤9223372036854775807) (hrc: -9223372036854775808≤s.rc∧s.rc≤9223372036854775807) (hrd: -9223372036854775808≤s.rd∧s.rd≤9223372036854775807) (h64fo: -9223372036854775808≤cm.fo∧cm.fo≤9223372036854775807) (h64cx: -9223372036854775808≤cm.cx∧cm.cx≤9223372036854775807) (h64cy: -9223372036854775808≤cm.cy∧cm.cy≤9223372036854775807) (h64u: -9223372036854775808≤u∧u≤9223372036854775807) (h64v: -9223372036854775808≤v∧v≤9223372036854775807) (h64rr: -9223372036854775808≤rr∧rr≤9223372036854775807) (h64h: -9223372036854775808≤h∧h≤9223372036854775807) (hb1: -128≤ba∧ba≤127) (hb2: -128≤bb∧bb≤127) (hb3: -128≤bc∧bc≤127):Con Tryz.prog 5 [.agg #[yc yd (s.fi),yc yd (s.st),yc yd (s.ta),yc yd (s.xa),yc yd (s.ya),yc yd (s.za),yc yd (s.qa),yc yd (s.qb),yc yd (s.qc),yc yd (s.qd),yc yd (s.tb),yc yd (s.xb),yc yd (s.yb),yc yd (s.zb),yc yd (s.ra),yc yd (s.rb),yc yd (s.rc),yc yd (s.rd)],.agg #[yc yd (cm.fo),yc yd (cm.cx),yc yd (cm.cy),yc yd u,yc yd v,yc yd rr,yc yd h],.agg #[.int .i8 ba,.int .i8 bb,.int .i8 bc]] [] [sgF] (Y:=Unit) (fun y=>True) (fun y=> .bool true) (fun y=>[]) (fun y=>[]):=by
 refine zx Tryz.func5 rfl rfl rfl (fun c=> ?_)
 show RunC _ _ _ _ _ [(0,.agg #[yc yd (s.fi),yc yd (s.st),yc yd (s.ta),yc yd (s.xa),yc yd (s.ya),yc yd (s.za),yc yd (s.qa),yc yd (s.qb),yc yd (s.qc),yc yd (s.qd),yc yd (s.tb),yc yd (s.xb),yc yd (s.yb),yc yd (s.zb),yc yd (s.ra),yc yd (s.rb),yc yd (s.rc),yc yd (s.rd)]),(1,.agg #[yc yd (cm.fo),yc yd (cm.cx),yc yd (cm.cy),yc yd u,yc yd v,yc yd rr,yc yd h]),(2,.agg #[.int .i8 ba,.int .i8 bb,.int .i8 bc])] [] [sgF]
 have hk3:=andI_3 bc
 refine zj<|zc<|zJ rfl rfl (zda rfl rfl) (fun b1=> ?_)
 refine zJ rfl rfl (zda rfl rfl) (fun b2=> ?_)
 refine zJ rfl rfl (zda rfl rfl) (fun b3=> ?_)
 refine e_p (zh rfl)<|zk<|zf<|zj<|zj<|zc<|zV rfl rfl (.n) ce11 (zgf) (.c (j:=0) rfl .n)<|e_p (zic rfl)<|zk<|zf<|zua rfl rfl<|zB<|zf<|zj<|zc<|e_ru (zd 2 ty29 rfl rfl (.t8 (.t8 (.t2 .nil))))<|zJ rfl rfl (zp zr29 rfl) (fun b4=> ?_)
 refine zl 0 rfl rfl rfl rfl rfl sz29 rfl (.t8 (.t8 (.t2 .nil))) .z<|zk<|zf<|zj<|zc<|e_p (zi (i:=2) yi sz60 rfl rfl dd rfl)<|e_ru (ze 1 ty60 rfl rfl rfl)<|e_p (pv_and rfl rfl)<|e_p (zH (z:=(andI .i8 bc 3)) rfl (by rw [yj];rfl) yk (w64 om))<|e_p (zI (z:=(1+(andI .i8 bc 3))) rfl rfl (w64 om))<|e_p (zh rfl)<|zk<|zf<|zj<|zj ?_
 obtain ⟨kk,hk9⟩:∃z:Int,z=(1+andI .i8 bc 3):=⟨_,rfl⟩
 have hkk:1≤kk∧kk≤4:=by omega
 have e5:((1+(andI .i8 bc 3)):Int)=kk:=by exact hk9.symm
 rw [e5]
 refine zc<|e_p (zg ym rfl sz27 rfl rfl)<|e_p (zg yn rfl sz25 rfl rfl)<|e_p (zg ym rfl sz27 rfl rfl)<|e_p (zg yn rfl sz25 rfl rfl)<|zJa rfl rfl (zQ (enc:=fun z:Nat×Nat=>[.pointer (some ⟨z.1,z.2,none⟩)]) (ok:=fun _=>True) (h1:=fun _=>rfl) (h2:=fun _=>rfl) (k:=2) yo inf62 rfl dd dd dd (.c (x:=(b4,6)) rfl rfl (fun _ _=>by trivial) (.c (x:=(b4,14)) rfl rfl (fun _ _=>by trivial) .n))) (fun b6 _=> ?_)
 refine e_p (zea yo rfl)<|e_mv rfl<|zk<|zf<|zu<|zLa<|zW<|zj<|zc<|e_p (zS rfl rfl)<|zk<|zf<|zj<|zaa rfl rfl<|zB<|zf<|zj<|zu<|zj<|zc<|e_p (zja (j:=0) yo sz62 rfl rfl rfl om)<|r_vl rfl rfl (zra (x0:=(b4,6)) (v:= .pointer (some ⟨b4,6,none⟩)) 0 0 rfl ty62 rfl rfl (by rfl) rfl) (fun _ hok7=> ?_)
 refine e_p (zh rfl)<|zk<|zf<|zj<|zj<|zO (OW:=[]) (O:=[rowA 62 rPt (some ⟨b6,0,none⟩) 2 ([(b4,6),(b4,14)]),boxA b4 29 (cS s),boxA b3 61 [.int .i8 ba,.int .i8 bb,.int .i8 bc],boxA b2 39 [yc yd (cm.fo),yc yd (cm.cx),yc yd (cm.cy),yc yd u,yc yd v,yc yd rr,yc yd h],boxA b1 29 (cS s)]) 100000 mixed (.then (.then (.block (.then (.then (.block (.then .ret))))))) kr<|e_dm 0 rfl rfl rfl<|e_pv 1 rfl rfl (zfa rfl)<|e_pv 2 rfl rfl (zg yf rfl sz3 rfl rfl)<|e_u 3 rfl rfl (ze 1 ty3 rfl rfl rfl)<|e_dm 4 rfl rfl rfl<|e_pv 5 rfl rfl (zfa rfl)<|e_pv 6 rfl rfl (zg yf rfl sz3 rfl rfl)<|e_u 7 rfl rfl (ze 1 ty3 rfl rfl rfl)<|e_dm 8 rfl rfl rfl<|e_pv 9 rfl rfl (zfa rfl)<|e_pv 10 rfl rfl (zg yf rfl sz3 rfl rfl)<|e_u 11 rfl rfl (ze 1 ty3 rfl rfl rfl)<|e_dm 12 rfl rfl rfl<|e_pv 13 rfl rfl (zfa rfl)<|e_pv 14 rfl rfl (zg yf rfl sz3 rfl rfl)<|e_u 15 rfl rfl (ze 1 ty3 rfl rfl rfl)<|e_one 16 (zGe rfl rfl rfl rfl (zQ (enc:=fun z:Int=>[yc yd z]) (ok:=InK .i64) (h1:=fun _=>rfl) (h2:=fun _=>rfl) (k:=4) yp inf3 rfl dd dd dd (.c (x:=s.qa) rfl rfl (fun _ _=>by exact zt.2 om) (.c (x:=s.qb) rfl rfl (fun _ _=>by exact zt.2 om) (.c (x:=s.qc) rfl rfl (fun _ _=>by exact zt.2 om) (.c (x:=s.qd) rfl rfl (fun _ _=>by exact zt.2 om) .n))))) (fun b8 _=> ?_))
 refine zkc 0 rfl .z<|e_one 17 (zBa rfl rfl rfl rfl (.c rfl (.c rfl .n)) ce23 (zGb (p:=some ⟨b8,0,none⟩) (n:=4) (cap:=4) (l:=[s.qa,s.qb,s.qc,s.qd]) (m:=4096) (hn:=cbd) (hm:=cbd)) (.c (j:=0) rfl .n) ?_)
 refine e_pv 18 rfl rfl (zKa rfl)<|zM kr<|zf<|zT rfl (fun h57=> ?_) (fun h57=> ?_)
 ·
  refine zj<|zc<|e_p (zh rfl)<|zk<|zf<|zR<|zq<|zca<|zq<|zq<|zca<|zq ?_
  exact zL yl () trivial (zD rfl) rfl (ho:=(.n:PickO _ _ _)) (.n:SelR _ _ _)
 ·
  have hwq1:=Decidable.not_not.1 h57
  obtain ⟨h9qa,h9qb,h9qc,h9qd⟩:=Sh.wi_4.1 hwq1
  have hkqa:=Sh.k_b hkk h9qa
  have hkqb:=Sh.k_b hkk h9qb
  have hkqc:=Sh.k_b hkk h9qc
  have hkqd:=Sh.k_b hkk h9qd
  refine zB<|zf<|zba (.c (i:=2) rfl (.c (i:=1) rfl (.c (i:=1) rfl (.c (i:=1) rfl (.c (i:=1) rfl .n)))))<|zO (OW:=[boxA b4 29 (cS s)]) (O:=[rowA 62 rPt (some ⟨b6,0,none⟩) 2 ([(b4,6),(b4,14)]),boxA b3 61 [.int .i8 ba,.int .i8 bb,.int .i8 bc],boxA b2 39 [yc yd (cm.fo),yc yd (cm.cx),yc yd (cm.cy),yc yd u,yc yd v,yc yd rr,yc yd h],boxA b1 29 (cS s)]) 27 mixed (.block (.then (.then (.block (.then .ret))))) kr<|e_dm 0 rfl rfl rfl<|e_dm 1 rfl rfl rfl<|e_dm 2 rfl rfl rfl<|e_pv 3 rfl rfl (zfa rfl)<|e_pv 4 rfl rfl (zg yf rfl sz3 rfl rfl)<|e_uw 5 rfl rfl (ze 0 ty3 rfl rfl rfl)<|e_pv 6 rfl rfl (zGa (z:=(kk*s.qa)) rfl rfl (w64 om))<|e_dm 7 rfl rfl rfl<|e_dm 8 rfl rfl rfl<|e_pv 9 rfl rfl (zfa rfl)<|e_pv 10 rfl rfl (zg yf rfl sz3 rfl rfl)<|e_uw 11 rfl rfl (ze 0 ty3 rfl rfl rfl)<|e_pv 12 rfl rfl (zGa (z:=(kk*s.qb)) rfl rfl (w64 om))<|e_dm 13 rfl rfl rfl<|e_dm 14 rfl rfl rfl<|e_pv 15 rfl rfl (zfa rfl)<|e_pv 16 rfl rfl (zg yf rfl sz3 rfl rfl)<|e_uw 17 rfl rfl (ze 0 ty3 rfl rfl rfl)<|e_pv 18 rfl rfl (zGa (z:=(kk*s.qc)) rfl rfl (w64 om))<|e_dm 19 rfl rfl rfl<|e_dm 20 rfl rfl rfl<|e_pv 21 rfl rfl (zfa rfl)<|e_pv 22 rfl rfl (zg yf rfl sz3 rfl rfl)<|e_uw 23 rfl rfl (ze 0 ty3 rfl rfl rfl)<|e_pv 24 rfl rfl (zGa (z:=(kk*s.qd)) rfl rfl (w64 om))<|e_pv 25 rfl rfl (zv zr25 rfl yf (.c sz3 (.c sz3 (.c sz3 (.c sz3 .n)))) (.c rfl (.c rfl (.c rfl (.c rfl .n)))) (.c rfl rfl rfl (.take .nil) (.c rfl rfl rfl (.skip (.take .nil)) (.c rfl rfl rfl (.s2 (.take .nil)) (.c rfl rfl rfl (.s2 (.skip (.take .nil))) .n)))))<|e_pv 26 rfl rfl (zfa rfl)<|e_one 27 (zo kr rfl rfl rfl rfl rfl sz25 rfl (.s4 (.s2 (.t4 .nil))) ?_)
  refine zM kr<|zK<|zf<|zc<|e_p (zI (z:=1) rfl rfl (w64 dd))<|e_mv rfl<|zk<|zga<|zW<|zj<|zc<|e_p (zS rfl rfl)<|zk<|zf<|zj<|zaa rfl rfl<|zB<|zf<|zj<|zu<|zj<|zc<|e_p (zja (j:=1) yo sz62 rfl rfl rfl om)<|r_vl rfl rfl (zra (x0:=(b4,14)) (v:= .pointer (some ⟨b4,14,none⟩)) 1 1 rfl ty62 rfl rfl (by rfl) rfl) (fun _ hok9=> ?_)
  refine e_p (zh rfl)<|zk<|zf<|zj<|zj<|zO (OW:=[]) (O:=[boxA b4 29 [yc yd (s.fi),yc yd (s.st),yc yd (s.ta),yc yd (s.xa),yc yd (s.ya),yc yd (s.za),yc yd (kk*s.qa),yc yd (kk*s.qb),yc yd (kk*s.qc),yc yd (kk*s.qd),yc yd (s.tb),yc yd (s.xb),yc yd (s.yb),yc yd (s.zb),yc yd (s.ra),yc yd (s.rb),yc yd (s.rc),yc yd (s.rd)],rowA 62 rPt (some ⟨b6,0,none⟩) 2 ([(b4,6),(b4,14)]),boxA b3 61 [.int .i8 ba,.int .i8 bb,.int .i8 bc],boxA b2 39 [yc yd (cm.fo),yc yd (cm.cx),yc yd (cm.cy),yc yd u,yc yd v,yc yd rr,yc yd h],boxA b1 29 (cS s)]) 100000 mixed (.then (.then (.block (.then (.then (.block (.then .ret))))))) kr<|e_dm 0 rfl rfl rfl<|e_pv 1 rfl rfl (zfa rfl)<|e_pv 2 rfl rfl (zg yf rfl sz3 rfl rfl)<|e_u 3 rfl rfl (ze 0 ty3 rfl rfl rfl)<|e_dm 4 rfl rfl rfl<|e_pv 5 rfl rfl (zfa rfl)<|e_pv 6 rfl rfl (zg yf rfl sz3 rfl rfl)<|e_u 7 rfl rfl (ze 0 ty3 rfl rfl rfl)<|e_dm 8 rfl rfl rfl<|e_pv 9 rfl rfl (zfa rfl)<|e_pv 10 rfl rfl (zg yf rfl sz3 rfl rfl)<|e_u 11 rfl rfl (ze 0 ty3 rfl rfl rfl)<|e_dm 12 rfl rfl rfl<|e_pv 13 rfl rfl (zfa rfl)<|e_pv 14 rfl rfl (zg yf rfl sz3 rfl rfl)<|e_u 15 rfl rfl (ze 0 ty3 rfl rfl rfl)<|e_one 16 (zGe rfl rfl rfl rfl (zQ (enc:=fun z:Int=>[yc yd z]) (ok:=InK .i64) (h1:=fun _=>rfl) (h2:=fun _=>rfl) (k:=4) yp inf3 rfl dd dd dd (.c (x:=s.ra) rfl rfl (fun _ _=>by exact zt.2 om) (.c (x:=s.rb) rfl rfl (fun _ _=>by exact zt.2 om) (.c (x:=s.rc) rfl rfl (fun _ _=>by exact zt.2 om) (.c (x:=s.rd) rfl rfl (fun _ _=>by exact zt.2 om) .n))))) (fun b10 _=> ?_))
  refine zkc 0 rfl .z<|e_one 17 (zBa rfl rfl rfl rfl (.c rfl (.c rfl .n)) ce23 (zGb (p:=some ⟨b10,0,none⟩) (n:=4) (cap:=4) (l:=[s.ra,s.rb,s.rc,s.rd]) (m:=4096) (hn:=cbd) (hm:=cbd)) (.c (j:=0) rfl .n) ?_)
  refine e_pv 18 rfl rfl (zKa rfl)<|zM kr<|zf<|zT rfl (fun h57=> ?_) (fun h57=> ?_)
  ·
   refine zj<|zc<|e_p (zh rfl)<|zk<|zf<|zR<|zq<|zca<|zq<|zq<|zca<|zq ?_
   exact zL yl () trivial (zD rfl) rfl (ho:=(.n:PickO _ _ _)) (.n:SelR _ _ _)
  ·
   have hwq2:=Decidable.not_not.1 h57
   obtain ⟨h9ra,h9rb,h9rc,h9rd⟩:=Sh.wi_4.1 hwq2
   have hkra:=Sh.k_b hkk h9ra
   have hkrb:=Sh.k_b hkk h9rb
   have hkrc:=Sh.k_b hkk h9rc
   have hkrd:=Sh.k_b hkk h9rd
   refine zB<|zf<|zba (.c (i:=1) rfl (.c (i:=1) rfl (.c (i:=1) rfl (.c (i:=1) rfl (.c (i:=1) rfl .n)))))<|zO (OW:=[boxA b4 29 [yc yd (s.fi),yc yd (s.st),yc yd (s.ta),yc yd (s.xa),yc yd (s.ya),yc yd (s.za),yc yd (kk*s.qa),yc yd (kk*s.qb),yc yd (kk*s.qc),yc yd (kk*s.qd),yc yd (s.tb),yc yd (s.xb),yc yd (s.yb),yc yd (s.zb),yc yd (s.ra),yc yd (s.rb),yc yd (s.rc),yc yd (s.rd)]]) (O:=[rowA 62 rPt (some ⟨b6,0,none⟩) 2 ([(b4,6),(b4,14)]),boxA b3 61 [.int .i8 ba,.int .i8 bb,.int .i8 bc],boxA b2 39 [yc yd (cm.fo),yc yd (cm.cx),yc yd (cm.cy),yc yd u,yc yd v,yc yd rr,yc yd h],boxA b1 29 (cS s)]) 27 mixed (.block (.then (.then (.block (.then .ret))))) kr<|e_dm 0 rfl rfl rfl<|e_dm 1 rfl rfl rfl<|e_dm 2 rfl rfl rfl<|e_pv 3 rfl rfl (zfa rfl)<|e_pv 4 rfl rfl (zg yf rfl sz3 rfl rfl)<|e_uw 5 rfl rfl (ze 0 ty3 rfl rfl rfl)<|e_pv 6 rfl rfl (zGa (z:=(kk*s.ra)) rfl rfl (w64 om))<|e_dm 7 rfl rfl rfl<|e_dm 8 rfl rfl rfl<|e_pv 9 rfl rfl (zfa rfl)<|e_pv 10 rfl rfl (zg yf rfl sz3 rfl rfl)<|e_uw 11 rfl rfl (ze 0 ty3 rfl rfl rfl)<|e_pv 12 rfl rfl (zGa (z:=(kk*s.rb)) rfl rfl (w64 om))<|e_dm 13 rfl rfl rfl<|e_dm 14 rfl rfl rfl<|e_pv 15 rfl rfl (zfa rfl)<|e_pv 16 rfl rfl (zg yf rfl sz3 rfl rfl)<|e_uw 17 rfl rfl (ze 0 ty3 rfl rfl rfl)<|e_pv 18 rfl rfl (zGa (z:=(kk*s.rc)) rfl rfl (w64 om))<|e_dm 19 rfl rfl rfl<|e_dm 20 rfl rfl rfl<|e_pv 21 rfl rfl (zfa rfl)<|e_pv 22 rfl rfl (zg yf rfl sz3 rfl rfl)<|e_uw 23 rfl rfl (ze 0 ty3 rfl rfl rfl)<|e_pv 24 rfl rfl (zGa (z:=(kk*s.rd)) rfl rfl (w64 om))<|e_pv 25 rfl rfl (zv zr25 rfl yf (.c sz3 (.c sz3 (.c sz3 (.c sz3 .n)))) (.c rfl (.c rfl (.c rfl (.c rfl .n)))) (.c rfl rfl rfl (.take .nil) (.c rfl rfl rfl (.skip (.take .nil)) (.c rfl rfl rfl (.s2 (.take .nil)) (.c rfl rfl rfl (.s2 (.skip (.take .nil))) .n)))))<|e_pv 26 rfl rfl (zfa rfl)<|e_one 27 (zo kr rfl rfl rfl rfl rfl sz25 rfl (.s8 (.s4 (.s2 (.t4 .nil)))) ?_)
   refine zM kr<|zK<|zf<|zc<|e_p (zI (z:=2) rfl rfl (w64 dd))<|e_mv rfl<|zk<|zga<|zW<|zj<|zc<|e_p (zS rfl rfl)<|zk<|zf<|zj<|zua rfl rfl<|zla<|zn<|zn<|zC<|zf<|zj<|zj<|zc<|e_p (zg ym rfl sz27 rfl rfl)<|e_p (zg yn rfl sz23 rfl rfl)<|e_p (zg ym rfl sz27 rfl rfl)<|e_p (zg yn rfl sz23 rfl rfl)<|zJa rfl rfl (zQ (enc:=fun z:Nat×Nat=>[.pointer (some ⟨z.1,z.2,none⟩)]) (ok:=fun _=>True) (h1:=fun _=>rfl) (h2:=fun _=>rfl) (k:=2) yq inf65 rfl dd dd dd (.c (x:=(b4,3)) rfl rfl (fun _ _=>by trivial) (.c (x:=(b4,11)) rfl rfl (fun _ _=>by trivial) .n))) (fun b11 _=> ?_)
   refine e_p (zea yq rfl)<|e_mv rfl<|zk<|zf<|zu<|zLa<|zW<|zj<|zc<|e_p (zS rfl rfl)<|zk<|zf<|zj<|zaa rfl rfl<|zB<|zf<|zj<|zu<|zj<|zc<|e_p (zja (j:=0) yq sz65 rfl rfl rfl om)<|r_vl rfl rfl (zra (x0:=(b4,3)) (v:= .pointer (some ⟨b4,3,none⟩)) 0 0 rfl ty65 rfl rfl (by rfl) rfl) (fun _ hok12=> ?_)
   refine e_p (zh rfl)<|zk<|zf<|zj<|zj<|zO (OW:=[]) (O:=[rowA 65 rPt (some ⟨b11,0,none⟩) 2 ([(b4,3),(b4,11)]),boxA b4 29 [yc yd (s.fi),yc yd (s.st),yc yd (s.ta),yc yd (s.xa),yc yd (s.ya),yc yd (s.za),yc yd (kk*s.qa),yc yd (kk*s.qb),yc yd (kk*s.qc),yc yd (kk*s.qd),yc yd (s.tb),yc yd (s.xb),yc yd (s.yb),yc yd (s.zb),yc yd (kk*s.ra),yc yd (kk*s.rb),yc yd (kk*s.rc),yc yd (kk*s.rd)],rowA 62 rPt (some ⟨b6,0,none⟩) 2 ([(b4,6),(b4,14)]),boxA b3 61 [.int .i8 ba,.int .i8 bb,.int .i8 bc],boxA b2 39 [yc yd (cm.fo),yc yd (cm.cx),yc yd (cm.cy),yc yd u,yc yd v,yc yd rr,yc yd h],boxA b1 29 (cS s)]) 100000 mixed (.then (.then (.block (.then (.then (.block (.then .ret))))))) kr<|e_dm 0 rfl rfl rfl<|e_pv 1 rfl rfl (zfa rfl)<|e_pv 2 rfl rfl (zg yh rfl sz3 rfl rfl)<|e_u 3 rfl rfl (ze 1 ty3 rfl rfl rfl)<|e_dm 4 rfl rfl rfl<|e_pv 5 rfl rfl (zfa rfl)<|e_pv 6 rfl rfl (zg yh rfl sz3 rfl rfl)<|e_u 7 rfl rfl (ze 1 ty3 rfl rfl rfl)<|e_one 8 (zGe rfl rfl rfl rfl (zQ (enc:=fun z:Int=>[yc yd z]) (ok:=InK .i64) (h1:=fun _=>rfl) (h2:=fun _=>rfl) (k:=2) yp inf3 rfl dd dd dd (.c (x:=s.xa) rfl rfl (fun _ _=>by exact zt.2 om) (.c (x:=s.ya) rfl rfl (fun _ _=>by exact zt.2 om) .n))) (fun b13 _=> ?_))
   refine zkc 0 rfl .z<|e_one 9 (zBa rfl rfl rfl rfl (.c rfl (.c rfl .n)) ce23 (zGb (p:=some ⟨b13,0,none⟩) (n:=2) (cap:=2) (l:=[s.xa,s.ya]) (m:=524288) (hn:=cbd) (hm:=cbd)) (.c (j:=0) rfl .n) ?_)
   refine e_pv 10 rfl rfl (zKa rfl)<|zM kr<|zf<|zT rfl (fun h106=> ?_) (fun h106=> ?_)
   ·
    refine zj<|zc<|e_p (zh rfl)<|zk<|zf<|zR<|zq<|zca<|zq<|zq<|zca<|zq ?_
    exact zL yl () trivial (zD rfl) rfl (ho:=(.n:PickO _ _ _)) (.n:SelR _ _ _)
   ·
    have hwp1:=Decidable.not_not.1 h106
    obtain ⟨h9xa,h9ya⟩:=Sh.wi_2.1 hwp1
    refine zB<|zf<|zj<|zba (.c (i:=2) rfl (.c (i:=1) rfl (.c (i:=2) rfl (.c (i:=2) rfl (.c (i:=2) rfl .n)))))<|zO (OW:=[boxA b4 29 [yc yd (s.fi),yc yd (s.st),yc yd (s.ta),yc yd (s.xa),yc yd (s.ya),yc yd (s.za),yc yd (kk*s.qa),yc yd (kk*s.qb),yc yd (kk*s.qc),yc yd (kk*s.qd),yc yd (s.tb),yc yd (s.xb),yc yd (s.yb),yc yd (s.zb),yc yd (kk*s.ra),yc yd (kk*s.rb),yc yd (kk*s.rc),yc yd (kk*s.rd)]]) (O:=[rowA 65 rPt (some ⟨b11,0,none⟩) 2 ([(b4,3),(b4,11)]),boxA b3 61 [.int .i8 ba,.int .i8 bb,.int .i8 bc],boxA b2 39 [yc yd (cm.fo),yc yd (cm.cx),yc yd (cm.cy),yc yd u,yc yd v,yc yd rr,yc yd h],boxA b1 29 (cS s)]) 10 mixed (.then (.block (.then (.then (.block (.then .ret)))))) kr<|e_dm 0 rfl rfl rfl<|e_pv 1 rfl rfl (zfa rfl)<|e_pv 2 rfl rfl (zg yh rfl sz3 rfl rfl)<|e_uw 3 rfl rfl (ze 0 ty3 rfl rfl rfl)<|e_pv 4 rfl rfl (zi (i:=0) yi sz60 rfl rfl dd rfl)<|e_uw 5 rfl rfl (ze 2 ty60 rfl rfl rfl)<|e_pv 6 rfl rfl (zH (z:=ba) rfl (by rw [yj];rfl) yk (w64 om))<|e_pv 7 rfl rfl (zI (z:=(s.xa+ba)) rfl rfl (w64 om))<|e_pv 8 rfl rfl (zfa rfl)<|e_pv 9 rfl rfl (zg yh rfl sz3 rfl rfl)<|e_one 10 (zo kr rfl rfl rfl rfl rfl sz3 rfl (.s2 (.skip (.take .nil))) ?_)
    refine zM kr<|zf<|zO (OW:=[boxA b4 29 [yc yd (s.fi),yc yd (s.st),yc yd (s.ta),yc yd (s.xa+ba),yc yd (s.ya),yc yd (s.za),yc yd (kk*s.qa),yc yd (kk*s.qb),yc yd (kk*s.qc),yc yd (kk*s.qd),yc yd (s.tb),yc yd (s.xb),yc yd (s.yb),yc yd (s.zb),yc yd (kk*s.ra),yc yd (kk*s.rb),yc yd (kk*s.rc),yc yd (kk*s.rd)]]) (O:=[rowA 65 rPt (some ⟨b11,0,none⟩) 2 ([(b4,3),(b4,11)]),boxA b3 61 [.int .i8 ba,.int .i8 bb,.int .i8 bc],boxA b2 39 [yc yd (cm.fo),yc yd (cm.cx),yc yd (cm.cy),yc yd u,yc yd v,yc yd rr,yc yd h],boxA b1 29 (cS s)]) 10 mixed (.block (.then (.then (.block (.then .ret))))) kr<|e_dm 0 rfl rfl rfl<|e_pv 1 rfl rfl (zfa rfl)<|e_pv 2 rfl rfl (zg yh rfl sz3 rfl rfl)<|e_uw 3 rfl rfl (ze 0 ty3 rfl rfl rfl)<|e_pv 4 rfl rfl (zi (i:=1) yi sz60 rfl rfl dd rfl)<|e_uw 5 rfl rfl (ze 2 ty60 rfl rfl rfl)<|e_pv 6 rfl rfl (zH (z:=bb) rfl (by rw [yj];rfl) yk (w64 om))<|e_pv 7 rfl rfl (zI (z:=(s.ya+bb)) rfl rfl (w64 om))<|e_pv 8 rfl rfl (zfa rfl)<|e_pv 9 rfl rfl (zg yh rfl sz3 rfl rfl)<|e_one 10 (zo kr rfl rfl rfl rfl rfl sz3 rfl (.s4 (.take .nil)) ?_)
    refine zM kr<|zK<|zf<|zc<|e_p (zI (z:=1) rfl rfl (w64 dd))<|e_mv rfl<|zk<|zga<|zW<|zj<|zc<|e_p (zS rfl rfl)<|zk<|zf<|zj<|zaa rfl rfl<|zB<|zf<|zj<|zu<|zj<|zc<|e_p (zja (j:=1) yq sz65 rfl rfl rfl om)<|r_vl rfl rfl (zra (x0:=(b4,11)) (v:= .pointer (some ⟨b4,11,none⟩)) 1 1 rfl ty65 rfl rfl (by rfl) rfl) (fun _ hok14=> ?_)
    refine e_p (zh rfl)<|zk<|zf<|zj<|zj<|zO (OW:=[]) (O:=[boxA b4 29 [yc yd (s.fi),yc yd (s.st),yc yd (s.ta),yc yd (s.xa+ba),yc yd (s.ya+bb),yc yd (s.za),yc yd (kk*s.qa),yc yd (kk*s.qb),yc yd (kk*s.qc),yc yd (kk*s.qd),yc yd (s.tb),yc yd (s.xb),yc yd (s.yb),yc yd (s.zb),yc yd (kk*s.ra),yc yd (kk*s.rb),yc yd (kk*s.rc),yc yd (kk*s.rd)],rowA 65 rPt (some ⟨b11,0,none⟩) 2 ([(b4,3),(b4,11)]),boxA b3 61 [.int .i8 ba,.int .i8 bb,.int .i8 bc],boxA b2 39 [yc yd (cm.fo),yc yd (cm.cx),yc yd (cm.cy),yc yd u,yc yd v,yc yd rr,yc yd h],boxA b1 29 (cS s)]) 100000 mixed (.then (.then (.block (.then (.then (.block (.then .ret))))))) kr<|e_dm 0 rfl rfl rfl<|e_pv 1 rfl rfl (zfa rfl)<|e_pv 2 rfl rfl (zg yh rfl sz3 rfl rfl)<|e_u 3 rfl rfl (ze 0 ty3 rfl rfl rfl)<|e_dm 4 rfl rfl rfl<|e_pv 5 rfl rfl (zfa rfl)<|e_pv 6 rfl rfl (zg yh rfl sz3 rfl rfl)<|e_u 7 rfl rfl (ze 0 ty3 rfl rfl rfl)<|e_one 8 (zGe rfl rfl rfl rfl (zQ (enc:=fun z:Int=>[yc yd z]) (ok:=InK .i64) (h1:=fun _=>rfl) (h2:=fun _=>rfl) (k:=2) yp inf3 rfl dd dd dd (.c (x:=s.xb) rfl rfl (fun _ _=>by exact zt.2 om) (.c (x:=s.yb) rfl rfl (fun _ _=>by exact zt.2 om) .n))) (fun b15 _=> ?_))
    refine zkc 0 rfl .z<|e_one 9 (zBa rfl rfl rfl rfl (.c rfl (.c rfl .n)) ce23 (zGb (p:=some ⟨b15,0,none⟩) (n:=2) (cap:=2) (l:=[s.xb,s.yb]) (m:=524288) (hn:=cbd) (hm:=cbd)) (.c (j:=0) rfl .n) ?_)
    refine e_pv 10 rfl rfl (zKa rfl)<|zM kr<|zf<|zT rfl (fun h106=> ?_) (fun h106=> ?_)
    ·
     refine zj<|zc<|e_p (zh rfl)<|zk<|zf<|zR<|zq<|zca<|zq<|zq<|zca<|zq ?_
     exact zL yl () trivial (zD rfl) rfl (ho:=(.n:PickO _ _ _)) (.n:SelR _ _ _)
    ·
     have hwp2:=Decidable.not_not.1 h106
     obtain ⟨h9xb,h9yb⟩:=Sh.wi_2.1 hwp2
     refine zB<|zf<|zj<|zba (.c (i:=1) rfl (.c (i:=1) rfl (.c (i:=1) rfl (.c (i:=1) rfl (.c (i:=1) rfl .n)))))<|zO (OW:=[boxA b4 29 [yc yd (s.fi),yc yd (s.st),yc yd (s.ta),yc yd (s.xa+ba),yc yd (s.ya+bb),yc yd (s.za),yc yd (kk*s.qa),yc yd (kk*s.qb),yc yd (kk*s.qc),yc yd (kk*s.qd),yc yd (s.tb),yc yd (s.xb),yc yd (s.yb),yc yd (s.zb),yc yd (kk*s.ra),yc yd (kk*s.rb),yc yd (kk*s.rc),yc yd (kk*s.rd)]]) (O:=[rowA 65 rPt (some ⟨b11,0,none⟩) 2 ([(b4,3),(b4,11)]),boxA b3 61 [.int .i8 ba,.int .i8 bb,.int .i8 bc],boxA b2 39 [yc yd (cm.fo),yc yd (cm.cx),yc yd (cm.cy),yc yd u,yc yd v,yc yd rr,yc yd h],boxA b1 29 (cS s)]) 10 mixed (.then (.block (.then (.then (.block (.then .ret)))))) kr<|e_dm 0 rfl rfl rfl<|e_pv 1 rfl rfl (zfa rfl)<|e_pv 2 rfl rfl (zg yh rfl sz3 rfl rfl)<|e_uw 3 rfl rfl (ze 0 ty3 rfl rfl rfl)<|e_pv 4 rfl rfl (zi (i:=0) yi sz60 rfl rfl dd rfl)<|e_uw 5 rfl rfl (ze 2 ty60 rfl rfl rfl)<|e_pv 6 rfl rfl (zH (z:=ba) rfl (by rw [yj];rfl) yk (w64 om))<|e_pv 7 rfl rfl (zI (z:=(s.xb+ba)) rfl rfl (w64 om))<|e_pv 8 rfl rfl (zfa rfl)<|e_pv 9 rfl rfl (zg yh rfl sz3 rfl rfl)<|e_one 10 (zo kr rfl rfl rfl rfl rfl sz3 rfl (.s8 (.s2 (.skip (.take .nil)))) ?_)
     refine zM kr<|zf<|zO (OW:=[boxA b4 29 [yc yd (s.fi),yc yd (s.st),yc yd (s.ta),yc yd (s.xa+ba),yc yd (s.ya+bb),yc yd (s.za),yc yd (kk*s.qa),yc yd (kk*s.qb),yc yd (kk*s.qc),yc yd (kk*s.qd),yc yd (s.tb),yc yd (s.xb+ba),yc yd (s.yb),yc yd (s.zb),yc yd (kk*s.ra),yc yd (kk*s.rb),yc yd (kk*s.rc),yc yd (kk*s.rd)]]) (O:=[rowA 65 rPt (some ⟨b11,0,none⟩) 2 ([(b4,3),(b4,11)]),boxA b3 61 [.int .i8 ba,.int .i8 bb,.int .i8 bc],boxA b2 39 [yc yd (cm.fo),yc yd (cm.cx),yc yd (cm.cy),yc yd u,yc yd v,yc yd rr,yc yd h],boxA b1 29 (cS s)]) 10 mixed (.block (.then (.then (.block (.then .ret))))) kr<|e_dm 0 rfl rfl rfl<|e_pv 1 rfl rfl (zfa rfl)<|e_pv 2 rfl rfl (zg yh rfl sz3 rfl rfl)<|e_uw 3 rfl rfl (ze 0 ty3 rfl rfl rfl)<|e_pv 4 rfl rfl (zi (i:=1) yi sz60 rfl rfl dd rfl)<|e_uw 5 rfl rfl (ze 2 ty60 rfl rfl rfl)<|e_pv 6 rfl rfl (zH (z:=bb) rfl (by rw [yj];rfl) yk (w64 om))<|e_pv 7 rfl rfl (zI (z:=(s.yb+bb)) rfl rfl (w64 om))<|e_pv 8 rfl rfl (zfa rfl)<|e_pv 9 rfl rfl (zg yh rfl sz3 rfl rfl)<|e_one 10 (zo kr rfl rfl rfl rfl rfl sz3 rfl (.s8 (.s4 (.take .nil))) ?_)
     refine zM kr<|zK<|zf<|zc<|e_p (zI (z:=2) rfl rfl (w64 dd))<|e_mv rfl<|zk<|zga<|zW<|zj<|zc<|e_p (zS rfl rfl)<|zk<|zf<|zj<|zua rfl rfl<|zla<|zn<|zn<|zC<|zf<|zj<|zc<|e_ru (zd 4 ty29 rfl rfl (.t8 (.t8 (.t2 .nil))))<|e_p (zg yg rfl sz37 rfl rfl)<|e_ru (zd 3 ty37 rfl rfl (.t2 (.take .nil)))<|e_p (zg yg rfl sz35 rfl rfl)<|e_ru (zd 3 ty35 rfl rfl (.s2 (.skip (.t2 .nil))))<|e_p (zg yg rfl sz3 rfl rfl)<|e_ru (ze 3 ty3 rfl rfl rfl)<|zG rfl rfl (.c rfl (.c rfl (.c rfl (.c rfl .n)))) ce24 (zYb (s:=s) (cm:=cm) (u:=u) (v:=v) (h:=h) (hfi:=ass) (hst:=ass) (hta:=ass) (htb:=ass) (hxa:=ass) (hya:=ass) (hza:=ass) (hqa:=ass) (hqb:=ass) (hqc:=ass) (hqd:=ass) (hxb:=ass) (hyb:=ass) (hzb:=ass) (hra:=ass) (hrb:=ass) (hrc:=ass) (hrd:=ass) (h64fo:=ass) (h64cx:=ass) (h64cy:=ass) (h64u:=ass) (h64v:=ass) (h64h:=ass)) (.c (j:=4) rfl .n) ?_
     rintro ⟨w116,w217,w318,w419⟩ hph1
     dsimp only [aq,nq,cq]
     replace hph1:Sh.Gc s cm u v h≠0→w116=wz∧w217=wz∧w318=wz∧w419=wz:=hph1
     refine e_mv rfl<|e_p (zw rfl rfl)<|e_p (zw rfl rfl)<|zJ rfl rfl (zp zr46 rfl) (fun b20=> ?_)
     refine zl 0 rfl rfl rfl rfl rfl sz46 rfl (.t8 .nil) .z<|e_p (zh rfl)<|zk<|zf<|zj ?_
     have hmv:Sh.Mv s kk ba bb:=⟨hkk,hwq1,hwq2,hwp1,hwp2,hb1,hb2⟩
     have hm9fi: -9223372036854775808≤(ye s kk ba bb).fi∧(ye s kk ba bb).fi≤9223372036854775807:=by show -9223372036854775808≤s.fi∧s.fi≤9223372036854775807;first|assumption|omega
     have hm9st: -9223372036854775808≤(ye s kk ba bb).st∧(ye s kk ba bb).st≤9223372036854775807:=by show -9223372036854775808≤s.st∧s.st≤9223372036854775807;first|assumption|omega
     have hm9ta: -9223372036854775808≤(ye s kk ba bb).ta∧(ye s kk ba bb).ta≤9223372036854775807:=by show -9223372036854775808≤s.ta∧s.ta≤9223372036854775807;first|assumption|omega
     have hm9xa: -9223372036854775808≤(ye s kk ba bb).xa∧(ye s kk ba bb).xa≤9223372036854775807:=by show -9223372036854775808≤(s.xa+ba)∧(s.xa+ba)≤9223372036854775807;first|assumption|omega
     have hm9ya: -9223372036854775808≤(ye s kk ba bb).ya∧(ye s kk ba bb).ya≤9223372036854775807:=by show -9223372036854775808≤(s.ya+bb)∧(s.ya+bb)≤9223372036854775807;first|assumption|omega
     have hm9za: -9223372036854775808≤(ye s kk ba bb).za∧(ye s kk ba bb).za≤9223372036854775807:=by show -9223372036854775808≤s.za∧s.za≤9223372036854775807;first|assumption|omega
     have hm9qa: -9223372036854775808≤(ye s kk ba bb).qa∧(ye s kk ba bb).qa≤9223372036854775807:=by show -9223372036854775808≤(kk*s.qa)∧(kk*s.qa)≤9223372036854775807;first|assumption|omega
     have hm9qb: -9223372036854775808≤(ye s kk ba bb).qb∧(ye s kk ba bb).qb≤9223372036854775807:=by show -9223372036854775808≤(kk*s.qb)∧(kk*s.qb)≤9223372036854775807;first|assumption|omega
     have hm9qc: -9223372036854775808≤(ye s kk ba bb).qc∧(ye s kk ba bb).qc≤9223372036854775807:=by show -9223372036854775808≤(kk*s.qc)∧(kk*s.qc)≤9223372036854775807;first|assumption|omega
     have hm9qd: -9223372036854775808≤(ye s kk ba bb).qd∧(ye s kk ba bb).qd≤9223372036854775807:=by show -9223372036854775808≤(kk*s.qd)∧(kk*s.qd)≤9223372036854775807;first|assumption|omega
     have hm9tb: -9223372036854775808≤(ye s kk ba bb).tb∧(ye s kk ba bb).tb≤9223372036854775807:=by show -9223372036854775808≤s.tb∧s.tb≤9223372036854775807;first|assumption|omega
     have hm9xb: -9223372036854775808≤(ye s kk ba bb).xb∧(ye s kk ba bb).xb≤9223372036854775807:=by show -9223372036854775808≤(s.xb+ba)∧(s.xb+ba)≤9223372036854775807;first|assumption|omega
     have hm9yb: -9223372036854775808≤(ye s kk ba bb).yb∧(ye s kk ba bb).yb≤9223372036854775807:=by show -9223372036854775808≤(s.yb+bb)∧(s.yb+bb)≤9223372036854775807;first|assumption|omega
     have hm9zb: -9223372036854775808≤(ye s kk ba bb).zb∧(ye s kk ba bb).zb≤9223372036854775807:=by show -9223372036854775808≤s.zb∧s.zb≤9223372036854775807;first|assumption|omega
     have hm9ra: -9223372036854775808≤(ye s kk ba bb).ra∧(ye s kk ba bb).ra≤9223372036854775807:=by show -9223372036854775808≤(kk*s.ra)∧(kk*s.ra)≤9223372036854775807;first|assumption|omega
     have hm9rb: -9223372036854775808≤(ye s kk ba bb).rb∧(ye s kk ba bb).rb≤9223372036854775807:=by show -9223372036854775808≤(kk*s.rb)∧(kk*s.rb)≤9223372036854775807;first|assumption|omega
     have hm9rc: -9223372036854775808≤(ye s kk ba bb).rc∧(ye s kk ba bb).rc≤9223372036854775807:=by show -9223372036854775808≤(kk*s.rc)∧(kk*s.rc)≤9223372036854775807;first|assumption|omega
     have hm9rd: -9223372036854775808≤(ye s kk ba bb).rd∧(ye s kk ba bb).rd≤9223372036854775807:=by show -9223372036854775808≤(kk*s.rd)∧(kk*s.rd)≤9223372036854775807;first|assumption|omega
     refine zc<|e_ru (zd 1 ty29 rfl rfl (.t8 (.t8 (.t2 .nil))))<|e_p (zg yg rfl sz37 rfl rfl)<|e_ru (zd 4 ty37 rfl rfl (.t2 (.take .nil)))<|e_p (zg yg rfl sz35 rfl rfl)<|e_ru (zd 4 ty35 rfl rfl (.s2 (.skip (.t2 .nil))))<|e_p (zg yg rfl sz3 rfl rfl)<|e_ru (ze 4 ty3 rfl rfl rfl)<|zG rfl rfl (.c rfl (.c rfl (.c rfl (.c rfl .n)))) ce24 (zYb (s:=(ye s kk ba bb)) (cm:=cm) (u:=u) (v:=v) (h:=h) (hfi:=cbd) (hst:=cbd) (hta:=cbd) (htb:=cbd) (hxa:=cbd) (hya:=cbd) (hza:=cbd) (hqa:=cbd) (hqb:=cbd) (hqc:=cbd) (hqd:=cbd) (hxb:=cbd) (hyb:=cbd) (hzb:=cbd) (hra:=cbd) (hrb:=cbd) (hrc:=cbd) (hrd:=cbd) (h64fo:=ass) (h64cx:=ass) (h64cy:=ass) (h64u:=ass) (h64v:=ass) (h64h:=ass)) (.c (j:=6) rfl .n) ?_
     rintro ⟨w121,w222,w323,w424⟩ hph2
     dsimp only [aq,nq,cq]
     replace hph2:Sh.Gc (ye s kk ba bb) cm u v h≠0→w121=wz∧w222=wz∧w323=wz∧w424=wz:=hph2
     refine e_mv rfl<|e_p (zw rfl rfl)<|e_p (zw rfl rfl)<|zJ rfl rfl (zp zr46 rfl) (fun b25=> ?_)
     refine zl 0 rfl rfl rfl rfl rfl sz46 rfl (.t8 .nil) .z<|e_p (zh rfl)<|zk<|zf<|zj<|zc<|e_ru (zd 6 ty29 rfl rfl (.t8 (.t8 (.t2 .nil))))<|e_p (zg yg rfl sz37 rfl rfl)<|e_ru (zd 5 ty37 rfl rfl (.t2 (.take .nil)))<|e_p (zg yg rfl sz35 rfl rfl)<|e_ru (zd 5 ty35 rfl rfl (.s2 (.skip (.t2 .nil))))<|e_p (zg yg rfl sz3 rfl rfl)<|e_ru (ze 5 ty3 rfl rfl rfl)<|e_p (zg yg rfl sz3 rfl rfl)<|e_ru (ze 5 ty3 rfl rfl rfl)<|zG rfl rfl (.c rfl (.c rfl (.c rfl (.c rfl (.c rfl .n))))) ce14 (zNb (s:=s) (cm:=cm) (u:=u) (v:=v) (r:=rr) (h:=h) (hfi:=ass) (hst:=ass) (hta:=ass) (htb:=ass) (hxa:=ass) (hya:=ass) (hza:=ass) (hqa:=ass) (hqb:=ass) (hqc:=ass) (hqd:=ass) (hxb:=ass) (hyb:=ass) (hzb:=ass) (hra:=ass) (hrb:=ass) (hrc:=ass) (hrd:=ass) (h64fo:=ass) (h64cx:=ass) (h64cy:=ass) (h64u:=ass) (h64v:=ass) (h64r:=ass) (h64h:=ass)) (.c (j:=8) rfl .n) ?_
     rintro ⟨w126,w227,w328,w429⟩ hph3
     dsimp only [aq,nq,cq]
     replace hph3:Sh.Cc s cm u v rr h≠0→w126=wz∧w227=wz∧w328=wz∧w429=wz:=hph3
     refine e_mv rfl<|e_p (zw rfl rfl)<|e_p (zw rfl rfl)<|zJ rfl rfl (zp zr46 rfl) (fun b30=> ?_)
     refine zl 0 rfl rfl rfl rfl rfl sz46 rfl (.t8 .nil) .z<|e_p (zh rfl)<|zk<|zf<|zj<|zc<|e_ru (zd 3 ty29 rfl rfl (.t8 (.t8 (.t2 .nil))))<|e_p (zg yg rfl sz37 rfl rfl)<|e_ru (zd 6 ty37 rfl rfl (.t2 (.take .nil)))<|e_p (zg yg rfl sz35 rfl rfl)<|e_ru (zd 6 ty35 rfl rfl (.s2 (.skip (.t2 .nil))))<|e_p (zg yg rfl sz3 rfl rfl)<|e_ru (ze 6 ty3 rfl rfl rfl)<|e_p (zg yg rfl sz3 rfl rfl)<|e_ru (ze 6 ty3 rfl rfl rfl)<|zG rfl rfl (.c rfl (.c rfl (.c rfl (.c rfl (.c rfl .n))))) ce14 (zNb (s:=(ye s kk ba bb)) (cm:=cm) (u:=u) (v:=v) (r:=rr) (h:=h) (hfi:=cbd) (hst:=cbd) (hta:=cbd) (htb:=cbd) (hxa:=cbd) (hya:=cbd) (hza:=cbd) (hqa:=cbd) (hqb:=cbd) (hqc:=cbd) (hqd:=cbd) (hxb:=cbd) (hyb:=cbd) (hzb:=cbd) (hra:=cbd) (hrb:=cbd) (hrc:=cbd) (hrd:=cbd) (h64fo:=ass) (h64cx:=ass) (h64cy:=ass) (h64u:=ass) (h64v:=ass) (h64r:=ass) (h64h:=ass)) (.c (j:=10) rfl .n) ?_
     rintro ⟨w131,w232,w333,w434⟩ hph4
     dsimp only [aq,nq,cq]
     replace hph4:Sh.Cc (ye s kk ba bb) cm u v rr h≠0→w131=wz∧w232=wz∧w333=wz∧w434=wz:=hph4
     refine e_mv rfl<|e_p (zw rfl rfl)<|e_p (zw rfl rfl)<|zJ rfl rfl (zp zr46 rfl) (fun b35=> ?_)
     refine zl 0 rfl rfl rfl rfl rfl sz46 rfl (.t8 .nil) .z<|e_p (zh rfl)<|zk<|zf<|zj ?_
     have hGm:=Sh.Gc_moved hmv cm u v h
     have hCm:=Sh.Cc_moved hmv cm u v rr h
     obtain ⟨hCx,hCy⟩:=Sh.Cx_moved hmv cm u v rr h
     obtain ⟨hcq1,hcq2⟩:=Sh.Cx_hq s cm u v rr h
     have e36:(Sh.Gc (ye s kk ba bb) cm u v h:Int)=Sh.Gc s cm u v h:=by exact hGm
     rw [e36]
     have e37:(Sh.Cc (ye s kk ba bb) cm u v rr h:Int)=Sh.Cc s cm u v rr h:=by exact hCm
     rw [e37]
     have e38:(Sh.Cx (ye s kk ba bb) cm u v rr h:Rat)=Sh.Cx s cm u v rr h:=by exact hCx
     rw [e38]
     have e39:(Sh.Cy (ye s kk ba bb) cm u v rr h:Rat)=Sh.Cy s cm u v rr h:=by exact hCy
     rw [e39]
     refine zIa (X:=Unit) (fun x=>True) (fun x=>[(193,.bool false),(15,.pointer (some ⟨b25,0,none⟩)),(14,yc yd (Sh.Gc s cm u v h)),(13,.pointer (some ⟨b20,0,none⟩)),(5,.pointer (some ⟨b3,0,none⟩))]) (fun x=>[boxA b25 46 (cw [w121,w222,w323,w424]),boxA b20 46 (cw [w116,w217,w318,w419]),boxA b3 61 [.int .i8 ba,.int .i8 bb,.int .i8 bc]]) (fun x=>[qF (decide (Sh.Gc s cm u v h=0)) w121 w222 (Sh.Gx (ye s kk ba bb) cm u v h),qF (decide (Sh.Gc s cm u v h=0)) w323 w424 (Sh.Gy (ye s kk ba bb) cm u v h),qF (decide (Sh.Gc s cm u v h=0)) w116 w217 (Sh.Gx s cm u v h),qF (decide (Sh.Gc s cm u v h=0)) w318 w419 (Sh.Gy s cm u v h),sgF]) ?_ ?_
     ·
      refine zc<|e_mv rfl<|e_mv rfl<|e_p (zvb rfl rfl) ?_
      rw [show (decide (Sh.Gc s cm u v h≠Sh.Gc s cm u v h))=false from by exact decide_eq_false (fun k=>k rfl)]
      refine e_mv rfl<|e_mv rfl<|e_mv rfl<|e_p (zvb rfl rfl) ?_
      rw [show (decide (Sh.Cc s cm u v rr h≠Sh.Cc s cm u v rr h))=false from by exact decide_eq_false (fun k=>k rfl)]
      refine e_p (zU rfl rfl)<|e_mv rfl<|e_mv rfl<|e_p (zMa rfl rfl)<|zsa rfl rfl (zva rfl) (fun hC=> ?_) (fun hC=> ?_)
      ·
       have e40:(decide (Sh.Cc s cm u v rr h=0))=true:=by exact decide_eq_true hC
       rw [e40]
       refine e_ru (zd 1 ty46 rfl rfl (.t8 .nil))<|e_ru (zd 0 ty46 rfl rfl (.t8 .nil))<|zV rfl rfl (.c rfl (.c rfl .n)) ce21 (zsb (u1:=w126) (v1:=w227) (q1:=(Sh.Cx s cm u v rr h)) (u2:=w328) (v2:=w429) (q2:=(Sh.Cy s cm u v rr h)) (u3:=w131) (v3:=w232) (q3:=(Sh.Cx s cm u v rr h)) (u4:=w333) (v4:=w434) (q4:=(Sh.Cy s cm u v rr h)) (hl1:=by exact Sh.hqX) (hl2:=by exact Sh.hqX)) (.c (j:=2) rfl (.c (j:=3) rfl (.c (j:=0) rfl (.c (j:=1) rfl .n)))) ?_
       rw [show (decide ((Sh.Cx s cm u v rr h)=(Sh.Cx s cm u v rr h)∧(Sh.Cy s cm u v rr h)=(Sh.Cy s cm u v rr h)))=true from by exact decide_eq_true ⟨rfl,rfl⟩]
       refine e_p (zic rfl)<|e_p (zU rfl rfl)<|e_p (zU rfl rfl)<|zk ?_
       exact zna () (show True from by first|trivial|omega|simp_all) ((.of rfl):SubM _ _) (ho:=((.of [2,2,4] rfl):PickO _ _ _)) ((.of [4,5,6,7,12] rfl):SelR _ _ _)
      ·
       refine e_no<|e_no<|e_no<|e_no<|e_p (zU rfl rfl)<|e_p (zU rfl rfl)<|zk ?_
       exact zna () (show True from by first|trivial|omega|simp_all) ((.of rfl):SubM _ _) (ho:=((.of [2,2,4] rfl):PickO _ _ _)) ((.of [4,5,6,7,12] rfl):SelR _ _ _)
     ·
      rintro ⟨⟩ -
      try dsimp only [cw]
      refine zua rfl rfl<|zB<|zf<|zj<|zO (OW:=[]) (O:=[boxA b25 46 (cw [w121,w222,w323,w424]),boxA b20 46 (cw [w116,w217,w318,w419]),boxA b3 61 [.int .i8 ba,.int .i8 bb,.int .i8 bc]]) 100000 mixed (.then .ret) kr<|e_dm 0 rfl rfl rfl<|e_pv 1 rfl rfl (zvb rfl rfl)<|zie 2 rfl rfl kr kr rfl rfl (zva rfl) (fun hG=> ?_) (fun hG=> ?_)
      ·
       refine e_skip 3 rfl rfl<|e_skip 4 rfl rfl<|e_skip 5 rfl rfl<|e_skip 6 rfl rfl<|e_skip 7 rfl rfl<|e_skip 8 rfl rfl<|e_skip 9 rfl rfl<|e_skip 10 rfl rfl<|e_skip 11 rfl rfl<|e_skip 12 rfl rfl<|e_skip 13 rfl rfl<|e_skip 14 rfl rfl<|e_skip 15 rfl rfl<|e_skip 16 rfl rfl<|e_skip 17 rfl rfl<|e_skip 18 rfl rfl<|e_skip 19 rfl rfl<|e_pv 20 rfl rfl (zU rfl rfl)<|e_pv 21 rfl rfl (zh rfl)<|zM kr<|zf<|zR ?_
       exact zL yl () trivial (zD rfl) rfl (ho:=(.n:PickO _ _ _)) (.n:SelR _ _ _)
      ·
       have hG0:=Decidable.not_not.1 hG
       obtain ⟨hGx,hGy⟩:=Sh.Gx_moved hmv hG0
       obtain ⟨hgq1,hgq2⟩:=Sh.Gx_hq s cm u v h
       obtain ⟨hgq3,hgq4⟩:=Sh.Gx_hq (ye s kk ba bb) cm u v h
       have e41:(decide (Sh.Gc s cm u v h=0))=true:=by exact decide_eq_true hG0
       rw [e41]
       refine e_u 3 rfl rfl (zd 0 ty46 rfl rfl (.t8 .nil))<|e_pv 4 rfl rfl (zg yr rfl sz44 rfl rfl)<|e_u 5 rfl rfl (zd 1 ty44 rfl rfl (.t4 .nil))<|e_pv 6 rfl rfl (zi (i:=0) yi sz60 rfl rfl dd rfl)<|e_u 7 rfl rfl (ze 2 ty60 rfl rfl rfl)<|e_pv 8 rfl rfl (zH (z:=ba) rfl (by rw [yj];rfl) yk (w64 om))<|e_pv 11 rfl rfl (zg yr rfl sz44 rfl rfl)<|e_u 12 rfl rfl (zd 1 ty44 rfl rfl (.s4 (.t4 .nil)))<|e_pv 13 rfl rfl (zi (i:=1) yi sz60 rfl rfl dd rfl)<|e_u 14 rfl rfl (ze 2 ty60 rfl rfl rfl)<|e_pv 15 rfl rfl (zH (z:=bb) rfl (by rw [yj];rfl) yk (w64 om))<|e_one 9 (zm rfl rfl rfl rfl (.c rfl .n) ce22 (zub (z:=ba) (hz:=cbd)) (.n) ?_)
       rintro ⟨w342,w443⟩ -
       dsimp only [aq,nq,cq]
       refine e_one 10 (zm rfl rfl rfl rfl (.c rfl (.c rfl .n)) ce25 (zYc (k1:=true) (u1:=w116) (v1:=w217) (q1:=(Sh.Gx s cm u v h)) (k2:=true) (u2:=w342) (v2:=w443) (q2:=((ba:Int):Rat)) (hl:=Sh.ax)) (.c (j:=3) rfl (.c (j:=0) rfl .n)) ?_)
       rintro ⟨w344,w445⟩ -
       dsimp only [aq,nq,cq]
       refine e_one 16 (zm rfl rfl rfl rfl (.c rfl .n) ce22 (zub (z:=bb) (hz:=cbd)) (.n) ?_)
       rintro ⟨w346,w447⟩ -
       dsimp only [aq,nq,cq]
       refine e_one 17 (zm rfl rfl rfl rfl (.c rfl (.c rfl .n)) ce25 (zYc (k1:=true) (u1:=w318) (v1:=w419) (q1:=(Sh.Gy s cm u v h)) (k2:=true) (u2:=w346) (v2:=w447) (q2:=((bb:Int):Rat)) (hl:=Sh.ax)) (.c (j:=6) rfl (.c (j:=0) rfl .n)) ?_)
       rintro ⟨w348,w449⟩ -
       dsimp only [aq,nq,cq]
       refine e_pv 18 rfl rfl (zv zr46 rfl yr (.c sz44 (.c sz44 .n)) (.c rfl (.c rfl .n)) (.c rfl rfl rfl (.t4 .nil) (.c rfl rfl rfl (.s4 (.t4 .nil)) .n)))<|e_one 19 (zBa rfl rfl rfl rfl (.c rfl (.c rfl .n)) ce21 (zsb (u1:=w121) (v1:=w222) (q1:=(Sh.Gx (ye s kk ba bb) cm u v h)) (u2:=w323) (v2:=w424) (q2:=(Sh.Gy (ye s kk ba bb) cm u v h)) (u3:=w344) (v3:=w445) (q3:=(Sh.Gx s cm u v h)+((ba:Int):Rat)) (u4:=w348) (v4:=w449) (q4:=(Sh.Gy s cm u v h)+((bb:Int):Rat)) (hl1:=by exact Sh.hqX) (hl2:=by exact Sh.hqX)) (.c (j:=4) rfl (.c (j:=5) rfl (.c (j:=2) rfl (.c (j:=0) rfl .n)))) ?_)
       rw [show (decide ((Sh.Gx (ye s kk ba bb) cm u v h)=((Sh.Gx s cm u v h)+((ba:Int):Rat))∧(Sh.Gy (ye s kk ba bb) cm u v h)=((Sh.Gy s cm u v h)+((bb:Int):Rat))))=true from by exact decide_eq_true ⟨hGx,hGy⟩]
       refine e_pv 20 rfl rfl (zU rfl rfl)<|e_pv 21 rfl rfl (zh rfl)<|zM kr<|zf<|zR ?_
       exact zL yl () trivial (zD rfl) rfl (ho:=(.n:PickO _ _ _)) (.n:SelR _ _ _)
end Go.Proofs.YtjeahiahjgifgaaGreatDoor.Sp
