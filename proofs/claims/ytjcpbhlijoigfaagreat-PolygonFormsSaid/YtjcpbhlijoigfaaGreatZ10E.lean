/- Lemmas on the walk and plain lemmas that the claim of this folder uses; each states its own conditions. Lines were printed by a program of ours. -/
import Derived.Test.YtjcpbhlijoigfaaGreatZ10D
set_option linter.unusedVariables false
set_option linter.unusedSimpArgs false
set_option linter.unusedSectionVars false
open Go.Value renaming int → ya, pointer → yc
open Go.IntKind renaming i64 → yb
open Go.Proofs.YtjcpbhlijoigfaaGreat.Big renaming digs → yd, raw → ye, valL → yh, ln → yl, digs_ok → yn, okL_getD → yo, raw_big → yq, okL → yr, sg → yt, ln_mono' → yu, fq → yv, valL_digs → yw, valL_nonneg → yx, trimL → yz, len_digs_nil → yA, pw → yC, zTa → yD, cmp_ge → yE, nn → yF, sg_abs → yG, fr → yH
open Go.Proofs.Tryz renaming underlying39 → yf, underlying41 → yg, underlying120 → yi, underlying121 → yj, underlying69 → yk, prog → ym, underlying34 → yp, results129 → yy, underlying4 → yB
namespace Go.Proofs.YtjcpbhlijoigfaaGreat.Sp
open Go
set_option linter.unusedVariables false
set_option maxRecDepth 100000
set_option maxHeartbeats 8000000
theorem zeb {ex:Int} {ey:Int} (hwex: -9223372036854775808≤ex∧ex≤9223372036854775807) (hwey: -9223372036854775808≤ey∧ey≤9223372036854775807):Con ym 56 [.int .i64 ex,.int .i64 ey] [] [] (Y:=Wd×Wd×Wd×Wd) (fun y=>True) (fun y=> .agg #[y.1.b,y.1.l,y.2.1.b,y.2.1.l,y.2.2.1.b,y.2.2.1.l,y.2.2.2.b,y.2.2.2.l]) (fun y=>[]) (fun y=>[qF true y.1 y.2.1 ((Pg.pq ex ey).1),qF true y.2.2.1 y.2.2.2 ((Pg.pq ex ey).2)]):=by
 refine zm Tryz.func56 rfl rfl rfl (fun c=> ?_)
 show RunC _ _ _ _ _ [(0,.int .i64 ex),(1,.int .i64 ey)] [] []
 refine zg<|za<|zM rfl rfl (zn zr69 rfl) (fun b1=> ?_)
 refine zh<|zd<|zg<|za<|e_mv rfl<|zE rfl rfl (.c rfl .n) ce93 (zZc (z:=ex) (hz:=ass)) (.n) ?_
 rintro ⟨w32,w43⟩ -
 dsimp only [aq,nq,cq]
 refine e_mv rfl<|zE rfl rfl (.c rfl .n) ce93 (zZc (z:=ey) (hz:=ass)) (.n) ?_
 rintro ⟨w34,w45⟩ -
 dsimp only [aq,nq,cq]
 refine e_p (zJ zr69 rfl yk (.c sz43 (.c sz43 .n)) (.c rfl (.c rfl .n)) (.c rfl rfl rfl (.t4 .nil) (.c rfl rfl rfl (.s4 (.t4 .nil)) .n)))<|zk 0 rfl rfl rfl rfl rfl sz69 rfl (.t8 .nil) .z<|zh<|zd<|zH ?_
 exact zy Tryz.results56 (w32,w43,w34,w45) trivial (zu 0 ty69 rfl rfl (.t8 .nil)) rfl (ho:=(.n:PickO _ _ _)) ((.e (j:=1) rfl (by first|rfl|exact id) (.e (j:=0) rfl (by first|rfl|exact id) .n)):SelR _ _ _)
theorem zre {wa0:Wd} {wa1:Wd} {wa2:Wd} {wa3:Wd} {qa:Pg.Q2} {wb0:Wd} {wb1:Wd} {wb2:Wd} {wb3:Wd} {qb:Pg.Q2} {K:Nat} {K2:Nat} (hpa:Pg.hp K qa) (hpb:Pg.hp K2 qb) (hK:2*(K+K2)+1≤1000000):Con ym 95 [.agg #[wa0.b,wa0.l,wa1.b,wa1.l,wa2.b,wa2.l,wa3.b,wa3.l],.agg #[wb0.b,wb0.l,wb1.b,wb1.l,wb2.b,wb2.l,wb3.b,wb3.l]] [] [qF true wa0 wa1 (qa.1),qF true wa2 wa3 (qa.2),qF true wb0 wb1 (qb.1),qF true wb2 wb3 (qb.2)] (Y:=Wd×Wd) (fun y=>True) (fun y=> .agg #[y.1.b,y.1.l,y.2.b,y.2.l]) (fun y=>[]) (fun y=>[qF true y.1 y.2 (Pg.prq qa qb)]):=by
 refine zm Tryz.func95 rfl rfl rfl (fun c=> ?_)
 show RunC _ _ _ _ _ [(0,.agg #[wa0.b,wa0.l,wa1.b,wa1.l,wa2.b,wa2.l,wa3.b,wa3.l]),(1,.agg #[wb0.b,wb0.l,wb1.b,wb1.l,wb2.b,wb2.l,wb3.b,wb3.l])] [] [qF true wa0 wa1 (qa.1),qF true wa2 wa3 (qa.2),qF true wb0 wb1 (qb.1),qF true wb2 wb3 (qb.2)]
 obtain ⟨hb1,hb2,hb3⟩:=Pg.pb hpa hpb
 obtain ⟨ha1,ha2⟩:=id hpa
 obtain ⟨ha3,ha4⟩:=id hpb
 refine zg<|za<|zM rfl rfl (zR rfl rfl) (fun b1=> ?_)
 refine zM rfl rfl (zR rfl rfl) (fun b2=> ?_)
 refine zM rfl rfl (zn zr43 rfl) (fun b3=> ?_)
 refine zh<|zd<|zg<|zW (OW:=[boxA b3 43 (cw [wz,wz])]) (O:=[boxA b2 69 (cw [wb0,wb1,wb2,wb3]),boxA b1 69 (cw [wa0,wa1,wa2,wa3])]) 11 mixed (.then .ret) kr<|e_pv 0 rfl rfl (ze yk rfl sz43 rfl rfl)<|e_uw 1 rfl rfl (zc 2 ty43 rfl rfl (.t4 .nil))<|e_pv 2 rfl rfl (ze yk rfl sz43 rfl rfl)<|e_uw 3 rfl rfl (zc 1 ty43 rfl rfl (.s4 (.t4 .nil)))<|e_pv 5 rfl rfl (ze yk rfl sz43 rfl rfl)<|e_uw 6 rfl rfl (zc 1 ty43 rfl rfl (.t4 .nil))<|e_pv 7 rfl rfl (ze yk rfl sz43 rfl rfl)<|e_uw 8 rfl rfl (zc 2 ty43 rfl rfl (.s4 (.t4 .nil)))<|e_one 4 (zw rfl rfl rfl rfl (.c rfl (.c rfl .n)) ce102 (zVb (k1:=true) (u1:=wa0) (v1:=wa1) (q1:=qa.1) (k2:=true) (u2:=wb2) (v2:=wb3) (q2:=qb.2) (hl:=cbo)) (.c (j:=0) rfl (.c (j:=3) rfl .n)) ?_)
 rintro ⟨w34,w45⟩ -
 dsimp only [aq,nq,cq]
 refine e_one 9 (zw rfl rfl rfl rfl (.c rfl (.c rfl .n)) ce102 (zVb (k1:=true) (u1:=wb0) (v1:=wb1) (q1:=qb.1) (k2:=true) (u2:=wa2) (v2:=wa3) (q2:=qa.2) (hl:=cbo)) (.c (j:=3) rfl (.c (j:=2) rfl .n)) ?_)
 rintro ⟨w36,w47⟩ -
 dsimp only [aq,nq,cq]
 refine e_one 10 (zw rfl rfl rfl rfl (.c rfl (.c rfl .n)) ce100 (zIb (k1:=true) (u1:=w34) (v1:=w45) (q1:=qa.1*qb.2) (k2:=true) (u2:=w36) (v2:=w47) (q2:=qb.1*qa.2) (hl:=cbo)) (.c (j:=1) rfl (.c (j:=0) rfl .n)) ?_)
 rintro ⟨w38,w49⟩ -
 dsimp only [aq,nq,cq]
 refine e_one 11 (zv kr rfl rfl rfl rfl rfl sz43 rfl (.t4 .nil) ?_)
 refine zT kr<|zd<|zH ?_
 exact zy Tryz.results95 (w38,w49) trivial (zu 0 ty43 rfl rfl (.t4 .nil)) rfl (ho:=(.n:PickO _ _ _)) ((.e (j:=0) rfl (by first|rfl|exact id) .n):SelR _ _ _)
theorem zNc {wa0:Wd} {wa1:Wd} {wa2:Wd} {wa3:Wd} {qa:Pg.Q2} {wb0:Wd} {wb1:Wd} {wb2:Wd} {wb3:Wd} {qb:Pg.Q2} {K:Nat} {K2:Nat} (hpa:Pg.hp K qa) (hpb:Pg.hp K2 qb) (hK:K+K2+1≤1000000):Con ym 96 [.agg #[wa0.b,wa0.l,wa1.b,wa1.l,wa2.b,wa2.l,wa3.b,wa3.l],.agg #[wb0.b,wb0.l,wb1.b,wb1.l,wb2.b,wb2.l,wb3.b,wb3.l]] [] [qF true wa0 wa1 (qa.1),qF true wa2 wa3 (qa.2),qF true wb0 wb1 (qb.1),qF true wb2 wb3 (qb.2)] (Y:=Wd×Wd×Wd×Wd) (fun y=>True) (fun y=> .agg #[y.1.b,y.1.l,y.2.1.b,y.2.1.l,y.2.2.1.b,y.2.2.1.l,y.2.2.2.b,y.2.2.2.l]) (fun y=>[]) (fun y=>[qF true y.1 y.2.1 ((Pg.awq qa qb).1),qF true y.2.2.1 y.2.2.2 ((Pg.awq qa qb).2)]):=by
 refine zm Tryz.func96 rfl rfl rfl (fun c=> ?_)
 show RunC _ _ _ _ _ [(0,.agg #[wa0.b,wa0.l,wa1.b,wa1.l,wa2.b,wa2.l,wa3.b,wa3.l]),(1,.agg #[wb0.b,wb0.l,wb1.b,wb1.l,wb2.b,wb2.l,wb3.b,wb3.l])] [] [qF true wa0 wa1 (qa.1),qF true wa2 wa3 (qa.2),qF true wb0 wb1 (qb.1),qF true wb2 wb3 (qb.2)]
 obtain ⟨ha1,ha2⟩:=id hpa
 obtain ⟨ha3,ha4⟩:=id hpb
 refine zg<|za<|zM rfl rfl (zR rfl rfl) (fun b1=> ?_)
 refine zM rfl rfl (zR rfl rfl) (fun b2=> ?_)
 refine zM rfl rfl (zn zr69 rfl) (fun b3=> ?_)
 refine zh<|zd<|zg<|zW (OW:=[boxA b3 69 (cw [wz,wz,wz,wz])]) (O:=[boxA b2 69 (cw [wb0,wb1,wb2,wb3]),boxA b1 69 (cw [wa0,wa1,wa2,wa3])]) 11 mixed (.then .ret) kr<|e_pv 0 rfl rfl (ze yk rfl sz43 rfl rfl)<|e_uw 1 rfl rfl (zc 1 ty43 rfl rfl (.t4 .nil))<|e_pv 2 rfl rfl (ze yk rfl sz43 rfl rfl)<|e_uw 3 rfl rfl (zc 2 ty43 rfl rfl (.t4 .nil))<|e_pv 5 rfl rfl (ze yk rfl sz43 rfl rfl)<|e_uw 6 rfl rfl (zc 1 ty43 rfl rfl (.s4 (.t4 .nil)))<|e_pv 7 rfl rfl (ze yk rfl sz43 rfl rfl)<|e_uw 8 rfl rfl (zc 2 ty43 rfl rfl (.s4 (.t4 .nil)))<|e_one 4 (zw rfl rfl rfl rfl (.c rfl (.c rfl .n)) ce100 (zIb (k1:=true) (u1:=wb0) (v1:=wb1) (q1:=qb.1) (k2:=true) (u2:=wa0) (v2:=wa1) (q2:=qa.1) (hl:=cbo)) (.c (j:=2) rfl (.c (j:=0) rfl .n)) ?_)
 rintro ⟨w34,w45⟩ -
 dsimp only [aq,nq,cq]
 refine e_one 9 (zw rfl rfl rfl rfl (.c rfl (.c rfl .n)) ce100 (zIb (k1:=true) (u1:=wb2) (v1:=wb3) (q1:=qb.2) (k2:=true) (u2:=wa2) (v2:=wa3) (q2:=qa.2) (hl:=cbo)) (.c (j:=4) rfl (.c (j:=2) rfl .n)) ?_)
 rintro ⟨w36,w47⟩ -
 dsimp only [aq,nq,cq]
 refine e_pv 10 rfl rfl (zJ zr69 rfl yk (.c sz43 (.c sz43 .n)) (.c rfl (.c rfl .n)) (.c rfl rfl rfl (.t4 .nil) (.c rfl rfl rfl (.s4 (.t4 .nil)) .n)))<|e_one 11 (zv kr rfl rfl rfl rfl rfl sz69 rfl (.t8 .nil) ?_)
 refine zT kr<|zd<|zH ?_
 exact zy Tryz.results96 (w34,w45,w36,w47) trivial (zu 0 ty69 rfl rfl (.t8 .nil)) rfl (ho:=(.n:PickO _ _ _)) ((.e (j:=1) rfl (by first|rfl|exact id) (.e (j:=0) rfl (by first|rfl|exact id) .n)):SelR _ _ _)
theorem zjb {ba:Nat} {bb:Nat} {wa0:Wd} {wa1:Wd} {wa2:Wd} {wa3:Wd} {qa:Pg.Q2} {wb0:Wd} {wb1:Wd} {wb2:Wd} {wb3:Wd} {qb:Pg.Q2} {wd0:Wd} {wd1:Wd} {wd2:Wd} {wd3:Wd} {qd:Pg.Q2} {K:Nat} (hpa:Pg.hp 3 qa) (hpb:Pg.hp 3 qb) (hpd:Pg.hp K qd) (hK:2*K+23≤1000000):Con ym 94 [.agg #[wd0.b,wd0.l,wd1.b,wd1.l,wd2.b,wd2.l,wd3.b,wd3.l],.pointer (some ⟨ba,0,none⟩),.pointer (some ⟨bb,0,none⟩)] [] [atF ba 0 [wa0.b,wa0.l,wa1.b,wa1.l,wa2.b,wa2.l,wa3.b,wa3.l],atF bb 0 [wb0.b,wb0.l,wb1.b,wb1.l,wb2.b,wb2.l,wb3.b,wb3.l],qF true wa0 wa1 (qa.1),qF true wa2 wa3 (qa.2),qF true wb0 wb1 (qb.1),qF true wb2 wb3 (qb.2),qF true wd0 wd1 (qd.1),qF true wd2 wd3 (qd.2)] (Y:=Wd×Wd) (fun y=>True) (fun y=> .agg #[y.1.b,y.1.l,y.2.b,y.2.l]) (fun y=>[]) (fun y=>[qF true y.1 y.2 (Pg.sdq qa qb qd)]):=by
 refine zm Tryz.func94 rfl rfl rfl (fun c=> ?_)
 show RunC _ _ _ _ _ [(0,.agg #[wd0.b,wd0.l,wd1.b,wd1.l,wd2.b,wd2.l,wd3.b,wd3.l]),(1,.pointer (some ⟨ba,0,none⟩)),(2,.pointer (some ⟨bb,0,none⟩))] [] [atF ba 0 [wa0.b,wa0.l,wa1.b,wa1.l,wa2.b,wa2.l,wa3.b,wa3.l],atF bb 0 [wb0.b,wb0.l,wb1.b,wb1.l,wb2.b,wb2.l,wb3.b,wb3.l],qF true wa0 wa1 (qa.1),qF true wa2 wa3 (qa.2),qF true wb0 wb1 (qb.1),qF true wb2 wb3 (qb.2),qF true wd0 wd1 (qd.1),qF true wd2 wd3 (qd.2)]
 refine zg<|za<|zM rfl rfl (zR rfl rfl) (fun b1=> ?_)
 refine zM rfl rfl (zn zr43 rfl) (fun b2=> ?_)
 refine zh<|zd<|zg<|zW (OW:=[boxA b2 43 (cw [wz,wz])]) (O:=[boxA b1 69 (cw [wd0,wd1,wd2,wd3])]) 7 mixed (.then .ret) kr<|e_u 0 rfl rfl (zq (j:=0) 0 ty69 rfl rfl rfl (.t8 .nil))<|e_u 1 rfl rfl (zq (j:=0) 1 ty69 rfl rfl rfl (.t8 .nil))<|e_u 3 rfl rfl (zq (j:=0) 0 ty69 rfl rfl rfl (.t8 .nil))<|e_uw 4 rfl rfl (zc 1 ty69 rfl rfl (.t8 .nil))<|e_one 2 (zw rfl rfl rfl rfl (.c rfl (.c rfl .n)) ce96 (zNc (wa0:=wa0) (wa1:=wa1) (wa2:=wa2) (wa3:=wa3) (qa:=qa) (wb0:=wb0) (wb1:=wb1) (wb2:=wb2) (wb3:=wb3) (qb:=qb) (K:=3) (K2:=3) (hpa:=ass) (hpb:=ass) (hK:=by first|rfl|assumption|omega|exact Pg.hp_awq hpa hpb|exact Pg.hp_awq hpa hpd)) (.c (j:=2) rfl (.c (j:=3) rfl (.c (j:=4) rfl (.c (j:=5) rfl .n)))) ?_)
 rintro ⟨wr03,wr14,wr25,wr36⟩ -
 dsimp only [aq,nq,cq]
 refine e_one 5 (zw rfl rfl rfl rfl (.c rfl (.c rfl .n)) ce96 (zNc (wa0:=wa0) (wa1:=wa1) (wa2:=wa2) (wa3:=wa3) (qa:=qa) (wb0:=wd0) (wb1:=wd1) (wb2:=wd2) (wb3:=wd3) (qb:=qd) (K:=3) (K2:=K) (hpa:=ass) (hpb:=ass) (hK:=by first|rfl|assumption|omega|exact Pg.hp_awq hpa hpb|exact Pg.hp_awq hpa hpd)) (.c (j:=4) rfl (.c (j:=5) rfl (.c (j:=8) rfl (.c (j:=9) rfl .n)))) ?_)
 rintro ⟨wr07,wr18,wr29,wr310⟩ -
 dsimp only [aq,nq,cq]
 refine e_one 6 (zw rfl rfl rfl rfl (.c rfl (.c rfl .n)) ce95 (zre (wa0:=wr03) (wa1:=wr14) (wa2:=wr25) (wa3:=wr36) (qa:=(Pg.awq qa qb)) (wb0:=wr07) (wb1:=wr18) (wb2:=wr29) (wb3:=wr310) (qb:=(Pg.awq qa qd)) (K:=(3+3+1)) (K2:=(3+K+1)) (hpa:=by first|rfl|assumption|omega|exact Pg.hp_awq hpa hpb|exact Pg.hp_awq hpa hpd) (hpb:=by first|rfl|assumption|omega|exact Pg.hp_awq hpa hpb|exact Pg.hp_awq hpa hpd) (hK:=by first|rfl|assumption|omega|exact Pg.hp_awq hpa hpb|exact Pg.hp_awq hpa hpd)) (.c (j:=2) rfl (.c (j:=3) rfl (.c (j:=0) rfl (.c (j:=1) rfl .n)))) ?_)
 rintro ⟨w311,w412⟩ -
 dsimp only [aq,nq,cq]
 refine e_one 7 (zv kr rfl rfl rfl rfl rfl sz43 rfl (.t4 .nil) ?_)
 refine zT kr<|zd<|zH ?_
 exact zy Tryz.results94 (w311,w412) trivial (zu 0 ty43 rfl rfl (.t4 .nil)) rfl (ho:=(.n:PickO _ _ _)) ((.e (j:=0) rfl (by first|rfl|exact id) .n):SelR _ _ _)
theorem zOc {p:Option Addr} {n:Nat} {cap:Nat} {l:List Pg.Q2} {wa0:Wd} {wa1:Wd} {wa2:Wd} {wa3:Wd} {qa:Pg.Q2} {wb0:Wd} {wb1:Wd} {wb2:Wd} {wb3:Wd} {qb:Pg.Q2} {K:Nat} (hn:l.length=n) (hpa:Pg.hp 3 qa) (hpb:Pg.hp 3 qb) (hbq:Pg.bq K l) (hK:9*K+72≤500000) (hnK:n≤100000):Con ym 58 [.slice p n cap,.agg #[wa0.b,wa0.l,wa1.b,wa1.l,wa2.b,wa2.l,wa3.b,wa3.l],.agg #[wb0.b,wb0.l,wb1.b,wb1.l,wb2.b,wb2.l,wb3.b,wb3.l]] [] [slF rR p cap l,qF true wa0 wa1 (qa.1),qF true wa2 wa3 (qa.2),qF true wb0 wb1 (qb.1),qF true wb2 wb3 (qb.2)] (Y:=(Option Addr)×Nat) (fun y=>True) (fun y=> .slice (y.1) ((Pg.clL qa qb l).length) (y.2)) (fun y=>[rowA 69 rR (y.1) (y.2) (Pg.clL qa qb l)]) (fun y=>[]):=by
 refine zm Tryz.func58 rfl rfl rfl (fun c=> ?_)
 show RunC _ _ _ _ _ [(0,.slice p n cap),(1,.agg #[wa0.b,wa0.l,wa1.b,wa1.l,wa2.b,wa2.l,wa3.b,wa3.l]),(2,.agg #[wb0.b,wb0.l,wb1.b,wb1.l,wb2.b,wb2.l,wb3.b,wb3.l])] [] [slF rR p cap l,qF true wa0 wa1 (qa.1),qF true wa2 wa3 (qa.2),qF true wb0 wb1 (qb.1),qF true wb2 wb3 (qb.2)]
 refine zba 0 rfl (fun hL0=> ?_)
 refine zg<|za<|zM rfl rfl (zR rfl rfl) (fun b1=> ?_)
 refine zM rfl rfl (zR rfl rfl) (fun b2=> ?_)
 refine e_p (zb rfl)<|zh<|zd<|zg<|zMb 1 rfl (.s .z)<|zMb 0 rfl .z<|za<|e_p (zLa .n (.c rfl (.c rfl .n)))<|e_p (zb rfl)<|zh<|zd<|zg<|za<|e_p (zb rfl)<|zh<|zd<|zg<|zg<|zcb 69 rR<|za<|e_mv rfl<|e_p (zN yp rfl)<|e_mv rfl<|zh<|zd<|zB<|zka (X:=Nat×(Option Addr)×Nat) (fun x:Nat×(Option Addr)×Nat=>x.1≤n) (fun x=>[(8,.slice (x.2.1) ((Pg.clN n qa qb l x.1).length) (x.2.2)),(20,.int .i64 ((x.1:Nat):Int)),(19,.int .i64 ((n:Nat):Int)),(18,.slice p n cap),(7,.func (.func 94) #[] #[.pointer (some ⟨b1,0,none⟩),.pointer (some ⟨b2,0,none⟩)]),(6,.slice none 0 0),(0,.slice p n cap)]) (fun x=>[rowA 69 rR (x.2.1) (x.2.2) (Pg.clN n qa qb l x.1)]) (fun x=>[atF b2 0 [wb0.b,wb0.l,wb1.b,wb1.l,wb2.b,wb2.l,wb3.b,wb3.l],atF b1 0 [wa0.b,wa0.l,wa1.b,wa1.l,wa2.b,wa2.l,wa3.b,wa3.l],slF rR p cap l,qF true wa0 wa1 (qa.1),qF true wa2 wa3 (qa.2),qF true wb0 wb1 (qb.1),qF true wb2 wb3 (qb.2)]) (fun x:Nat×(Option Addr)×Nat=>n - x.1) (0,none,0) (show 0≤n from by exact Nat.zero_le _) ((.e rfl (by first|rfl|(congr 1;omega)|simp_all) (.e rfl (by first|rfl|(congr 1;omega)|simp_all) (.of rfl))):SubM _ _) (ho:=((.e (i:=0) rfl (by first|rfl|(congr 1;omega)|simp_all) .n):PickO _ _ _)) ((.of [0,1,2,3,4,5,6] rfl):SelR _ _ _) ?_
 rintro ⟨i,p7,c7⟩ hI
 replace hI:i≤n:=hI
 try dsimp only
 refine zg<|za<|e_p (zY rfl rfl)<|zh<|zd<|zg<|zC rfl (fun h3=> ?_) (fun h3=> ?_)
 ·
  have hm1:(i+1)%n<n:=Nat.mod_lt _ om
  have hpi:Pg.hp K (l.getD i ((0:Rat),(0:Rat))):=Pg.bq_at hbq om
  have hpj:Pg.hp K (l.getD ((i+1)%n) ((0:Rat),(0:Rat))):=Pg.bq_at hbq om
  have hsi:=Pg.hq_sdq hpa hpb hpi
  have hsj:=Pg.hq_sdq hpa hpb hpj
  obtain ⟨hpi1,hpi2⟩:=id hpi
  obtain ⟨hpj1,hpj2⟩:=id hpj
  have hsg:=Pg.sg_mul (Pg.sdq qa qb (l.getD i ((0:Rat),(0:Rat)))) (Pg.sdq qa qb (l.getD ((i+1)%n) ((0:Rat),(0:Rat))))
  have hcl:=Pg.clN_len (n:=n) (a:=qa) (b:=qb) (l:=l) i
  refine zA<|zd<|zg<|zB<|zg<|za<|e_mv rfl<|r_vl rfl rfl (zab (x0:=(l.getD i ((0:Rat),(0:Rat)))) 2 i rfl yp sz69 rfl cbs rfl rfl (gD (d:=((0:Rat),(0:Rat))) om)) ?_
  rintro ⟨b4,o5,w6,w7,w8,w9⟩ -
  dsimp only [aq,nq,cq]
  refine zrf open_rR<|e_ru (zq (j:=0) 0 ty69 rfl rfl rfl (.t8 .nil))<|zM rfl rfl (zn zr69 rfl) (fun b10=> ?_)
  refine e_p (zb rfl)<|zk 0 rfl rfl rfl rfl rfl sz69 rfl (.t8 .nil) .z<|zh<|zd<|zg<|za<|e_mv rfl<|e_mv rfl<|e_p (zI (z:=(((i+1):Nat):Int)) rfl rfl (w64 om))<|e_mv rfl<|e_p (zN yp rfl)<|e_p (zwa (z:=((((i+1)%n):Nat):Int)) rfl rfl om (remN om om))<|r_vl rfl rfl (zab (x0:=(l.getD ((i+1)%n) ((0:Rat),(0:Rat)))) 5 ((i+1)%n) rfl yp sz69 rfl cbs rfl rfl (gD (d:=((0:Rat),(0:Rat))) om)) ?_
  rintro ⟨b11,o12,w13,w14,w15,w16⟩ -
  dsimp only [aq,nq,cq]
  refine zrf open_rR<|e_ru (zq (j:=0) 0 ty69 rfl rfl rfl (.t8 .nil))<|zM rfl rfl (zn zr69 rfl) (fun b17=> ?_)
  refine zk 0 rfl rfl rfl rfl rfl sz69 rfl (.t8 .nil) .z<|zh<|zd<|zg<|zW (OW:=[]) (O:=[boxA b17 69 (cw [w13,w14,w15,w16]),boxA b10 69 (cw [w6,w7,w8,w9]),rowA 69 rR p7 c7 (Pg.clN n qa qb l i)]) 8 mixed (.then (.block (.then (.then (.block (.then .ret)))))) kr<|e_dm 0 rfl rfl rfl<|e_u 1 rfl rfl (zc 1 ty69 rfl rfl (.t8 .nil))<|e_dm 3 rfl rfl rfl<|e_u 4 rfl rfl (zc 0 ty69 rfl rfl (.t8 .nil))<|zUc (m':=[(37,.agg (cw [w13,w14,w15,w16]).toArray),(36,.func (.func 94) #[] #[.pointer (some ⟨b1,0,none⟩),.pointer (some ⟨b2,0,none⟩)]),(34,.agg (cw [w6,w7,w8,w9]).toArray),(33,.func (.func 94) #[] #[.pointer (some ⟨b1,0,none⟩),.pointer (some ⟨b2,0,none⟩)]),(11,.pointer (some ⟨b17,0,none⟩)),(10,.pointer (some ⟨b10,0,none⟩)),(8,.slice p7 ((Pg.clN n qa qb l i).length) c7),(20,.int .i64 ((i:Nat):Int)),(19,.int .i64 ((n:Nat):Int)),(18,.slice p n cap),(7,.func (.func 94) #[] #[.pointer (some ⟨b1,0,none⟩),.pointer (some ⟨b2,0,none⟩)]),(6,.slice none 0 0),(0,.slice p n cap)]) (R':=[qF true w13 w14 ((l.getD ((i+1)%n) ((0:Rat),(0:Rat))).1),qF true w15 w16 ((l.getD ((i+1)%n) ((0:Rat),(0:Rat))).2),qF true w6 w7 ((l.getD i ((0:Rat),(0:Rat))).1),qF true w8 w9 ((l.getD i ((0:Rat),(0:Rat))).2),atF b2 0 [wb0.b,wb0.l,wb1.b,wb1.l,wb2.b,wb2.l,wb3.b,wb3.l],atF b1 0 [wa0.b,wa0.l,wa1.b,wa1.l,wa2.b,wa2.l,wa3.b,wa3.l],slF rR p cap l,qF true wa0 wa1 (qa.1),qF true wa2 wa3 (qa.2),qF true wb0 wb1 (qb.1),qF true wb2 wb3 (qb.2)]) ((.of rfl):SubM _ _) (List.Perm.refl _) (List.Perm.refl _) ((.of [1,2,4,5,6,7,8,9,10,11,12] rfl):SelR _ _ _)<|zna (X:=Wd×Wd×Wd×Wd×Nat×Nat) (k':=0) (L':=(lb 10 1023)) (fun (u2_1,u2_2,u5_1,u5_2,u6_1,u7_1)=>([(13,.pointer (some ⟨u7_1,0,none⟩)),(12,.pointer (some ⟨u6_1,0,none⟩)),(11,.pointer (some ⟨b17,0,none⟩)),(10,.pointer (some ⟨b10,0,none⟩)),(8,.slice p7 ((Pg.clN n qa qb l i).length) c7),(20,.int .i64 ((i:Nat):Int)),(19,.int .i64 ((n:Nat):Int)),(18,.slice p n cap),(7,.func (.func 94) #[] #[.pointer (some ⟨b1,0,none⟩),.pointer (some ⟨b2,0,none⟩)]),(6,.slice none 0 0),(0,.slice p n cap)],[boxA u7_1 43 (cw [u5_1,u5_2]),boxA u6_1 43 (cw [u2_1,u2_2])],[boxA b17 69 (cw [w13,w14,w15,w16]),boxA b10 69 (cw [w6,w7,w8,w9]),rowA 69 rR p7 c7 (Pg.clN n qa qb l i)],[qF true u5_1 u5_2 (Pg.sdq qa qb (l.getD ((i+1)%n) ((0:Rat),(0:Rat)))),qF true u2_1 u2_2 (Pg.sdq qa qb (l.getD i ((0:Rat),(0:Rat)))),qF true w13 w14 ((l.getD ((i+1)%n) ((0:Rat),(0:Rat))).1),qF true w15 w16 ((l.getD ((i+1)%n) ((0:Rat),(0:Rat))).2),qF true w6 w7 ((l.getD i ((0:Rat),(0:Rat))).1),qF true w8 w9 ((l.getD i ((0:Rat),(0:Rat))).2),atF b2 0 [wb0.b,wb0.l,wb1.b,wb1.l,wb2.b,wb2.l,wb3.b,wb3.l],atF b1 0 [wa0.b,wa0.l,wa1.b,wa1.l,wa2.b,wa2.l,wa3.b,wa3.l],slF rR p cap l,qF true wa0 wa1 (qa.1),qF true wa2 wa3 (qa.2),qF true wb0 wb1 (qb.1),qF true wb2 wb3 (qb.2)])) ?_ (fun hD0=> ?_)
  ·
   rintro ⟨u2_1,u2_2,u5_1,u5_2,u6_1,u7_1⟩
   dsimp only [cw]
   refine zT kr<|zd<|zg<|zg<|za<|e_ru (zc 1 ty43 rfl rfl (.t4 .nil))<|zL rfl rfl (.c rfl .n) ce97 (zRb (k1:=true) (u1:=u2_1) (v1:=u2_2) (q1:=Pg.sdq qa qb (l.getD i ((0:Rat),(0:Rat))))) (.c (j:=1) rfl .n)<|e_p (zJa rfl rfl)<|zh<|zd<|zC rfl (fun hin=> ?_) (fun hin=> ?_)
   ·
    refine zqa (.c (i:=4) rfl (.c (i:=0) rfl (.c (i:=0) rfl (.c (i:=0) rfl (.c (i:=0) rfl .n)))))<|zW (OW:=[rowA 69 rR p7 c7 (Pg.clN n qa qb l i)]) (O:=[boxA u7_1 43 (cw [u5_1,u5_2]),boxA u6_1 43 (cw [u2_1,u2_2]),boxA b17 69 (cw [w13,w14,w15,w16]),boxA b10 69 (cw [w6,w7,w8,w9])]) 9 mixed (.then (.block (.then (.then (.block (.then .ret)))))) kr<|e_dm 0 rfl rfl rfl<|e_pv 1 rfl rfl (ze yk rfl sz43 rfl rfl)<|e_uw 2 rfl rfl (zc 4 ty43 rfl rfl (.t4 .nil))<|e_pv 4 rfl rfl (ze yk rfl sz43 rfl rfl)<|e_uw 5 rfl rfl (zc 4 ty43 rfl rfl (.s4 (.t4 .nil)))<|e_one 3 (zw rfl rfl rfl rfl (.c rfl .n) ce98 (zGa (k1:=true) (u1:=w6) (v1:=w7) (q1:=(l.getD i ((0:Rat),(0:Rat))).1)) (.c (j:=4) rfl .n) ?_)
    rintro ⟨w318,w419⟩ -
    dsimp only [aq,nq,cq]
    refine e_one 6 (zw rfl rfl rfl rfl (.c rfl .n) ce98 (zGa (k1:=true) (u1:=w8) (v1:=w9) (q1:=(l.getD i ((0:Rat),(0:Rat))).2)) (.c (j:=6) rfl .n) ?_)
    rintro ⟨w320,w421⟩ -
    dsimp only [aq,nq,cq]
    refine e_pv 7 rfl rfl (zJ zr69 rfl yk (.c sz43 (.c sz43 .n)) (.c rfl (.c rfl .n)) (.c rfl rfl rfl (.t4 .nil) (.c rfl rfl rfl (.s4 (.t4 .nil)) .n)))<|e_one 8 (zSc rfl rfl rfl rfl (zxa (r:=rR) (k:=1) yp inf69 rfl dd dd dd (.c (x:=(((l.getD i ((0:Rat),(0:Rat))).1),((l.getD i ((0:Rat),(0:Rat))).2))) (cs:=[w318.b,w318.l,w419.b,w419.l,w320.b,w320.l,w421.b,w421.l]) (w318,w419,w320,w421) rfl rfl rfl (fun g hr=>⟨Holds.get 1 rfl hr,Holds.get 0 rfl hr⟩) .n)) (fun b22 _=> ?_))
    refine zbb 0 rfl .z<|e_one 9 (zId (A':=fun v:Option Addr×Nat=>rowA 69 rR v.1 v.2 ((Pg.clN n qa qb l i)++([(((l.getD i ((0:Rat),(0:Rat))).1),((l.getD i ((0:Rat),(0:Rat))).2))]))) kr rfl rfl rfl (zsa 0 rfl yp inf69 dd rfl rfl cbs rfl cbs om om) ?_)
    rintro ⟨p23,c24⟩ -
    dsimp only [aq,nq,cq]
    refine e_pv 10 rfl rfl (zb rfl)<|zT kr<|zd<|zg<|zW (OW:=[]) (O:=[rowA 69 rR p23 c24 ((Pg.clN n qa qb l i)++([(((l.getD i ((0:Rat),(0:Rat))).1),((l.getD i ((0:Rat),(0:Rat))).2))])),emA,boxA u7_1 43 (cw [u5_1,u5_2]),boxA u6_1 43 (cw [u2_1,u2_2]),boxA b17 69 (cw [w13,w14,w15,w16]),boxA b10 69 (cw [w6,w7,w8,w9])]) 100000 mixed (.then (.block (.then (.then (.block (.then .ret)))))) kr<|e_u 0 rfl rfl (zc 3 ty43 rfl rfl (.t4 .nil))<|e_u 2 rfl rfl (zc 2 ty43 rfl rfl (.t4 .nil))<|e_one 1 (zpa rfl rfl rfl rfl (.c rfl .n) ce97 (zRb (k1:=true) (u1:=u2_1) (v1:=u2_2) (q1:=Pg.sdq qa qb (l.getD i ((0:Rat),(0:Rat))))) (.c (j:=4) rfl .n) ?_)
    refine e_one 3 (zpa rfl rfl rfl rfl (.c rfl .n) ce97 (zRb (k1:=true) (u1:=u5_1) (v1:=u5_2) (q1:=Pg.sdq qa qb (l.getD ((i+1)%n) ((0:Rat),(0:Rat))))) (.c (j:=3) rfl .n) ?_)
    refine e_pv 4 rfl rfl (zya (z:=(Big.sgq (Pg.sdq qa qb (l.getD i ((0:Rat),(0:Rat))))*Big.sgq (Pg.sdq qa qb (l.getD ((i+1)%n) ((0:Rat),(0:Rat)))))) rfl rfl (w64 om))<|e_pv 5 rfl rfl (zY rfl rfl)<|zT kr<|zd<|zC rfl (fun hcr=> ?_) (fun hcr=> ?_)
    ·
     have hne:=Pg.opp hcr
     obtain ⟨hnd,hnf,⟨hnw1,hnw2⟩,hn1,hn2,⟨hnp1,hnp2⟩⟩:=Pg.nb hsi hsj hne hpi hpj
     refine zg<|zW (OW:=[]) (O:=[rowA 69 rR p23 c24 ((Pg.clN n qa qb l i)++([(((l.getD i ((0:Rat),(0:Rat))).1),((l.getD i ((0:Rat),(0:Rat))).2))])),emA,boxA u7_1 43 (cw [u5_1,u5_2]),boxA u6_1 43 (cw [u2_1,u2_2]),boxA b17 69 (cw [w13,w14,w15,w16]),boxA b10 69 (cw [w6,w7,w8,w9])]) 9 mixed (.then (.block (.then (.then (.block (.then .ret)))))) kr<|e_u 0 rfl rfl (zc 3 ty43 rfl rfl (.t4 .nil))<|e_u 1 rfl rfl (zc 3 ty43 rfl rfl (.t4 .nil))<|e_u 2 rfl rfl (zc 2 ty43 rfl rfl (.t4 .nil))<|zUc (m':=[(61,.agg (cw [u5_1,u5_2]).toArray),(60,.agg (cw [u2_1,u2_2]).toArray),(59,.agg (cw [u2_1,u2_2]).toArray),(8,.slice p23 (((Pg.clN n qa qb l i).length)+1) c24),(11,.pointer (some ⟨b17,0,none⟩)),(10,.pointer (some ⟨b10,0,none⟩)),(20,.int .i64 ((i:Nat):Int)),(19,.int .i64 ((n:Nat):Int)),(18,.slice p n cap),(7,.func (.func 94) #[] #[.pointer (some ⟨b1,0,none⟩),.pointer (some ⟨b2,0,none⟩)]),(6,.slice none 0 0),(0,.slice p n cap)]) (R':=[slF rR (some ⟨b22,0,none⟩) 1 ([(((l.getD i ((0:Rat),(0:Rat))).1),((l.getD i ((0:Rat),(0:Rat))).2))]),qF true w320 w421 ((l.getD i ((0:Rat),(0:Rat))).2),qF true w318 w419 ((l.getD i ((0:Rat),(0:Rat))).1),qF true u5_1 u5_2 (Pg.sdq qa qb (l.getD ((i+1)%n) ((0:Rat),(0:Rat)))),qF true u2_1 u2_2 (Pg.sdq qa qb (l.getD i ((0:Rat),(0:Rat)))),qF true w13 w14 ((l.getD ((i+1)%n) ((0:Rat),(0:Rat))).1),qF true w15 w16 ((l.getD ((i+1)%n) ((0:Rat),(0:Rat))).2),qF true w6 w7 ((l.getD i ((0:Rat),(0:Rat))).1),qF true w8 w9 ((l.getD i ((0:Rat),(0:Rat))).2),atF b2 0 [wb0.b,wb0.l,wb1.b,wb1.l,wb2.b,wb2.l,wb3.b,wb3.l],atF b1 0 [wa0.b,wa0.l,wa1.b,wa1.l,wa2.b,wa2.l,wa3.b,wa3.l],slF rR p cap l,qF true wa0 wa1 (qa.1),qF true wa2 wa3 (qa.2),qF true wb0 wb1 (qb.1),qF true wb2 wb3 (qb.2)]) ((.of rfl):SubM _ _) (List.Perm.refl _) (List.Perm.refl _) ((.of [0,1,2,3,4,5,6,7,8,9,10,11,12,13,14,15] rfl):SelR _ _ _)<|zna (X:=Wd×Wd×Wd×Wd×Nat) (k':=0) (L':=(lb 11 2047)) (fun (u3_1r2,u3_2r2,u4_1r2,u4_2r2,u8_1r2)=>([(14,.pointer (some ⟨u8_1r2,0,none⟩)),(8,.slice p23 (((Pg.clN n qa qb l i).length)+1) c24),(11,.pointer (some ⟨b17,0,none⟩)),(10,.pointer (some ⟨b10,0,none⟩)),(20,.int .i64 ((i:Nat):Int)),(19,.int .i64 ((n:Nat):Int)),(18,.slice p n cap),(7,.func (.func 94) #[] #[.pointer (some ⟨b1,0,none⟩),.pointer (some ⟨b2,0,none⟩)]),(6,.slice none 0 0),(0,.slice p n cap)],[boxA u8_1r2 43 (cw [u4_1r2,u4_2r2])],[rowA 69 rR p23 c24 ((Pg.clN n qa qb l i)++([(((l.getD i ((0:Rat),(0:Rat))).1),((l.getD i ((0:Rat),(0:Rat))).2))])),emA,boxA u7_1 43 (cw [u5_1,u5_2]),boxA u6_1 43 (cw [u2_1,u2_2]),boxA b17 69 (cw [w13,w14,w15,w16]),boxA b10 69 (cw [w6,w7,w8,w9])],[qF true u4_1r2 u4_2r2 ((Pg.sdq qa qb (l.getD i ((0:Rat),(0:Rat)))) / ((Pg.sdq qa qb (l.getD i ((0:Rat),(0:Rat)))) - (Pg.sdq qa qb (l.getD ((i+1)%n) ((0:Rat),(0:Rat)))))),qF true u3_1r2 u3_2r2 ((Pg.sdq qa qb (l.getD i ((0:Rat),(0:Rat)))) - (Pg.sdq qa qb (l.getD ((i+1)%n) ((0:Rat),(0:Rat))))),slF rR (some ⟨b22,0,none⟩) 1 ([(((l.getD i ((0:Rat),(0:Rat))).1),((l.getD i ((0:Rat),(0:Rat))).2))]),qF true w320 w421 ((l.getD i ((0:Rat),(0:Rat))).2),qF true w318 w419 ((l.getD i ((0:Rat),(0:Rat))).1),qF true u5_1 u5_2 (Pg.sdq qa qb (l.getD ((i+1)%n) ((0:Rat),(0:Rat)))),qF true u2_1 u2_2 (Pg.sdq qa qb (l.getD i ((0:Rat),(0:Rat)))),qF true w13 w14 ((l.getD ((i+1)%n) ((0:Rat),(0:Rat))).1),qF true w15 w16 ((l.getD ((i+1)%n) ((0:Rat),(0:Rat))).2),qF true w6 w7 ((l.getD i ((0:Rat),(0:Rat))).1),qF true w8 w9 ((l.getD i ((0:Rat),(0:Rat))).2),atF b2 0 [wb0.b,wb0.l,wb1.b,wb1.l,wb2.b,wb2.l,wb3.b,wb3.l],atF b1 0 [wa0.b,wa0.l,wa1.b,wa1.l,wa2.b,wa2.l,wa3.b,wa3.l],slF rR p cap l,qF true wa0 wa1 (qa.1),qF true wa2 wa3 (qa.2),qF true wb0 wb1 (qb.1),qF true wb2 wb3 (qb.2)])) ?_ (fun hD0=> ?_)
     ·
      rintro ⟨u3_1r2,u3_2r2,u4_1r2,u4_2r2,u8_1r2⟩
      dsimp only [cw]
      refine zT kr<|zd<|zg<|za<|e_ru (zc 6 ty69 rfl rfl (.t8 .nil))<|e_ru (zc 5 ty69 rfl rfl (.t8 .nil))<|zE rfl rfl (.c rfl (.c rfl .n)) ce96 (zNc (wa0:=w6) (wa1:=w7) (wa2:=w8) (wa3:=w9) (qa:=(l.getD i ((0:Rat),(0:Rat)))) (wb0:=w13) (wb1:=w14) (wb2:=w15) (wb3:=w16) (qb:=(l.getD ((i+1)%n) ((0:Rat),(0:Rat)))) (K:=K) (K2:=K) (hpa:=cbo) (hpb:=cbo) (hK:=cbo)) (.c (j:=9) rfl (.c (j:=10) rfl (.c (j:=7) rfl (.c (j:=8) rfl .n)))) ?_
      rintro ⟨wr025,wr126,wr227,wr328⟩ -
      dsimp only [aq,nq,cq]
      refine zM rfl rfl (zn zr69 rfl) (fun b29=> ?_)
      refine zk 0 rfl rfl rfl rfl rfl sz69 rfl (.t8 .nil) .z<|zh<|zd<|zqa (.c (i:=2) rfl (.c (i:=0) rfl (.c (i:=0) rfl (.c (i:=0) rfl (.c (i:=0) rfl (.c (i:=0) rfl (.c (i:=0) rfl (.c (i:=0) rfl .n))))))))<|zW (OW:=[rowA 69 rR p23 c24 ((Pg.clN n qa qb l i)++([(((l.getD i ((0:Rat),(0:Rat))).1),((l.getD i ((0:Rat),(0:Rat))).2))]))]) (O:=[boxA b29 69 (cw [wr025,wr126,wr227,wr328]),boxA u8_1r2 43 (cw [u4_1r2,u4_2r2]),emA,boxA u7_1 43 (cw [u5_1,u5_2]),boxA u6_1 43 (cw [u2_1,u2_2]),boxA b17 69 (cw [w13,w14,w15,w16]),boxA b10 69 (cw [w6,w7,w8,w9])]) 17 mixed (.block (.then (.then (.block (.then .ret))))) kr<|e_dm 0 rfl rfl rfl<|e_pv 1 rfl rfl (ze yk rfl sz43 rfl rfl)<|e_uw 2 rfl rfl (zc 7 ty43 rfl rfl (.t4 .nil))<|e_uw 3 rfl rfl (zc 2 ty43 rfl rfl (.t4 .nil))<|e_pv 4 rfl rfl (ze yk rfl sz43 rfl rfl)<|e_uw 5 rfl rfl (zc 1 ty43 rfl rfl (.t4 .nil))<|e_pv 8 rfl rfl (ze yk rfl sz43 rfl rfl)<|e_uw 9 rfl rfl (zc 7 ty43 rfl rfl (.s4 (.t4 .nil)))<|e_uw 10 rfl rfl (zc 2 ty43 rfl rfl (.t4 .nil))<|e_pv 11 rfl rfl (ze yk rfl sz43 rfl rfl)<|e_uw 12 rfl rfl (zc 1 ty43 rfl rfl (.s4 (.t4 .nil)))<|e_one 6 (zw rfl rfl rfl rfl (.c rfl (.c rfl .n)) ce102 (zVb (k1:=true) (u1:=u4_1r2) (v1:=u4_2r2) (q1:=(Pg.sdq qa qb (l.getD i ((0:Rat),(0:Rat)))) / ((Pg.sdq qa qb (l.getD i ((0:Rat),(0:Rat)))) - (Pg.sdq qa qb (l.getD ((i+1)%n) ((0:Rat),(0:Rat)))))) (k2:=true) (u2:=wr025) (v2:=wr126) (q2:=(Pg.awq (l.getD i ((0:Rat),(0:Rat))) (l.getD ((i+1)%n) ((0:Rat),(0:Rat)))).1) (hl:=cbo)) (.c (j:=2) rfl (.c (j:=0) rfl .n)) ?_)
      rintro ⟨w330,w431⟩ -
      dsimp only [aq,nq,cq]
      refine e_one 7 (zw rfl rfl rfl rfl (.c rfl (.c rfl .n)) ce101 (zsc (k1:=true) (u1:=w6) (v1:=w7) (q1:=(l.getD i ((0:Rat),(0:Rat))).1) (k2:=true) (u2:=w330) (v2:=w431) (q2:=((Pg.sdq qa qb (l.getD i ((0:Rat),(0:Rat)))) / ((Pg.sdq qa qb (l.getD i ((0:Rat),(0:Rat)))) - (Pg.sdq qa qb (l.getD ((i+1)%n) ((0:Rat),(0:Rat))))))*((Pg.awq (l.getD i ((0:Rat),(0:Rat))) (l.getD ((i+1)%n) ((0:Rat),(0:Rat)))).1)) (hl:=cbo)) (.c (j:=12) rfl (.c (j:=0) rfl .n)) ?_)
      rintro ⟨w332,w433⟩ -
      dsimp only [aq,nq,cq]
      refine e_one 13 (zw rfl rfl rfl rfl (.c rfl (.c rfl .n)) ce102 (zVb (k1:=true) (u1:=u4_1r2) (v1:=u4_2r2) (q1:=(Pg.sdq qa qb (l.getD i ((0:Rat),(0:Rat)))) / ((Pg.sdq qa qb (l.getD i ((0:Rat),(0:Rat)))) - (Pg.sdq qa qb (l.getD ((i+1)%n) ((0:Rat),(0:Rat)))))) (k2:=true) (u2:=wr227) (v2:=wr328) (q2:=(Pg.awq (l.getD i ((0:Rat),(0:Rat))) (l.getD ((i+1)%n) ((0:Rat),(0:Rat)))).2) (hl:=cbo)) (.c (j:=4) rfl (.c (j:=3) rfl .n)) ?_)
      rintro ⟨w334,w435⟩ -
      dsimp only [aq,nq,cq]
      refine e_one 14 (zw rfl rfl rfl rfl (.c rfl (.c rfl .n)) ce101 (zsc (k1:=true) (u1:=w8) (v1:=w9) (q1:=(l.getD i ((0:Rat),(0:Rat))).2) (k2:=true) (u2:=w334) (v2:=w435) (q2:=((Pg.sdq qa qb (l.getD i ((0:Rat),(0:Rat)))) / ((Pg.sdq qa qb (l.getD i ((0:Rat),(0:Rat)))) - (Pg.sdq qa qb (l.getD ((i+1)%n) ((0:Rat),(0:Rat))))))*((Pg.awq (l.getD i ((0:Rat),(0:Rat))) (l.getD ((i+1)%n) ((0:Rat),(0:Rat)))).2)) (hl:=cbo)) (.c (j:=15) rfl (.c (j:=0) rfl .n)) ?_)
      rintro ⟨w336,w437⟩ -
      dsimp only [aq,nq,cq]
      refine e_pv 15 rfl rfl (zJ zr69 rfl yk (.c sz43 (.c sz43 .n)) (.c rfl (.c rfl .n)) (.c rfl rfl rfl (.t4 .nil) (.c rfl rfl rfl (.s4 (.t4 .nil)) .n)))<|e_one 16 (zSc rfl rfl rfl rfl (zxa (r:=rR) (k:=1) yp inf69 rfl dd dd dd (.c (x:=((((l.getD i ((0:Rat),(0:Rat))).1)+(((Pg.sdq qa qb (l.getD i ((0:Rat),(0:Rat)))) / ((Pg.sdq qa qb (l.getD i ((0:Rat),(0:Rat)))) - (Pg.sdq qa qb (l.getD ((i+1)%n) ((0:Rat),(0:Rat))))))*((Pg.awq (l.getD i ((0:Rat),(0:Rat))) (l.getD ((i+1)%n) ((0:Rat),(0:Rat)))).1))),(((l.getD i ((0:Rat),(0:Rat))).2)+(((Pg.sdq qa qb (l.getD i ((0:Rat),(0:Rat)))) / ((Pg.sdq qa qb (l.getD i ((0:Rat),(0:Rat)))) - (Pg.sdq qa qb (l.getD ((i+1)%n) ((0:Rat),(0:Rat))))))*((Pg.awq (l.getD i ((0:Rat),(0:Rat))) (l.getD ((i+1)%n) ((0:Rat),(0:Rat)))).2))))) (cs:=[w332.b,w332.l,w433.b,w433.l,w336.b,w336.l,w437.b,w437.l]) (w332,w433,w336,w437) rfl rfl rfl (fun g hr=>⟨Holds.get 2 rfl hr,Holds.get 0 rfl hr⟩) .n)) (fun b38 _=> ?_))
      refine zbb 0 rfl .z<|e_one 17 (zId (A':=fun v:Option Addr×Nat=>rowA 69 rR v.1 v.2 (((Pg.clN n qa qb l i)++([(((l.getD i ((0:Rat),(0:Rat))).1),((l.getD i ((0:Rat),(0:Rat))).2))]))++([((((l.getD i ((0:Rat),(0:Rat))).1)+(((Pg.sdq qa qb (l.getD i ((0:Rat),(0:Rat)))) / ((Pg.sdq qa qb (l.getD i ((0:Rat),(0:Rat)))) - (Pg.sdq qa qb (l.getD ((i+1)%n) ((0:Rat),(0:Rat))))))*((Pg.awq (l.getD i ((0:Rat),(0:Rat))) (l.getD ((i+1)%n) ((0:Rat),(0:Rat)))).1))),(((l.getD i ((0:Rat),(0:Rat))).2)+(((Pg.sdq qa qb (l.getD i ((0:Rat),(0:Rat)))) / ((Pg.sdq qa qb (l.getD i ((0:Rat),(0:Rat)))) - (Pg.sdq qa qb (l.getD ((i+1)%n) ((0:Rat),(0:Rat))))))*((Pg.awq (l.getD i ((0:Rat),(0:Rat))) (l.getD ((i+1)%n) ((0:Rat),(0:Rat)))).2))))]))) kr rfl rfl rfl (zsa 0 rfl yp inf69 dd rfl rfl cbs rfl cbs om om) ?_)
      rintro ⟨p39,c40⟩ -
      dsimp only [aq,nq,cq]
      refine e_pv 18 rfl rfl (zb rfl)<|zT kr<|zO<|zd ?_
      have hrw:(((Pg.clN n qa qb l i)++([(((l.getD i ((0:Rat),(0:Rat))).1),((l.getD i ((0:Rat),(0:Rat))).2))]))++([((((l.getD i ((0:Rat),(0:Rat))).1)+(((Pg.sdq qa qb (l.getD i ((0:Rat),(0:Rat)))) / ((Pg.sdq qa qb (l.getD i ((0:Rat),(0:Rat)))) - (Pg.sdq qa qb (l.getD ((i+1)%n) ((0:Rat),(0:Rat))))))*((Pg.awq (l.getD i ((0:Rat),(0:Rat))) (l.getD ((i+1)%n) ((0:Rat),(0:Rat)))).1))),(((l.getD i ((0:Rat),(0:Rat))).2)+(((Pg.sdq qa qb (l.getD i ((0:Rat),(0:Rat)))) / ((Pg.sdq qa qb (l.getD i ((0:Rat),(0:Rat)))) - (Pg.sdq qa qb (l.getD ((i+1)%n) ((0:Rat),(0:Rat))))))*((Pg.awq (l.getD i ((0:Rat),(0:Rat))) (l.getD ((i+1)%n) ((0:Rat),(0:Rat)))).2))))]))=Pg.clN n qa qb l (i+1):=by show _=Pg.clN n qa qb l i++Pg.clA qa qb _ _;first|(rw [Pg.clA_yes hin hcr,List.append_assoc];done)|(rw [Pg.clA_yes hin hcr,List.append_assoc];rfl)|(rw [Pg.clA_in hin hcr];done)|(rw [Pg.clA_in hin hcr];rfl)|(rw [Pg.clA_new hin hcr];done)|(rw [Pg.clA_new hin hcr];rfl)|(rw [Pg.clA_no hin hcr,List.append_nil];done)|(rw [Pg.clA_no hin hcr,List.append_nil];rfl)
      rw [hrw]
      refine za<|e_p (zI (z:=(((i+1):Nat):Int)) rfl rfl (w64 om))<|e_mv rfl<|zh<|zda ((i+1),p39,c40) (show (i+1)≤n from by show i+1≤n;omega) (by show n - (i+1)<n - i;omega) ((.e rfl (by first|(refine congrArg (fun z=>Value.slice _ z _) ?_;dsimp only;rw [← hrw];simp;done)|(refine congrArg (fun z=>Value.slice _ z _) ?_;dsimp only;rw [← hrw];done)|(refine congrArg (fun z=>Value.slice _ z _) ?_;rw [← hrw];done)|(rw [← hrw];done)) (.of rfl)):SubM _ _) (ho:=((.c (i:=0) rfl .n):PickO _ _ _)) ((.of [18,19,20,21,22,23,24] rfl):SelR _ _ _)
     refine zna (X:=Wd×Wd×Wd×Wd×Nat) (k':=2) (L':=(lb 11 511)) (fun (u3_1r2,u3_2r2,u4_1r2,u4_2r2,u8_1r2)=>([(14,.pointer (some ⟨u8_1r2,0,none⟩)),(65,.int .i64 0),(64,.agg (cw [u4_1r2,u4_2r2]).toArray),(8,.slice p23 (((Pg.clN n qa qb l i).length)+1) c24),(11,.pointer (some ⟨b17,0,none⟩)),(10,.pointer (some ⟨b10,0,none⟩)),(20,.int .i64 ((i:Nat):Int)),(19,.int .i64 ((n:Nat):Int)),(18,.slice p n cap),(7,.func (.func 94) #[] #[.pointer (some ⟨b1,0,none⟩),.pointer (some ⟨b2,0,none⟩)]),(6,.slice none 0 0),(0,.slice p n cap)],[boxA u8_1r2 43 (cw [wz,wz])],[rowA 69 rR p23 c24 ((Pg.clN n qa qb l i)++([(((l.getD i ((0:Rat),(0:Rat))).1),((l.getD i ((0:Rat),(0:Rat))).2))])),emA,boxA u7_1 43 (cw [u5_1,u5_2]),boxA u6_1 43 (cw [u2_1,u2_2]),boxA b17 69 (cw [w13,w14,w15,w16]),boxA b10 69 (cw [w6,w7,w8,w9])],[qF true u4_1r2 u4_2r2 ((Pg.sdq qa qb (l.getD i ((0:Rat),(0:Rat)))) / ((Pg.sdq qa qb (l.getD i ((0:Rat),(0:Rat)))) - (Pg.sdq qa qb (l.getD ((i+1)%n) ((0:Rat),(0:Rat)))))),qF true u3_1r2 u3_2r2 ((Pg.sdq qa qb (l.getD i ((0:Rat),(0:Rat)))) - (Pg.sdq qa qb (l.getD ((i+1)%n) ((0:Rat),(0:Rat))))),slF rR (some ⟨b22,0,none⟩) 1 ([(((l.getD i ((0:Rat),(0:Rat))).1),((l.getD i ((0:Rat),(0:Rat))).2))]),qF true w320 w421 ((l.getD i ((0:Rat),(0:Rat))).2),qF true w318 w419 ((l.getD i ((0:Rat),(0:Rat))).1),qF true u5_1 u5_2 (Pg.sdq qa qb (l.getD ((i+1)%n) ((0:Rat),(0:Rat)))),qF true u2_1 u2_2 (Pg.sdq qa qb (l.getD i ((0:Rat),(0:Rat)))),qF true w13 w14 ((l.getD ((i+1)%n) ((0:Rat),(0:Rat))).1),qF true w15 w16 ((l.getD ((i+1)%n) ((0:Rat),(0:Rat))).2),qF true w6 w7 ((l.getD i ((0:Rat),(0:Rat))).1),qF true w8 w9 ((l.getD i ((0:Rat),(0:Rat))).2),atF b2 0 [wb0.b,wb0.l,wb1.b,wb1.l,wb2.b,wb2.l,wb3.b,wb3.l],atF b1 0 [wa0.b,wa0.l,wa1.b,wa1.l,wa2.b,wa2.l,wa3.b,wa3.l],slF rR p cap l,qF true wa0 wa1 (qa.1),qF true wa2 wa3 (qa.2),qF true wb0 wb1 (qb.1),qF true wb2 wb3 (qb.2)])) ?_ (fun hD1=> ?_)
     ·
      rintro ⟨u3_1r2,u3_2r2,u4_1r2,u4_2r2,u8_1r2⟩
      dsimp only [cw]
      refine zUa 9 kr ?_
      ·
       refine zv kr rfl rfl rfl rfl rfl sz43 rfl (.t4 .nil)<|e_pv 10 rfl rfl (zb rfl) ?_
       exact zU (hD0 (u3_1r2,u3_2r2,u4_1r2,u4_2r2,u8_1r2)) kr ((.of rfl):SubM _ _) .rfl .rfl ((.of [0,1,2,3,4,5,6,7,8,9,10,11,12,13,14,15,16,17] rfl):SelR _ _ _)
     refine zna (X:=Wd×Wd×Wd×Wd) (k':=3) (L':=(lb 11 255)) (fun (u3_1r2,u3_2r2,u4_1r2,u4_2r2)=>([(65,.int .i64 0),(64,.agg (cw [u4_1r2,u4_2r2]).toArray),(8,.slice p23 (((Pg.clN n qa qb l i).length)+1) c24),(11,.pointer (some ⟨b17,0,none⟩)),(10,.pointer (some ⟨b10,0,none⟩)),(20,.int .i64 ((i:Nat):Int)),(19,.int .i64 ((n:Nat):Int)),(18,.slice p n cap),(7,.func (.func 94) #[] #[.pointer (some ⟨b1,0,none⟩),.pointer (some ⟨b2,0,none⟩)]),(6,.slice none 0 0),(0,.slice p n cap)],[],[rowA 69 rR p23 c24 ((Pg.clN n qa qb l i)++([(((l.getD i ((0:Rat),(0:Rat))).1),((l.getD i ((0:Rat),(0:Rat))).2))])),emA,boxA u7_1 43 (cw [u5_1,u5_2]),boxA u6_1 43 (cw [u2_1,u2_2]),boxA b17 69 (cw [w13,w14,w15,w16]),boxA b10 69 (cw [w6,w7,w8,w9])],[qF true u4_1r2 u4_2r2 ((Pg.sdq qa qb (l.getD i ((0:Rat),(0:Rat)))) / ((Pg.sdq qa qb (l.getD i ((0:Rat),(0:Rat)))) - (Pg.sdq qa qb (l.getD ((i+1)%n) ((0:Rat),(0:Rat)))))),qF true u3_1r2 u3_2r2 ((Pg.sdq qa qb (l.getD i ((0:Rat),(0:Rat)))) - (Pg.sdq qa qb (l.getD ((i+1)%n) ((0:Rat),(0:Rat))))),slF rR (some ⟨b22,0,none⟩) 1 ([(((l.getD i ((0:Rat),(0:Rat))).1),((l.getD i ((0:Rat),(0:Rat))).2))]),qF true w320 w421 ((l.getD i ((0:Rat),(0:Rat))).2),qF true w318 w419 ((l.getD i ((0:Rat),(0:Rat))).1),qF true u5_1 u5_2 (Pg.sdq qa qb (l.getD ((i+1)%n) ((0:Rat),(0:Rat)))),qF true u2_1 u2_2 (Pg.sdq qa qb (l.getD i ((0:Rat),(0:Rat)))),qF true w13 w14 ((l.getD ((i+1)%n) ((0:Rat),(0:Rat))).1),qF true w15 w16 ((l.getD ((i+1)%n) ((0:Rat),(0:Rat))).2),qF true w6 w7 ((l.getD i ((0:Rat),(0:Rat))).1),qF true w8 w9 ((l.getD i ((0:Rat),(0:Rat))).2),atF b2 0 [wb0.b,wb0.l,wb1.b,wb1.l,wb2.b,wb2.l,wb3.b,wb3.l],atF b1 0 [wa0.b,wa0.l,wa1.b,wa1.l,wa2.b,wa2.l,wa3.b,wa3.l],slF rR p cap l,qF true wa0 wa1 (qa.1),qF true wa2 wa3 (qa.2),qF true wb0 wb1 (qb.1),qF true wb2 wb3 (qb.2)])) ?_ (fun hD2=> ?_)
     ·
      rintro ⟨u3_1r2,u3_2r2,u4_1r2,u4_2r2⟩
      dsimp only [cw]
      refine zUa 8 kr ?_
      ·
       refine zta rfl rfl rfl rfl (zn zr43 rfl) (fun u8_1r2 _=> ?_)
       exact zU (hD1 (u3_1r2,u3_2r2,u4_1r2,u4_2r2,u8_1r2)) kr ((.of rfl):SubM _ _) .rfl .rfl ((.of [0,1,2,3,4,5,6,7,8,9,10,11,12,13,14,15,16,17] rfl):SelR _ _ _)
     refine zna (X:=Wd×Wd×Nat) (k':=6) (L':=(lb 11 271)) (fun (u3_1r2,u3_2r2,u8_1r2)=>([(14,.pointer (some ⟨u8_1r2,0,none⟩)),(62,.agg (cw [u3_1r2,u3_2r2]).toArray),(59,.agg (cw [u2_1,u2_2]).toArray),(8,.slice p23 (((Pg.clN n qa qb l i).length)+1) c24),(11,.pointer (some ⟨b17,0,none⟩)),(10,.pointer (some ⟨b10,0,none⟩)),(20,.int .i64 ((i:Nat):Int)),(19,.int .i64 ((n:Nat):Int)),(18,.slice p n cap),(7,.func (.func 94) #[] #[.pointer (some ⟨b1,0,none⟩),.pointer (some ⟨b2,0,none⟩)]),(6,.slice none 0 0),(0,.slice p n cap)],[boxA u8_1r2 43 (cw [wz,wz])],[rowA 69 rR p23 c24 ((Pg.clN n qa qb l i)++([(((l.getD i ((0:Rat),(0:Rat))).1),((l.getD i ((0:Rat),(0:Rat))).2))])),emA,boxA u7_1 43 (cw [u5_1,u5_2]),boxA u6_1 43 (cw [u2_1,u2_2]),boxA b17 69 (cw [w13,w14,w15,w16]),boxA b10 69 (cw [w6,w7,w8,w9])],[qF true u3_1r2 u3_2r2 ((Pg.sdq qa qb (l.getD i ((0:Rat),(0:Rat)))) - (Pg.sdq qa qb (l.getD ((i+1)%n) ((0:Rat),(0:Rat))))),slF rR (some ⟨b22,0,none⟩) 1 ([(((l.getD i ((0:Rat),(0:Rat))).1),((l.getD i ((0:Rat),(0:Rat))).2))]),qF true w320 w421 ((l.getD i ((0:Rat),(0:Rat))).2),qF true w318 w419 ((l.getD i ((0:Rat),(0:Rat))).1),qF true u5_1 u5_2 (Pg.sdq qa qb (l.getD ((i+1)%n) ((0:Rat),(0:Rat)))),qF true u2_1 u2_2 (Pg.sdq qa qb (l.getD i ((0:Rat),(0:Rat)))),qF true w13 w14 ((l.getD ((i+1)%n) ((0:Rat),(0:Rat))).1),qF true w15 w16 ((l.getD ((i+1)%n) ((0:Rat),(0:Rat))).2),qF true w6 w7 ((l.getD i ((0:Rat),(0:Rat))).1),qF true w8 w9 ((l.getD i ((0:Rat),(0:Rat))).2),atF b2 0 [wb0.b,wb0.l,wb1.b,wb1.l,wb2.b,wb2.l,wb3.b,wb3.l],atF b1 0 [wa0.b,wa0.l,wa1.b,wa1.l,wa2.b,wa2.l,wa3.b,wa3.l],slF rR p cap l,qF true wa0 wa1 (qa.1),qF true wa2 wa3 (qa.2),qF true wb0 wb1 (qb.1),qF true wb2 wb3 (qb.2)])) ?_ (fun hD3=> ?_)
     ·
      rintro ⟨u3_1r2,u3_2r2,u8_1r2⟩
      dsimp only [cw]
      refine zUa 4 kr ?_
      ·
       refine zw rfl rfl rfl rfl (.c rfl (.c rfl .n)) ce99 (zmb (k1:=true) (u1:=u2_1) (v1:=u2_2) (q1:=Pg.sdq qa qb (l.getD i ((0:Rat),(0:Rat)))) (k2:=true) (u2:=u3_1r2) (v2:=u3_2r2) (q2:=(Pg.sdq qa qb (l.getD i ((0:Rat),(0:Rat)))) - (Pg.sdq qa qb (l.getD ((i+1)%n) ((0:Rat),(0:Rat))))) (hl:=cbo) (hy:=cbo)) (.c (j:=5) rfl (.c (j:=0) rfl .n)) ?_
       rintro ⟨u4_1r2,u4_2r2⟩ -
       dsimp only [aq,nq,cq]
       refine e_dm 5 rfl rfl rfl<|e_pv 6 rfl rfl (zr rfl rfl)<|e_pv 7 rfl rfl (zr rfl rfl) ?_
       exact zU (hD1 (u3_1r2,u3_2r2,u4_1r2,u4_2r2,u8_1r2)) kr ((.of rfl):SubM _ _) .rfl .rfl ((.of [0,1,2,3,4,5,6,7,8,9,10,11,12,13,14,15,16,17] rfl):SelR _ _ _)
     refine zna (X:=Wd×Wd) (k':=7) (L':=(lb 11 15)) (fun (u3_1r2,u3_2r2)=>([(62,.agg (cw [u3_1r2,u3_2r2]).toArray),(59,.agg (cw [u2_1,u2_2]).toArray),(8,.slice p23 (((Pg.clN n qa qb l i).length)+1) c24),(11,.pointer (some ⟨b17,0,none⟩)),(10,.pointer (some ⟨b10,0,none⟩)),(20,.int .i64 ((i:Nat):Int)),(19,.int .i64 ((n:Nat):Int)),(18,.slice p n cap),(7,.func (.func 94) #[] #[.pointer (some ⟨b1,0,none⟩),.pointer (some ⟨b2,0,none⟩)]),(6,.slice none 0 0),(0,.slice p n cap)],[],[rowA 69 rR p23 c24 ((Pg.clN n qa qb l i)++([(((l.getD i ((0:Rat),(0:Rat))).1),((l.getD i ((0:Rat),(0:Rat))).2))])),emA,boxA u7_1 43 (cw [u5_1,u5_2]),boxA u6_1 43 (cw [u2_1,u2_2]),boxA b17 69 (cw [w13,w14,w15,w16]),boxA b10 69 (cw [w6,w7,w8,w9])],[qF true u3_1r2 u3_2r2 ((Pg.sdq qa qb (l.getD i ((0:Rat),(0:Rat)))) - (Pg.sdq qa qb (l.getD ((i+1)%n) ((0:Rat),(0:Rat))))),slF rR (some ⟨b22,0,none⟩) 1 ([(((l.getD i ((0:Rat),(0:Rat))).1),((l.getD i ((0:Rat),(0:Rat))).2))]),qF true w320 w421 ((l.getD i ((0:Rat),(0:Rat))).2),qF true w318 w419 ((l.getD i ((0:Rat),(0:Rat))).1),qF true u5_1 u5_2 (Pg.sdq qa qb (l.getD ((i+1)%n) ((0:Rat),(0:Rat)))),qF true u2_1 u2_2 (Pg.sdq qa qb (l.getD i ((0:Rat),(0:Rat)))),qF true w13 w14 ((l.getD ((i+1)%n) ((0:Rat),(0:Rat))).1),qF true w15 w16 ((l.getD ((i+1)%n) ((0:Rat),(0:Rat))).2),qF true w6 w7 ((l.getD i ((0:Rat),(0:Rat))).1),qF true w8 w9 ((l.getD i ((0:Rat),(0:Rat))).2),atF b2 0 [wb0.b,wb0.l,wb1.b,wb1.l,wb2.b,wb2.l,wb3.b,wb3.l],atF b1 0 [wa0.b,wa0.l,wa1.b,wa1.l,wa2.b,wa2.l,wa3.b,wa3.l],slF rR p cap l,qF true wa0 wa1 (qa.1),qF true wa2 wa3 (qa.2),qF true wb0 wb1 (qb.1),qF true wb2 wb3 (qb.2)])) ?_ (fun hD4=> ?_)
     ·
      rintro ⟨u3_1r2,u3_2r2⟩
      dsimp only [cw]
      refine zLb 4 8 kr ?_ ?_
      ·
       refine zw rfl rfl rfl rfl (.c rfl (.c rfl .n)) ce99 (zmb (k1:=true) (u1:=u2_1) (v1:=u2_2) (q1:=Pg.sdq qa qb (l.getD i ((0:Rat),(0:Rat)))) (k2:=true) (u2:=u3_1r2) (v2:=u3_2r2) (q2:=(Pg.sdq qa qb (l.getD i ((0:Rat),(0:Rat)))) - (Pg.sdq qa qb (l.getD ((i+1)%n) ((0:Rat),(0:Rat))))) (hl:=cbo) (hy:=cbo)) (.c (j:=5) rfl (.c (j:=0) rfl .n)) ?_
       rintro ⟨u4_1r2,u4_2r2⟩ -
       dsimp only [aq,nq,cq]
       refine e_dm 5 rfl rfl rfl<|e_pv 6 rfl rfl (zr rfl rfl)<|e_pv 7 rfl rfl (zr rfl rfl) ?_
       exact zU (hD2 (u3_1r2,u3_2r2,u4_1r2,u4_2r2)) kr ((.of rfl):SubM _ _) .rfl .rfl ((.of [0,1,2,3,4,5,6,7,8,9,10,11,12,13,14,15,16,17] rfl):SelR _ _ _)
      ·
       refine zta rfl rfl rfl rfl (zn zr43 rfl) (fun u8_1r2 _=> ?_)
       exact zU (hD3 (u3_1r2,u3_2r2,u8_1r2)) kr ((.of rfl):SubM _ _) .rfl .rfl ((.of [0,1,2,3,4,5,6,7,8,9,10,11,12,13,14,15,16] rfl):SelR _ _ _)
     refine zna (X:=Nat) (k':=7) (L':=(lb 11 263)) (fun u8_1r2=>([(14,.pointer (some ⟨u8_1r2,0,none⟩)),(61,.agg (cw [u5_1,u5_2]).toArray),(60,.agg (cw [u2_1,u2_2]).toArray),(59,.agg (cw [u2_1,u2_2]).toArray),(8,.slice p23 (((Pg.clN n qa qb l i).length)+1) c24),(11,.pointer (some ⟨b17,0,none⟩)),(10,.pointer (some ⟨b10,0,none⟩)),(20,.int .i64 ((i:Nat):Int)),(19,.int .i64 ((n:Nat):Int)),(18,.slice p n cap),(7,.func (.func 94) #[] #[.pointer (some ⟨b1,0,none⟩),.pointer (some ⟨b2,0,none⟩)]),(6,.slice none 0 0),(0,.slice p n cap)],[boxA u8_1r2 43 (cw [wz,wz])],[rowA 69 rR p23 c24 ((Pg.clN n qa qb l i)++([(((l.getD i ((0:Rat),(0:Rat))).1),((l.getD i ((0:Rat),(0:Rat))).2))])),emA,boxA u7_1 43 (cw [u5_1,u5_2]),boxA u6_1 43 (cw [u2_1,u2_2]),boxA b17 69 (cw [w13,w14,w15,w16]),boxA b10 69 (cw [w6,w7,w8,w9])],[slF rR (some ⟨b22,0,none⟩) 1 ([(((l.getD i ((0:Rat),(0:Rat))).1),((l.getD i ((0:Rat),(0:Rat))).2))]),qF true w320 w421 ((l.getD i ((0:Rat),(0:Rat))).2),qF true w318 w419 ((l.getD i ((0:Rat),(0:Rat))).1),qF true u5_1 u5_2 (Pg.sdq qa qb (l.getD ((i+1)%n) ((0:Rat),(0:Rat)))),qF true u2_1 u2_2 (Pg.sdq qa qb (l.getD i ((0:Rat),(0:Rat)))),qF true w13 w14 ((l.getD ((i+1)%n) ((0:Rat),(0:Rat))).1),qF true w15 w16 ((l.getD ((i+1)%n) ((0:Rat),(0:Rat))).2),qF true w6 w7 ((l.getD i ((0:Rat),(0:Rat))).1),qF true w8 w9 ((l.getD i ((0:Rat),(0:Rat))).2),atF b2 0 [wb0.b,wb0.l,wb1.b,wb1.l,wb2.b,wb2.l,wb3.b,wb3.l],atF b1 0 [wa0.b,wa0.l,wa1.b,wa1.l,wa2.b,wa2.l,wa3.b,wa3.l],slF rR p cap l,qF true wa0 wa1 (qa.1),qF true wa2 wa3 (qa.2),qF true wb0 wb1 (qb.1),qF true wb2 wb3 (qb.2)])) ?_ (fun hD5=> ?_)
     ·
      rintro u8_1r2
      dsimp only [cw]
      refine zUa 3 kr ?_
      ·
       refine zw rfl rfl rfl rfl (.c rfl (.c rfl .n)) ce100 (zIb (k1:=true) (u1:=u2_1) (v1:=u2_2) (q1:=Pg.sdq qa qb (l.getD i ((0:Rat),(0:Rat)))) (k2:=true) (u2:=u5_1) (v2:=u5_2) (q2:=Pg.sdq qa qb (l.getD ((i+1)%n) ((0:Rat),(0:Rat)))) (hl:=cbo)) (.c (j:=4) rfl (.c (j:=3) rfl .n)) ?_
       rintro ⟨u3_1r2,u3_2r2⟩ -
       dsimp only [aq,nq,cq]
       exact zU (hD3 (u3_1r2,u3_2r2,u8_1r2)) kr ((.of rfl):SubM _ _) .rfl .rfl ((.of [0,1,2,3,4,5,6,7,8,9,10,11,12,13,14,15,16] rfl):SelR _ _ _)
     refine zLb 3 8 kr ?_ ?_
     ·
      refine zw rfl rfl rfl rfl (.c rfl (.c rfl .n)) ce100 (zIb (k1:=true) (u1:=u2_1) (v1:=u2_2) (q1:=Pg.sdq qa qb (l.getD i ((0:Rat),(0:Rat)))) (k2:=true) (u2:=u5_1) (v2:=u5_2) (q2:=Pg.sdq qa qb (l.getD ((i+1)%n) ((0:Rat),(0:Rat)))) (hl:=cbo)) (.c (j:=4) rfl (.c (j:=3) rfl .n)) ?_
      rintro ⟨u3_1r2,u3_2r2⟩ -
      dsimp only [aq,nq,cq]
      exact zU (hD4 (u3_1r2,u3_2r2)) kr ((.of rfl):SubM _ _) .rfl .rfl ((.of [0,1,2,3,4,5,6,7,8,9,10,11,12,13,14,15,16] rfl):SelR _ _ _)
     ·
      refine zta rfl rfl rfl rfl (zn zr43 rfl) (fun u8_1r2 _=> ?_)
      exact zU (hD5 u8_1r2) kr ((.of rfl):SubM _ _) .rfl .rfl ((.of [0,1,2,3,4,5,6,7,8,9,10,11,12,13,14,15] rfl):SelR _ _ _)
    ·
     refine zA<|zO<|zd ?_
     have hrw:((Pg.clN n qa qb l i)++([(((l.getD i ((0:Rat),(0:Rat))).1),((l.getD i ((0:Rat),(0:Rat))).2))]))=Pg.clN n qa qb l (i+1):=by show _=Pg.clN n qa qb l i++Pg.clA qa qb _ _;first|(rw [Pg.clA_yes hin hcr,List.append_assoc];done)|(rw [Pg.clA_yes hin hcr,List.append_assoc];rfl)|(rw [Pg.clA_in hin hcr];done)|(rw [Pg.clA_in hin hcr];rfl)|(rw [Pg.clA_new hin hcr];done)|(rw [Pg.clA_new hin hcr];rfl)|(rw [Pg.clA_no hin hcr,List.append_nil];done)|(rw [Pg.clA_no hin hcr,List.append_nil];rfl)
     rw [hrw]
     refine za<|e_p (zI (z:=(((i+1):Nat):Int)) rfl rfl (w64 om))<|e_mv rfl<|zh<|zda ((i+1),p23,c24) (show (i+1)≤n from by show i+1≤n;omega) (by show n - (i+1)<n - i;omega) ((.e rfl (by first|(refine congrArg (fun z=>Value.slice _ z _) ?_;dsimp only;rw [← hrw];simp;done)|(refine congrArg (fun z=>Value.slice _ z _) ?_;dsimp only;rw [← hrw];done)|(refine congrArg (fun z=>Value.slice _ z _) ?_;rw [← hrw];done)|(rw [← hrw];done)) (.of rfl)):SubM _ _) (ho:=((.c (i:=0) rfl .n):PickO _ _ _)) ((.of [9,10,11,12,13,14,15] rfl):SelR _ _ _)
   ·
    refine zA<|zd<|zg<|zW (OW:=[]) (O:=[boxA u7_1 43 (cw [u5_1,u5_2]),boxA u6_1 43 (cw [u2_1,u2_2]),boxA b17 69 (cw [w13,w14,w15,w16]),boxA b10 69 (cw [w6,w7,w8,w9]),rowA 69 rR p7 c7 (Pg.clN n qa qb l i)]) 100000 mixed (.then (.block (.then (.then (.block (.then .ret)))))) kr<|e_u 0 rfl rfl (zc 1 ty43 rfl rfl (.t4 .nil))<|e_u 2 rfl rfl (zc 0 ty43 rfl rfl (.t4 .nil))<|e_one 1 (zpa rfl rfl rfl rfl (.c rfl .n) ce97 (zRb (k1:=true) (u1:=u2_1) (v1:=u2_2) (q1:=Pg.sdq qa qb (l.getD i ((0:Rat),(0:Rat))))) (.c (j:=1) rfl .n) ?_)
    refine e_one 3 (zpa rfl rfl rfl rfl (.c rfl .n) ce97 (zRb (k1:=true) (u1:=u5_1) (v1:=u5_2) (q1:=Pg.sdq qa qb (l.getD ((i+1)%n) ((0:Rat),(0:Rat))))) (.c (j:=0) rfl .n) ?_)
    refine e_pv 4 rfl rfl (zya (z:=(Big.sgq (Pg.sdq qa qb (l.getD i ((0:Rat),(0:Rat))))*Big.sgq (Pg.sdq qa qb (l.getD ((i+1)%n) ((0:Rat),(0:Rat)))))) rfl rfl (w64 om))<|e_pv 5 rfl rfl (zY rfl rfl)<|zT kr<|zd<|zC rfl (fun hcr=> ?_) (fun hcr=> ?_)
    ·
     have hne:=Pg.opp hcr
     obtain ⟨hnd,hnf,⟨hnw1,hnw2⟩,hn1,hn2,⟨hnp1,hnp2⟩⟩:=Pg.nb hsi hsj hne hpi hpj
     refine zg<|zW (OW:=[]) (O:=[boxA u7_1 43 (cw [u5_1,u5_2]),boxA u6_1 43 (cw [u2_1,u2_2]),boxA b17 69 (cw [w13,w14,w15,w16]),boxA b10 69 (cw [w6,w7,w8,w9]),rowA 69 rR p7 c7 (Pg.clN n qa qb l i)]) 9 mixed (.then (.block (.then (.then (.block (.then .ret)))))) kr<|e_u 0 rfl rfl (zc 1 ty43 rfl rfl (.t4 .nil))<|e_u 1 rfl rfl (zc 1 ty43 rfl rfl (.t4 .nil))<|e_u 2 rfl rfl (zc 0 ty43 rfl rfl (.t4 .nil))<|zUc (m':=[(61,.agg (cw [u5_1,u5_2]).toArray),(60,.agg (cw [u2_1,u2_2]).toArray),(59,.agg (cw [u2_1,u2_2]).toArray),(11,.pointer (some ⟨b17,0,none⟩)),(10,.pointer (some ⟨b10,0,none⟩)),(8,.slice p7 ((Pg.clN n qa qb l i).length) c7),(20,.int .i64 ((i:Nat):Int)),(19,.int .i64 ((n:Nat):Int)),(18,.slice p n cap),(7,.func (.func 94) #[] #[.pointer (some ⟨b1,0,none⟩),.pointer (some ⟨b2,0,none⟩)]),(6,.slice none 0 0),(0,.slice p n cap)]) (R':=[qF true u5_1 u5_2 (Pg.sdq qa qb (l.getD ((i+1)%n) ((0:Rat),(0:Rat)))),qF true u2_1 u2_2 (Pg.sdq qa qb (l.getD i ((0:Rat),(0:Rat)))),qF true w13 w14 ((l.getD ((i+1)%n) ((0:Rat),(0:Rat))).1),qF true w15 w16 ((l.getD ((i+1)%n) ((0:Rat),(0:Rat))).2),qF true w6 w7 ((l.getD i ((0:Rat),(0:Rat))).1),qF true w8 w9 ((l.getD i ((0:Rat),(0:Rat))).2),atF b2 0 [wb0.b,wb0.l,wb1.b,wb1.l,wb2.b,wb2.l,wb3.b,wb3.l],atF b1 0 [wa0.b,wa0.l,wa1.b,wa1.l,wa2.b,wa2.l,wa3.b,wa3.l],slF rR p cap l,qF true wa0 wa1 (qa.1),qF true wa2 wa3 (qa.2),qF true wb0 wb1 (qb.1),qF true wb2 wb3 (qb.2)]) ((.of rfl):SubM _ _) (List.Perm.refl _) (List.Perm.refl _) ((.of [0,1,2,3,4,5,6,7,8,9,10,11,12] rfl):SelR _ _ _)<|zna (X:=Wd×Wd×Wd×Wd×Nat) (k':=0) (L':=(lb 11 2047)) (fun (u3_1r3,u3_2r3,u4_1r3,u4_2r3,u8_1r3)=>([(14,.pointer (some ⟨u8_1r3,0,none⟩)),(11,.pointer (some ⟨b17,0,none⟩)),(10,.pointer (some ⟨b10,0,none⟩)),(8,.slice p7 ((Pg.clN n qa qb l i).length) c7),(20,.int .i64 ((i:Nat):Int)),(19,.int .i64 ((n:Nat):Int)),(18,.slice p n cap),(7,.func (.func 94) #[] #[.pointer (some ⟨b1,0,none⟩),.pointer (some ⟨b2,0,none⟩)]),(6,.slice none 0 0),(0,.slice p n cap)],[boxA u8_1r3 43 (cw [u4_1r3,u4_2r3])],[boxA u7_1 43 (cw [u5_1,u5_2]),boxA u6_1 43 (cw [u2_1,u2_2]),boxA b17 69 (cw [w13,w14,w15,w16]),boxA b10 69 (cw [w6,w7,w8,w9]),rowA 69 rR p7 c7 (Pg.clN n qa qb l i)],[qF true u4_1r3 u4_2r3 ((Pg.sdq qa qb (l.getD i ((0:Rat),(0:Rat)))) / ((Pg.sdq qa qb (l.getD i ((0:Rat),(0:Rat)))) - (Pg.sdq qa qb (l.getD ((i+1)%n) ((0:Rat),(0:Rat)))))),qF true u3_1r3 u3_2r3 ((Pg.sdq qa qb (l.getD i ((0:Rat),(0:Rat)))) - (Pg.sdq qa qb (l.getD ((i+1)%n) ((0:Rat),(0:Rat))))),qF true u5_1 u5_2 (Pg.sdq qa qb (l.getD ((i+1)%n) ((0:Rat),(0:Rat)))),qF true u2_1 u2_2 (Pg.sdq qa qb (l.getD i ((0:Rat),(0:Rat)))),qF true w13 w14 ((l.getD ((i+1)%n) ((0:Rat),(0:Rat))).1),qF true w15 w16 ((l.getD ((i+1)%n) ((0:Rat),(0:Rat))).2),qF true w6 w7 ((l.getD i ((0:Rat),(0:Rat))).1),qF true w8 w9 ((l.getD i ((0:Rat),(0:Rat))).2),atF b2 0 [wb0.b,wb0.l,wb1.b,wb1.l,wb2.b,wb2.l,wb3.b,wb3.l],atF b1 0 [wa0.b,wa0.l,wa1.b,wa1.l,wa2.b,wa2.l,wa3.b,wa3.l],slF rR p cap l,qF true wa0 wa1 (qa.1),qF true wa2 wa3 (qa.2),qF true wb0 wb1 (qb.1),qF true wb2 wb3 (qb.2)])) ?_ (fun hD0=> ?_)
     ·
      rintro ⟨u3_1r3,u3_2r3,u4_1r3,u4_2r3,u8_1r3⟩
      dsimp only [cw]
      refine zT kr<|zd<|zg<|za<|e_ru (zc 4 ty69 rfl rfl (.t8 .nil))<|e_ru (zc 3 ty69 rfl rfl (.t8 .nil))<|zE rfl rfl (.c rfl (.c rfl .n)) ce96 (zNc (wa0:=w6) (wa1:=w7) (wa2:=w8) (wa3:=w9) (qa:=(l.getD i ((0:Rat),(0:Rat)))) (wb0:=w13) (wb1:=w14) (wb2:=w15) (wb3:=w16) (qb:=(l.getD ((i+1)%n) ((0:Rat),(0:Rat)))) (K:=K) (K2:=K) (hpa:=cbo) (hpb:=cbo) (hK:=cbo)) (.c (j:=6) rfl (.c (j:=7) rfl (.c (j:=4) rfl (.c (j:=5) rfl .n)))) ?_
      rintro ⟨wr041,wr142,wr243,wr344⟩ -
      dsimp only [aq,nq,cq]
      refine zM rfl rfl (zn zr69 rfl) (fun b45=> ?_)
      refine zk 0 rfl rfl rfl rfl rfl sz69 rfl (.t8 .nil) .z<|zh<|zd<|zqa (.c (i:=6) rfl (.c (i:=0) rfl (.c (i:=0) rfl (.c (i:=0) rfl (.c (i:=0) rfl (.c (i:=0) rfl (.c (i:=0) rfl .n)))))))<|zW (OW:=[rowA 69 rR p7 c7 (Pg.clN n qa qb l i)]) (O:=[boxA b45 69 (cw [wr041,wr142,wr243,wr344]),boxA u8_1r3 43 (cw [u4_1r3,u4_2r3]),boxA u7_1 43 (cw [u5_1,u5_2]),boxA u6_1 43 (cw [u2_1,u2_2]),boxA b17 69 (cw [w13,w14,w15,w16]),boxA b10 69 (cw [w6,w7,w8,w9])]) 17 mixed (.block (.then (.then (.block (.then .ret))))) kr<|e_dm 0 rfl rfl rfl<|e_pv 1 rfl rfl (ze yk rfl sz43 rfl rfl)<|e_uw 2 rfl rfl (zc 6 ty43 rfl rfl (.t4 .nil))<|e_uw 3 rfl rfl (zc 2 ty43 rfl rfl (.t4 .nil))<|e_pv 4 rfl rfl (ze yk rfl sz43 rfl rfl)<|e_uw 5 rfl rfl (zc 1 ty43 rfl rfl (.t4 .nil))<|e_pv 8 rfl rfl (ze yk rfl sz43 rfl rfl)<|e_uw 9 rfl rfl (zc 6 ty43 rfl rfl (.s4 (.t4 .nil)))<|e_uw 10 rfl rfl (zc 2 ty43 rfl rfl (.t4 .nil))<|e_pv 11 rfl rfl (ze yk rfl sz43 rfl rfl)<|e_uw 12 rfl rfl (zc 1 ty43 rfl rfl (.s4 (.t4 .nil)))<|e_one 6 (zw rfl rfl rfl rfl (.c rfl (.c rfl .n)) ce102 (zVb (k1:=true) (u1:=u4_1r3) (v1:=u4_2r3) (q1:=(Pg.sdq qa qb (l.getD i ((0:Rat),(0:Rat)))) / ((Pg.sdq qa qb (l.getD i ((0:Rat),(0:Rat)))) - (Pg.sdq qa qb (l.getD ((i+1)%n) ((0:Rat),(0:Rat)))))) (k2:=true) (u2:=wr041) (v2:=wr142) (q2:=(Pg.awq (l.getD i ((0:Rat),(0:Rat))) (l.getD ((i+1)%n) ((0:Rat),(0:Rat)))).1) (hl:=cbo)) (.c (j:=2) rfl (.c (j:=0) rfl .n)) ?_)
      rintro ⟨w346,w447⟩ -
      dsimp only [aq,nq,cq]
      refine e_one 7 (zw rfl rfl rfl rfl (.c rfl (.c rfl .n)) ce101 (zsc (k1:=true) (u1:=w6) (v1:=w7) (q1:=(l.getD i ((0:Rat),(0:Rat))).1) (k2:=true) (u2:=w346) (v2:=w447) (q2:=((Pg.sdq qa qb (l.getD i ((0:Rat),(0:Rat)))) / ((Pg.sdq qa qb (l.getD i ((0:Rat),(0:Rat)))) - (Pg.sdq qa qb (l.getD ((i+1)%n) ((0:Rat),(0:Rat))))))*((Pg.awq (l.getD i ((0:Rat),(0:Rat))) (l.getD ((i+1)%n) ((0:Rat),(0:Rat)))).1)) (hl:=cbo)) (.c (j:=9) rfl (.c (j:=0) rfl .n)) ?_)
      rintro ⟨w348,w449⟩ -
      dsimp only [aq,nq,cq]
      refine e_one 13 (zw rfl rfl rfl rfl (.c rfl (.c rfl .n)) ce102 (zVb (k1:=true) (u1:=u4_1r3) (v1:=u4_2r3) (q1:=(Pg.sdq qa qb (l.getD i ((0:Rat),(0:Rat)))) / ((Pg.sdq qa qb (l.getD i ((0:Rat),(0:Rat)))) - (Pg.sdq qa qb (l.getD ((i+1)%n) ((0:Rat),(0:Rat)))))) (k2:=true) (u2:=wr243) (v2:=wr344) (q2:=(Pg.awq (l.getD i ((0:Rat),(0:Rat))) (l.getD ((i+1)%n) ((0:Rat),(0:Rat)))).2) (hl:=cbo)) (.c (j:=4) rfl (.c (j:=3) rfl .n)) ?_)
      rintro ⟨w350,w451⟩ -
      dsimp only [aq,nq,cq]
      refine e_one 14 (zw rfl rfl rfl rfl (.c rfl (.c rfl .n)) ce101 (zsc (k1:=true) (u1:=w8) (v1:=w9) (q1:=(l.getD i ((0:Rat),(0:Rat))).2) (k2:=true) (u2:=w350) (v2:=w451) (q2:=((Pg.sdq qa qb (l.getD i ((0:Rat),(0:Rat)))) / ((Pg.sdq qa qb (l.getD i ((0:Rat),(0:Rat)))) - (Pg.sdq qa qb (l.getD ((i+1)%n) ((0:Rat),(0:Rat))))))*((Pg.awq (l.getD i ((0:Rat),(0:Rat))) (l.getD ((i+1)%n) ((0:Rat),(0:Rat)))).2)) (hl:=cbo)) (.c (j:=12) rfl (.c (j:=0) rfl .n)) ?_)
      rintro ⟨w352,w453⟩ -
      dsimp only [aq,nq,cq]
      refine e_pv 15 rfl rfl (zJ zr69 rfl yk (.c sz43 (.c sz43 .n)) (.c rfl (.c rfl .n)) (.c rfl rfl rfl (.t4 .nil) (.c rfl rfl rfl (.s4 (.t4 .nil)) .n)))<|e_one 16 (zSc rfl rfl rfl rfl (zxa (r:=rR) (k:=1) yp inf69 rfl dd dd dd (.c (x:=((((l.getD i ((0:Rat),(0:Rat))).1)+(((Pg.sdq qa qb (l.getD i ((0:Rat),(0:Rat)))) / ((Pg.sdq qa qb (l.getD i ((0:Rat),(0:Rat)))) - (Pg.sdq qa qb (l.getD ((i+1)%n) ((0:Rat),(0:Rat))))))*((Pg.awq (l.getD i ((0:Rat),(0:Rat))) (l.getD ((i+1)%n) ((0:Rat),(0:Rat)))).1))),(((l.getD i ((0:Rat),(0:Rat))).2)+(((Pg.sdq qa qb (l.getD i ((0:Rat),(0:Rat)))) / ((Pg.sdq qa qb (l.getD i ((0:Rat),(0:Rat)))) - (Pg.sdq qa qb (l.getD ((i+1)%n) ((0:Rat),(0:Rat))))))*((Pg.awq (l.getD i ((0:Rat),(0:Rat))) (l.getD ((i+1)%n) ((0:Rat),(0:Rat)))).2))))) (cs:=[w348.b,w348.l,w449.b,w449.l,w352.b,w352.l,w453.b,w453.l]) (w348,w449,w352,w453) rfl rfl rfl (fun g hr=>⟨Holds.get 2 rfl hr,Holds.get 0 rfl hr⟩) .n)) (fun b54 _=> ?_))
      refine zbb 0 rfl .z<|e_one 17 (zId (A':=fun v:Option Addr×Nat=>rowA 69 rR v.1 v.2 ((Pg.clN n qa qb l i)++([((((l.getD i ((0:Rat),(0:Rat))).1)+(((Pg.sdq qa qb (l.getD i ((0:Rat),(0:Rat)))) / ((Pg.sdq qa qb (l.getD i ((0:Rat),(0:Rat)))) - (Pg.sdq qa qb (l.getD ((i+1)%n) ((0:Rat),(0:Rat))))))*((Pg.awq (l.getD i ((0:Rat),(0:Rat))) (l.getD ((i+1)%n) ((0:Rat),(0:Rat)))).1))),(((l.getD i ((0:Rat),(0:Rat))).2)+(((Pg.sdq qa qb (l.getD i ((0:Rat),(0:Rat)))) / ((Pg.sdq qa qb (l.getD i ((0:Rat),(0:Rat)))) - (Pg.sdq qa qb (l.getD ((i+1)%n) ((0:Rat),(0:Rat))))))*((Pg.awq (l.getD i ((0:Rat),(0:Rat))) (l.getD ((i+1)%n) ((0:Rat),(0:Rat)))).2))))]))) kr rfl rfl rfl (zsa 0 rfl yp inf69 dd rfl rfl cbs rfl cbs om om) ?_)
      rintro ⟨p55,c56⟩ -
      dsimp only [aq,nq,cq]
      refine e_pv 18 rfl rfl (zb rfl)<|zT kr<|zO<|zd ?_
      have hrw:((Pg.clN n qa qb l i)++([((((l.getD i ((0:Rat),(0:Rat))).1)+(((Pg.sdq qa qb (l.getD i ((0:Rat),(0:Rat)))) / ((Pg.sdq qa qb (l.getD i ((0:Rat),(0:Rat)))) - (Pg.sdq qa qb (l.getD ((i+1)%n) ((0:Rat),(0:Rat))))))*((Pg.awq (l.getD i ((0:Rat),(0:Rat))) (l.getD ((i+1)%n) ((0:Rat),(0:Rat)))).1))),(((l.getD i ((0:Rat),(0:Rat))).2)+(((Pg.sdq qa qb (l.getD i ((0:Rat),(0:Rat)))) / ((Pg.sdq qa qb (l.getD i ((0:Rat),(0:Rat)))) - (Pg.sdq qa qb (l.getD ((i+1)%n) ((0:Rat),(0:Rat))))))*((Pg.awq (l.getD i ((0:Rat),(0:Rat))) (l.getD ((i+1)%n) ((0:Rat),(0:Rat)))).2))))]))=Pg.clN n qa qb l (i+1):=by show _=Pg.clN n qa qb l i++Pg.clA qa qb _ _;first|(rw [Pg.clA_yes hin hcr,List.append_assoc];done)|(rw [Pg.clA_yes hin hcr,List.append_assoc];rfl)|(rw [Pg.clA_in hin hcr];done)|(rw [Pg.clA_in hin hcr];rfl)|(rw [Pg.clA_new hin hcr];done)|(rw [Pg.clA_new hin hcr];rfl)|(rw [Pg.clA_no hin hcr,List.append_nil];done)|(rw [Pg.clA_no hin hcr,List.append_nil];rfl)
      rw [hrw]
      refine za<|e_p (zI (z:=(((i+1):Nat):Int)) rfl rfl (w64 om))<|e_mv rfl<|zh<|zda ((i+1),p55,c56) (show (i+1)≤n from by show i+1≤n;omega) (by show n - (i+1)<n - i;omega) ((.e rfl (by first|(refine congrArg (fun z=>Value.slice _ z _) ?_;dsimp only;rw [← hrw];simp;done)|(refine congrArg (fun z=>Value.slice _ z _) ?_;dsimp only;rw [← hrw];done)|(refine congrArg (fun z=>Value.slice _ z _) ?_;rw [← hrw];done)|(rw [← hrw];done)) (.of rfl)):SubM _ _) (ho:=((.c (i:=0) rfl .n):PickO _ _ _)) ((.of [15,16,17,18,19,20,21] rfl):SelR _ _ _)
     refine zna (X:=Wd×Wd×Wd×Wd×Nat) (k':=2) (L':=(lb 11 511)) (fun (u3_1r3,u3_2r3,u4_1r3,u4_2r3,u8_1r3)=>([(14,.pointer (some ⟨u8_1r3,0,none⟩)),(65,.int .i64 0),(64,.agg (cw [u4_1r3,u4_2r3]).toArray),(11,.pointer (some ⟨b17,0,none⟩)),(10,.pointer (some ⟨b10,0,none⟩)),(8,.slice p7 ((Pg.clN n qa qb l i).length) c7),(20,.int .i64 ((i:Nat):Int)),(19,.int .i64 ((n:Nat):Int)),(18,.slice p n cap),(7,.func (.func 94) #[] #[.pointer (some ⟨b1,0,none⟩),.pointer (some ⟨b2,0,none⟩)]),(6,.slice none 0 0),(0,.slice p n cap)],[boxA u8_1r3 43 (cw [wz,wz])],[boxA u7_1 43 (cw [u5_1,u5_2]),boxA u6_1 43 (cw [u2_1,u2_2]),boxA b17 69 (cw [w13,w14,w15,w16]),boxA b10 69 (cw [w6,w7,w8,w9]),rowA 69 rR p7 c7 (Pg.clN n qa qb l i)],[qF true u4_1r3 u4_2r3 ((Pg.sdq qa qb (l.getD i ((0:Rat),(0:Rat)))) / ((Pg.sdq qa qb (l.getD i ((0:Rat),(0:Rat)))) - (Pg.sdq qa qb (l.getD ((i+1)%n) ((0:Rat),(0:Rat)))))),qF true u3_1r3 u3_2r3 ((Pg.sdq qa qb (l.getD i ((0:Rat),(0:Rat)))) - (Pg.sdq qa qb (l.getD ((i+1)%n) ((0:Rat),(0:Rat))))),qF true u5_1 u5_2 (Pg.sdq qa qb (l.getD ((i+1)%n) ((0:Rat),(0:Rat)))),qF true u2_1 u2_2 (Pg.sdq qa qb (l.getD i ((0:Rat),(0:Rat)))),qF true w13 w14 ((l.getD ((i+1)%n) ((0:Rat),(0:Rat))).1),qF true w15 w16 ((l.getD ((i+1)%n) ((0:Rat),(0:Rat))).2),qF true w6 w7 ((l.getD i ((0:Rat),(0:Rat))).1),qF true w8 w9 ((l.getD i ((0:Rat),(0:Rat))).2),atF b2 0 [wb0.b,wb0.l,wb1.b,wb1.l,wb2.b,wb2.l,wb3.b,wb3.l],atF b1 0 [wa0.b,wa0.l,wa1.b,wa1.l,wa2.b,wa2.l,wa3.b,wa3.l],slF rR p cap l,qF true wa0 wa1 (qa.1),qF true wa2 wa3 (qa.2),qF true wb0 wb1 (qb.1),qF true wb2 wb3 (qb.2)])) ?_ (fun hD1=> ?_)
     ·
      rintro ⟨u3_1r3,u3_2r3,u4_1r3,u4_2r3,u8_1r3⟩
      dsimp only [cw]
      refine zUa 9 kr ?_
      ·
       refine zv kr rfl rfl rfl rfl rfl sz43 rfl (.t4 .nil)<|e_pv 10 rfl rfl (zb rfl) ?_
       exact zU (hD0 (u3_1r3,u3_2r3,u4_1r3,u4_2r3,u8_1r3)) kr ((.of rfl):SubM _ _) .rfl .rfl ((.of [0,1,2,3,4,5,6,7,8,9,10,11,12,13,14] rfl):SelR _ _ _)
     refine zna (X:=Wd×Wd×Wd×Wd) (k':=3) (L':=(lb 11 255)) (fun (u3_1r3,u3_2r3,u4_1r3,u4_2r3)=>([(65,.int .i64 0),(64,.agg (cw [u4_1r3,u4_2r3]).toArray),(11,.pointer (some ⟨b17,0,none⟩)),(10,.pointer (some ⟨b10,0,none⟩)),(8,.slice p7 ((Pg.clN n qa qb l i).length) c7),(20,.int .i64 ((i:Nat):Int)),(19,.int .i64 ((n:Nat):Int)),(18,.slice p n cap),(7,.func (.func 94) #[] #[.pointer (some ⟨b1,0,none⟩),.pointer (some ⟨b2,0,none⟩)]),(6,.slice none 0 0),(0,.slice p n cap)],[],[boxA u7_1 43 (cw [u5_1,u5_2]),boxA u6_1 43 (cw [u2_1,u2_2]),boxA b17 69 (cw [w13,w14,w15,w16]),boxA b10 69 (cw [w6,w7,w8,w9]),rowA 69 rR p7 c7 (Pg.clN n qa qb l i)],[qF true u4_1r3 u4_2r3 ((Pg.sdq qa qb (l.getD i ((0:Rat),(0:Rat)))) / ((Pg.sdq qa qb (l.getD i ((0:Rat),(0:Rat)))) - (Pg.sdq qa qb (l.getD ((i+1)%n) ((0:Rat),(0:Rat)))))),qF true u3_1r3 u3_2r3 ((Pg.sdq qa qb (l.getD i ((0:Rat),(0:Rat)))) - (Pg.sdq qa qb (l.getD ((i+1)%n) ((0:Rat),(0:Rat))))),qF true u5_1 u5_2 (Pg.sdq qa qb (l.getD ((i+1)%n) ((0:Rat),(0:Rat)))),qF true u2_1 u2_2 (Pg.sdq qa qb (l.getD i ((0:Rat),(0:Rat)))),qF true w13 w14 ((l.getD ((i+1)%n) ((0:Rat),(0:Rat))).1),qF true w15 w16 ((l.getD ((i+1)%n) ((0:Rat),(0:Rat))).2),qF true w6 w7 ((l.getD i ((0:Rat),(0:Rat))).1),qF true w8 w9 ((l.getD i ((0:Rat),(0:Rat))).2),atF b2 0 [wb0.b,wb0.l,wb1.b,wb1.l,wb2.b,wb2.l,wb3.b,wb3.l],atF b1 0 [wa0.b,wa0.l,wa1.b,wa1.l,wa2.b,wa2.l,wa3.b,wa3.l],slF rR p cap l,qF true wa0 wa1 (qa.1),qF true wa2 wa3 (qa.2),qF true wb0 wb1 (qb.1),qF true wb2 wb3 (qb.2)])) ?_ (fun hD2=> ?_)
     ·
      rintro ⟨u3_1r3,u3_2r3,u4_1r3,u4_2r3⟩
      dsimp only [cw]
      refine zUa 8 kr ?_
      ·
       refine zta rfl rfl rfl rfl (zn zr43 rfl) (fun u8_1r3 _=> ?_)
       exact zU (hD1 (u3_1r3,u3_2r3,u4_1r3,u4_2r3,u8_1r3)) kr ((.of rfl):SubM _ _) .rfl .rfl ((.of [0,1,2,3,4,5,6,7,8,9,10,11,12,13,14] rfl):SelR _ _ _)
     refine zna (X:=Wd×Wd×Nat) (k':=6) (L':=(lb 11 271)) (fun (u3_1r3,u3_2r3,u8_1r3)=>([(14,.pointer (some ⟨u8_1r3,0,none⟩)),(62,.agg (cw [u3_1r3,u3_2r3]).toArray),(59,.agg (cw [u2_1,u2_2]).toArray),(11,.pointer (some ⟨b17,0,none⟩)),(10,.pointer (some ⟨b10,0,none⟩)),(8,.slice p7 ((Pg.clN n qa qb l i).length) c7),(20,.int .i64 ((i:Nat):Int)),(19,.int .i64 ((n:Nat):Int)),(18,.slice p n cap),(7,.func (.func 94) #[] #[.pointer (some ⟨b1,0,none⟩),.pointer (some ⟨b2,0,none⟩)]),(6,.slice none 0 0),(0,.slice p n cap)],[boxA u8_1r3 43 (cw [wz,wz])],[boxA u7_1 43 (cw [u5_1,u5_2]),boxA u6_1 43 (cw [u2_1,u2_2]),boxA b17 69 (cw [w13,w14,w15,w16]),boxA b10 69 (cw [w6,w7,w8,w9]),rowA 69 rR p7 c7 (Pg.clN n qa qb l i)],[qF true u3_1r3 u3_2r3 ((Pg.sdq qa qb (l.getD i ((0:Rat),(0:Rat)))) - (Pg.sdq qa qb (l.getD ((i+1)%n) ((0:Rat),(0:Rat))))),qF true u5_1 u5_2 (Pg.sdq qa qb (l.getD ((i+1)%n) ((0:Rat),(0:Rat)))),qF true u2_1 u2_2 (Pg.sdq qa qb (l.getD i ((0:Rat),(0:Rat)))),qF true w13 w14 ((l.getD ((i+1)%n) ((0:Rat),(0:Rat))).1),qF true w15 w16 ((l.getD ((i+1)%n) ((0:Rat),(0:Rat))).2),qF true w6 w7 ((l.getD i ((0:Rat),(0:Rat))).1),qF true w8 w9 ((l.getD i ((0:Rat),(0:Rat))).2),atF b2 0 [wb0.b,wb0.l,wb1.b,wb1.l,wb2.b,wb2.l,wb3.b,wb3.l],atF b1 0 [wa0.b,wa0.l,wa1.b,wa1.l,wa2.b,wa2.l,wa3.b,wa3.l],slF rR p cap l,qF true wa0 wa1 (qa.1),qF true wa2 wa3 (qa.2),qF true wb0 wb1 (qb.1),qF true wb2 wb3 (qb.2)])) ?_ (fun hD3=> ?_)
     ·
      rintro ⟨u3_1r3,u3_2r3,u8_1r3⟩
      dsimp only [cw]
      refine zUa 4 kr ?_
      ·
       refine zw rfl rfl rfl rfl (.c rfl (.c rfl .n)) ce99 (zmb (k1:=true) (u1:=u2_1) (v1:=u2_2) (q1:=Pg.sdq qa qb (l.getD i ((0:Rat),(0:Rat)))) (k2:=true) (u2:=u3_1r3) (v2:=u3_2r3) (q2:=(Pg.sdq qa qb (l.getD i ((0:Rat),(0:Rat)))) - (Pg.sdq qa qb (l.getD ((i+1)%n) ((0:Rat),(0:Rat))))) (hl:=cbo) (hy:=cbo)) (.c (j:=2) rfl (.c (j:=0) rfl .n)) ?_
       rintro ⟨u4_1r3,u4_2r3⟩ -
       dsimp only [aq,nq,cq]
       refine e_dm 5 rfl rfl rfl<|e_pv 6 rfl rfl (zr rfl rfl)<|e_pv 7 rfl rfl (zr rfl rfl) ?_
       exact zU (hD1 (u3_1r3,u3_2r3,u4_1r3,u4_2r3,u8_1r3)) kr ((.of rfl):SubM _ _) .rfl .rfl ((.of [0,1,2,3,4,5,6,7,8,9,10,11,12,13,14] rfl):SelR _ _ _)
     refine zna (X:=Wd×Wd) (k':=7) (L':=(lb 11 15)) (fun (u3_1r3,u3_2r3)=>([(62,.agg (cw [u3_1r3,u3_2r3]).toArray),(59,.agg (cw [u2_1,u2_2]).toArray),(11,.pointer (some ⟨b17,0,none⟩)),(10,.pointer (some ⟨b10,0,none⟩)),(8,.slice p7 ((Pg.clN n qa qb l i).length) c7),(20,.int .i64 ((i:Nat):Int)),(19,.int .i64 ((n:Nat):Int)),(18,.slice p n cap),(7,.func (.func 94) #[] #[.pointer (some ⟨b1,0,none⟩),.pointer (some ⟨b2,0,none⟩)]),(6,.slice none 0 0),(0,.slice p n cap)],[],[boxA u7_1 43 (cw [u5_1,u5_2]),boxA u6_1 43 (cw [u2_1,u2_2]),boxA b17 69 (cw [w13,w14,w15,w16]),boxA b10 69 (cw [w6,w7,w8,w9]),rowA 69 rR p7 c7 (Pg.clN n qa qb l i)],[qF true u3_1r3 u3_2r3 ((Pg.sdq qa qb (l.getD i ((0:Rat),(0:Rat)))) - (Pg.sdq qa qb (l.getD ((i+1)%n) ((0:Rat),(0:Rat))))),qF true u5_1 u5_2 (Pg.sdq qa qb (l.getD ((i+1)%n) ((0:Rat),(0:Rat)))),qF true u2_1 u2_2 (Pg.sdq qa qb (l.getD i ((0:Rat),(0:Rat)))),qF true w13 w14 ((l.getD ((i+1)%n) ((0:Rat),(0:Rat))).1),qF true w15 w16 ((l.getD ((i+1)%n) ((0:Rat),(0:Rat))).2),qF true w6 w7 ((l.getD i ((0:Rat),(0:Rat))).1),qF true w8 w9 ((l.getD i ((0:Rat),(0:Rat))).2),atF b2 0 [wb0.b,wb0.l,wb1.b,wb1.l,wb2.b,wb2.l,wb3.b,wb3.l],atF b1 0 [wa0.b,wa0.l,wa1.b,wa1.l,wa2.b,wa2.l,wa3.b,wa3.l],slF rR p cap l,qF true wa0 wa1 (qa.1),qF true wa2 wa3 (qa.2),qF true wb0 wb1 (qb.1),qF true wb2 wb3 (qb.2)])) ?_ (fun hD4=> ?_)
     ·
      rintro ⟨u3_1r3,u3_2r3⟩
      dsimp only [cw]
      refine zLb 4 8 kr ?_ ?_
      ·
       refine zw rfl rfl rfl rfl (.c rfl (.c rfl .n)) ce99 (zmb (k1:=true) (u1:=u2_1) (v1:=u2_2) (q1:=Pg.sdq qa qb (l.getD i ((0:Rat),(0:Rat)))) (k2:=true) (u2:=u3_1r3) (v2:=u3_2r3) (q2:=(Pg.sdq qa qb (l.getD i ((0:Rat),(0:Rat)))) - (Pg.sdq qa qb (l.getD ((i+1)%n) ((0:Rat),(0:Rat))))) (hl:=cbo) (hy:=cbo)) (.c (j:=2) rfl (.c (j:=0) rfl .n)) ?_
       rintro ⟨u4_1r3,u4_2r3⟩ -
       dsimp only [aq,nq,cq]
       refine e_dm 5 rfl rfl rfl<|e_pv 6 rfl rfl (zr rfl rfl)<|e_pv 7 rfl rfl (zr rfl rfl) ?_
       exact zU (hD2 (u3_1r3,u3_2r3,u4_1r3,u4_2r3)) kr ((.of rfl):SubM _ _) .rfl .rfl ((.of [0,1,2,3,4,5,6,7,8,9,10,11,12,13,14] rfl):SelR _ _ _)
      ·
       refine zta rfl rfl rfl rfl (zn zr43 rfl) (fun u8_1r3 _=> ?_)
       exact zU (hD3 (u3_1r3,u3_2r3,u8_1r3)) kr ((.of rfl):SubM _ _) .rfl .rfl ((.of [0,1,2,3,4,5,6,7,8,9,10,11,12,13] rfl):SelR _ _ _)
     refine zna (X:=Nat) (k':=7) (L':=(lb 11 263)) (fun u8_1r3=>([(14,.pointer (some ⟨u8_1r3,0,none⟩)),(61,.agg (cw [u5_1,u5_2]).toArray),(60,.agg (cw [u2_1,u2_2]).toArray),(59,.agg (cw [u2_1,u2_2]).toArray),(11,.pointer (some ⟨b17,0,none⟩)),(10,.pointer (some ⟨b10,0,none⟩)),(8,.slice p7 ((Pg.clN n qa qb l i).length) c7),(20,.int .i64 ((i:Nat):Int)),(19,.int .i64 ((n:Nat):Int)),(18,.slice p n cap),(7,.func (.func 94) #[] #[.pointer (some ⟨b1,0,none⟩),.pointer (some ⟨b2,0,none⟩)]),(6,.slice none 0 0),(0,.slice p n cap)],[boxA u8_1r3 43 (cw [wz,wz])],[boxA u7_1 43 (cw [u5_1,u5_2]),boxA u6_1 43 (cw [u2_1,u2_2]),boxA b17 69 (cw [w13,w14,w15,w16]),boxA b10 69 (cw [w6,w7,w8,w9]),rowA 69 rR p7 c7 (Pg.clN n qa qb l i)],[qF true u5_1 u5_2 (Pg.sdq qa qb (l.getD ((i+1)%n) ((0:Rat),(0:Rat)))),qF true u2_1 u2_2 (Pg.sdq qa qb (l.getD i ((0:Rat),(0:Rat)))),qF true w13 w14 ((l.getD ((i+1)%n) ((0:Rat),(0:Rat))).1),qF true w15 w16 ((l.getD ((i+1)%n) ((0:Rat),(0:Rat))).2),qF true w6 w7 ((l.getD i ((0:Rat),(0:Rat))).1),qF true w8 w9 ((l.getD i ((0:Rat),(0:Rat))).2),atF b2 0 [wb0.b,wb0.l,wb1.b,wb1.l,wb2.b,wb2.l,wb3.b,wb3.l],atF b1 0 [wa0.b,wa0.l,wa1.b,wa1.l,wa2.b,wa2.l,wa3.b,wa3.l],slF rR p cap l,qF true wa0 wa1 (qa.1),qF true wa2 wa3 (qa.2),qF true wb0 wb1 (qb.1),qF true wb2 wb3 (qb.2)])) ?_ (fun hD5=> ?_)
     ·
      rintro u8_1r3
      dsimp only [cw]
      refine zUa 3 kr ?_
      ·
       refine zw rfl rfl rfl rfl (.c rfl (.c rfl .n)) ce100 (zIb (k1:=true) (u1:=u2_1) (v1:=u2_2) (q1:=Pg.sdq qa qb (l.getD i ((0:Rat),(0:Rat)))) (k2:=true) (u2:=u5_1) (v2:=u5_2) (q2:=Pg.sdq qa qb (l.getD ((i+1)%n) ((0:Rat),(0:Rat)))) (hl:=cbo)) (.c (j:=1) rfl (.c (j:=0) rfl .n)) ?_
       rintro ⟨u3_1r3,u3_2r3⟩ -
       dsimp only [aq,nq,cq]
       exact zU (hD3 (u3_1r3,u3_2r3,u8_1r3)) kr ((.of rfl):SubM _ _) .rfl .rfl ((.of [0,1,2,3,4,5,6,7,8,9,10,11,12,13] rfl):SelR _ _ _)
     refine zLb 3 8 kr ?_ ?_
     ·
      refine zw rfl rfl rfl rfl (.c rfl (.c rfl .n)) ce100 (zIb (k1:=true) (u1:=u2_1) (v1:=u2_2) (q1:=Pg.sdq qa qb (l.getD i ((0:Rat),(0:Rat)))) (k2:=true) (u2:=u5_1) (v2:=u5_2) (q2:=Pg.sdq qa qb (l.getD ((i+1)%n) ((0:Rat),(0:Rat)))) (hl:=cbo)) (.c (j:=1) rfl (.c (j:=0) rfl .n)) ?_
      rintro ⟨u3_1r3,u3_2r3⟩ -
      dsimp only [aq,nq,cq]
      exact zU (hD4 (u3_1r3,u3_2r3)) kr ((.of rfl):SubM _ _) .rfl .rfl ((.of [0,1,2,3,4,5,6,7,8,9,10,11,12,13] rfl):SelR _ _ _)
     ·
      refine zta rfl rfl rfl rfl (zn zr43 rfl) (fun u8_1r3 _=> ?_)
      exact zU (hD5 u8_1r3) kr ((.of rfl):SubM _ _) .rfl .rfl ((.of [0,1,2,3,4,5,6,7,8,9,10,11,12] rfl):SelR _ _ _)
    ·
     refine zA<|zO<|zd ?_
     have hrw:(Pg.clN n qa qb l i)=Pg.clN n qa qb l (i+1):=by show _=Pg.clN n qa qb l i++Pg.clA qa qb _ _;first|(rw [Pg.clA_yes hin hcr,List.append_assoc];done)|(rw [Pg.clA_yes hin hcr,List.append_assoc];rfl)|(rw [Pg.clA_in hin hcr];done)|(rw [Pg.clA_in hin hcr];rfl)|(rw [Pg.clA_new hin hcr];done)|(rw [Pg.clA_new hin hcr];rfl)|(rw [Pg.clA_no hin hcr,List.append_nil];done)|(rw [Pg.clA_no hin hcr,List.append_nil];rfl)
     rw [hrw]
     refine za<|e_p (zI (z:=(((i+1):Nat):Int)) rfl rfl (w64 om))<|e_mv rfl<|zh<|zda ((i+1),p7,c7) (show (i+1)≤n from by show i+1≤n;omega) (by show n - (i+1)<n - i;omega) ((.e rfl (by first|(refine congrArg (fun z=>Value.slice _ z _) ?_;dsimp only;rw [← hrw];simp;done)|(refine congrArg (fun z=>Value.slice _ z _) ?_;dsimp only;rw [← hrw];done)|(refine congrArg (fun z=>Value.slice _ z _) ?_;rw [← hrw];done)|(rw [← hrw];done)) (.of rfl)):SubM _ _) (ho:=((.c (i:=4) rfl .n):PickO _ _ _)) ((.of [6,7,8,9,10,11,12] rfl):SelR _ _ _)
  refine zna (X:=Wd×Wd×Wd×Wd×Nat×Nat) (k':=1) (L':=(lb 10 511)) (fun (u2_1,u2_2,u5_1,u5_2,u6_1,u7_1)=>([(13,.pointer (some ⟨u7_1,0,none⟩)),(12,.pointer (some ⟨u6_1,0,none⟩)),(38,.agg (cw [u5_1,u5_2]).toArray),(11,.pointer (some ⟨b17,0,none⟩)),(10,.pointer (some ⟨b10,0,none⟩)),(8,.slice p7 ((Pg.clN n qa qb l i).length) c7),(20,.int .i64 ((i:Nat):Int)),(19,.int .i64 ((n:Nat):Int)),(18,.slice p n cap),(7,.func (.func 94) #[] #[.pointer (some ⟨b1,0,none⟩),.pointer (some ⟨b2,0,none⟩)]),(6,.slice none 0 0),(0,.slice p n cap)],[boxA u6_1 43 (cw [u2_1,u2_2]),boxA u7_1 43 (cw [wz,wz])],[boxA b17 69 (cw [w13,w14,w15,w16]),boxA b10 69 (cw [w6,w7,w8,w9]),rowA 69 rR p7 c7 (Pg.clN n qa qb l i)],[qF true u5_1 u5_2 (Pg.sdq qa qb (l.getD ((i+1)%n) ((0:Rat),(0:Rat)))),qF true u2_1 u2_2 (Pg.sdq qa qb (l.getD i ((0:Rat),(0:Rat)))),qF true w13 w14 ((l.getD ((i+1)%n) ((0:Rat),(0:Rat))).1),qF true w15 w16 ((l.getD ((i+1)%n) ((0:Rat),(0:Rat))).2),qF true w6 w7 ((l.getD i ((0:Rat),(0:Rat))).1),qF true w8 w9 ((l.getD i ((0:Rat),(0:Rat))).2),atF b2 0 [wb0.b,wb0.l,wb1.b,wb1.l,wb2.b,wb2.l,wb3.b,wb3.l],atF b1 0 [wa0.b,wa0.l,wa1.b,wa1.l,wa2.b,wa2.l,wa3.b,wa3.l],slF rR p cap l,qF true wa0 wa1 (qa.1),qF true wa2 wa3 (qa.2),qF true wb0 wb1 (qb.1),qF true wb2 wb3 (qb.2)])) ?_ (fun hD1=> ?_)
  ·
   rintro ⟨u2_1,u2_2,u5_1,u5_2,u6_1,u7_1⟩
   dsimp only [cw]
   refine zUa 9 kr ?_
   ·
    refine zNb (zca (i:=1) rfl)<|zv kr rfl rfl rfl rfl rfl sz43 rfl (.t4 .nil) ?_
    exact zU (hD0 (u2_1,u2_2,u5_1,u5_2,u6_1,u7_1)) kr ((.of rfl):SubM _ _) .rfl .rfl ((.of [0,1,2,3,4,5,6,7,8,9,10,11,12] rfl):SelR _ _ _)
  refine zna (X:=Wd×Wd×Wd×Wd×Nat×Nat) (k':=2) (L':=(lb 10 255)) (fun (u2_1,u2_2,u5_1,u5_2,u6_1,u7_1)=>([(13,.pointer (some ⟨u7_1,0,none⟩)),(12,.pointer (some ⟨u6_1,0,none⟩)),(38,.agg (cw [u5_1,u5_2]).toArray),(35,.agg (cw [u2_1,u2_2]).toArray),(11,.pointer (some ⟨b17,0,none⟩)),(10,.pointer (some ⟨b10,0,none⟩)),(8,.slice p7 ((Pg.clN n qa qb l i).length) c7),(20,.int .i64 ((i:Nat):Int)),(19,.int .i64 ((n:Nat):Int)),(18,.slice p n cap),(7,.func (.func 94) #[] #[.pointer (some ⟨b1,0,none⟩),.pointer (some ⟨b2,0,none⟩)]),(6,.slice none 0 0),(0,.slice p n cap)],[boxA u7_1 43 (cw [wz,wz]),boxA u6_1 43 (cw [wz,wz])],[boxA b17 69 (cw [w13,w14,w15,w16]),boxA b10 69 (cw [w6,w7,w8,w9]),rowA 69 rR p7 c7 (Pg.clN n qa qb l i)],[qF true u5_1 u5_2 (Pg.sdq qa qb (l.getD ((i+1)%n) ((0:Rat),(0:Rat)))),qF true u2_1 u2_2 (Pg.sdq qa qb (l.getD i ((0:Rat),(0:Rat)))),qF true w13 w14 ((l.getD ((i+1)%n) ((0:Rat),(0:Rat))).1),qF true w15 w16 ((l.getD ((i+1)%n) ((0:Rat),(0:Rat))).2),qF true w6 w7 ((l.getD i ((0:Rat),(0:Rat))).1),qF true w8 w9 ((l.getD i ((0:Rat),(0:Rat))).2),atF b2 0 [wb0.b,wb0.l,wb1.b,wb1.l,wb2.b,wb2.l,wb3.b,wb3.l],atF b1 0 [wa0.b,wa0.l,wa1.b,wa1.l,wa2.b,wa2.l,wa3.b,wa3.l],slF rR p cap l,qF true wa0 wa1 (qa.1),qF true wa2 wa3 (qa.2),qF true wb0 wb1 (qb.1),qF true wb2 wb3 (qb.2)])) ?_ (fun hD2=> ?_)
  ·
   rintro ⟨u2_1,u2_2,u5_1,u5_2,u6_1,u7_1⟩
   dsimp only [cw]
   refine zUa 8 kr ?_
   ·
    refine zNb (zca (i:=1) rfl)<|zv kr rfl rfl rfl rfl rfl sz43 rfl (.t4 .nil) ?_
    exact zU (hD1 (u2_1,u2_2,u5_1,u5_2,u6_1,u7_1)) kr ((.of rfl):SubM _ _) .rfl .rfl ((.of [0,1,2,3,4,5,6,7,8,9,10,11,12] rfl):SelR _ _ _)
  refine zna (X:=Wd×Wd×Wd×Wd×Nat) (k':=3) (L':=(lb 10 127)) (fun (u2_1,u2_2,u5_1,u5_2,u6_1)=>([(12,.pointer (some ⟨u6_1,0,none⟩)),(38,.agg (cw [u5_1,u5_2]).toArray),(35,.agg (cw [u2_1,u2_2]).toArray),(11,.pointer (some ⟨b17,0,none⟩)),(10,.pointer (some ⟨b10,0,none⟩)),(8,.slice p7 ((Pg.clN n qa qb l i).length) c7),(20,.int .i64 ((i:Nat):Int)),(19,.int .i64 ((n:Nat):Int)),(18,.slice p n cap),(7,.func (.func 94) #[] #[.pointer (some ⟨b1,0,none⟩),.pointer (some ⟨b2,0,none⟩)]),(6,.slice none 0 0),(0,.slice p n cap)],[boxA u6_1 43 (cw [wz,wz])],[boxA b17 69 (cw [w13,w14,w15,w16]),boxA b10 69 (cw [w6,w7,w8,w9]),rowA 69 rR p7 c7 (Pg.clN n qa qb l i)],[qF true u5_1 u5_2 (Pg.sdq qa qb (l.getD ((i+1)%n) ((0:Rat),(0:Rat)))),qF true u2_1 u2_2 (Pg.sdq qa qb (l.getD i ((0:Rat),(0:Rat)))),qF true w13 w14 ((l.getD ((i+1)%n) ((0:Rat),(0:Rat))).1),qF true w15 w16 ((l.getD ((i+1)%n) ((0:Rat),(0:Rat))).2),qF true w6 w7 ((l.getD i ((0:Rat),(0:Rat))).1),qF true w8 w9 ((l.getD i ((0:Rat),(0:Rat))).2),atF b2 0 [wb0.b,wb0.l,wb1.b,wb1.l,wb2.b,wb2.l,wb3.b,wb3.l],atF b1 0 [wa0.b,wa0.l,wa1.b,wa1.l,wa2.b,wa2.l,wa3.b,wa3.l],slF rR p cap l,qF true wa0 wa1 (qa.1),qF true wa2 wa3 (qa.2),qF true wb0 wb1 (qb.1),qF true wb2 wb3 (qb.2)])) ?_ (fun hD3=> ?_)
  ·
   rintro ⟨u2_1,u2_2,u5_1,u5_2,u6_1⟩
   dsimp only [cw]
   refine zUa 7 kr ?_
   ·
    refine zta rfl rfl rfl rfl (zn zr43 rfl) (fun u7_1 _=> ?_)
    exact zU (hD2 (u2_1,u2_2,u5_1,u5_2,u6_1,u7_1)) kr ((.of rfl):SubM _ _) .rfl .rfl ((.of [0,1,2,3,4,5,6,7,8,9,10,11,12] rfl):SelR _ _ _)
  refine zna (X:=Wd×Wd×Wd×Wd×Nat) (k':=3) (L':=(lb 10 191)) (fun (u2_1,u2_2,u5_1,u5_2,u7_1)=>([(13,.pointer (some ⟨u7_1,0,none⟩)),(38,.agg (cw [u5_1,u5_2]).toArray),(35,.agg (cw [u2_1,u2_2]).toArray),(11,.pointer (some ⟨b17,0,none⟩)),(10,.pointer (some ⟨b10,0,none⟩)),(8,.slice p7 ((Pg.clN n qa qb l i).length) c7),(20,.int .i64 ((i:Nat):Int)),(19,.int .i64 ((n:Nat):Int)),(18,.slice p n cap),(7,.func (.func 94) #[] #[.pointer (some ⟨b1,0,none⟩),.pointer (some ⟨b2,0,none⟩)]),(6,.slice none 0 0),(0,.slice p n cap)],[boxA u7_1 43 (cw [wz,wz])],[boxA b17 69 (cw [w13,w14,w15,w16]),boxA b10 69 (cw [w6,w7,w8,w9]),rowA 69 rR p7 c7 (Pg.clN n qa qb l i)],[qF true u5_1 u5_2 (Pg.sdq qa qb (l.getD ((i+1)%n) ((0:Rat),(0:Rat)))),qF true u2_1 u2_2 (Pg.sdq qa qb (l.getD i ((0:Rat),(0:Rat)))),qF true w13 w14 ((l.getD ((i+1)%n) ((0:Rat),(0:Rat))).1),qF true w15 w16 ((l.getD ((i+1)%n) ((0:Rat),(0:Rat))).2),qF true w6 w7 ((l.getD i ((0:Rat),(0:Rat))).1),qF true w8 w9 ((l.getD i ((0:Rat),(0:Rat))).2),atF b2 0 [wb0.b,wb0.l,wb1.b,wb1.l,wb2.b,wb2.l,wb3.b,wb3.l],atF b1 0 [wa0.b,wa0.l,wa1.b,wa1.l,wa2.b,wa2.l,wa3.b,wa3.l],slF rR p cap l,qF true wa0 wa1 (qa.1),qF true wa2 wa3 (qa.2),qF true wb0 wb1 (qb.1),qF true wb2 wb3 (qb.2)])) ?_ (fun hD4=> ?_)
  ·
   rintro ⟨u2_1,u2_2,u5_1,u5_2,u7_1⟩
   dsimp only [cw]
   refine zUa 6 kr ?_
   ·
    refine zta rfl rfl rfl rfl (zn zr43 rfl) (fun u6_1 _=> ?_)
    exact zU (hD2 (u2_1,u2_2,u5_1,u5_2,u6_1,u7_1)) kr ((.of rfl):SubM _ _) (zDa 1 rfl (zDa 0 rfl .nil)) .rfl ((.of [0,1,2,3,4,5,6,7,8,9,10,11,12] rfl):SelR _ _ _)
  refine zna (X:=Wd×Wd×Nat×Nat) (k':=3) (L':=(lb 10 223)) (fun (u2_1,u2_2,u6_1,u7_1)=>([(13,.pointer (some ⟨u7_1,0,none⟩)),(12,.pointer (some ⟨u6_1,0,none⟩)),(35,.agg (cw [u2_1,u2_2]).toArray),(37,.agg (cw [w13,w14,w15,w16]).toArray),(36,.func (.func 94) #[] #[.pointer (some ⟨b1,0,none⟩),.pointer (some ⟨b2,0,none⟩)]),(11,.pointer (some ⟨b17,0,none⟩)),(10,.pointer (some ⟨b10,0,none⟩)),(8,.slice p7 ((Pg.clN n qa qb l i).length) c7),(20,.int .i64 ((i:Nat):Int)),(19,.int .i64 ((n:Nat):Int)),(18,.slice p n cap),(7,.func (.func 94) #[] #[.pointer (some ⟨b1,0,none⟩),.pointer (some ⟨b2,0,none⟩)]),(6,.slice none 0 0),(0,.slice p n cap)],[boxA u7_1 43 (cw [wz,wz]),boxA u6_1 43 (cw [wz,wz])],[boxA b17 69 (cw [w13,w14,w15,w16]),boxA b10 69 (cw [w6,w7,w8,w9]),rowA 69 rR p7 c7 (Pg.clN n qa qb l i)],[qF true u2_1 u2_2 (Pg.sdq qa qb (l.getD i ((0:Rat),(0:Rat)))),qF true w13 w14 ((l.getD ((i+1)%n) ((0:Rat),(0:Rat))).1),qF true w15 w16 ((l.getD ((i+1)%n) ((0:Rat),(0:Rat))).2),qF true w6 w7 ((l.getD i ((0:Rat),(0:Rat))).1),qF true w8 w9 ((l.getD i ((0:Rat),(0:Rat))).2),atF b2 0 [wb0.b,wb0.l,wb1.b,wb1.l,wb2.b,wb2.l,wb3.b,wb3.l],atF b1 0 [wa0.b,wa0.l,wa1.b,wa1.l,wa2.b,wa2.l,wa3.b,wa3.l],slF rR p cap l,qF true wa0 wa1 (qa.1),qF true wa2 wa3 (qa.2),qF true wb0 wb1 (qb.1),qF true wb2 wb3 (qb.2)])) ?_ (fun hD5=> ?_)
  ·
   rintro ⟨u2_1,u2_2,u6_1,u7_1⟩
   dsimp only [cw]
   refine zUa 5 kr ?_
   ·
    refine zkc (first:=[]) (cap:=[.pointer (some ⟨b1,0,none⟩),.pointer (some ⟨b2,0,none⟩)]) rfl rfl rfl rfl rfl (.c rfl .n) ce94 (zjb (ba:=b1) (bb:=b2) (wa0:=wa0) (wa1:=wa1) (wa2:=wa2) (wa3:=wa3) (qa:=qa) (wb0:=wb0) (wb1:=wb1) (wb2:=wb2) (wb3:=wb3) (qb:=qb) (wd0:=w13) (wd1:=w14) (wd2:=w15) (wd3:=w16) (qd:=(l.getD ((i+1)%n) ((0:Rat),(0:Rat)))) (K:=K) (hpa:=ass) (hpb:=ass) (hpd:=cbo) (hK:=cbo)) (.c (j:=6) rfl (.c (j:=5) rfl (.c (j:=8) rfl (.c (j:=9) rfl (.c (j:=10) rfl (.c (j:=11) rfl (.c (j:=1) rfl (.c (j:=2) rfl .n)))))))) ?_
    rintro ⟨u5_1,u5_2⟩ -
    dsimp only [aq,nq,cq]
    exact zU (hD2 (u2_1,u2_2,u5_1,u5_2,u6_1,u7_1)) kr ((.of rfl):SubM _ _) .rfl .rfl ((.of [0,1,2,3,4,5,6,7,8,9,10,11,12] rfl):SelR _ _ _)
  refine zna (X:=Wd×Wd×Wd×Wd) (k':=4) (L':=(lb 10 63)) (fun (u2_1,u2_2,u5_1,u5_2)=>([(38,.agg (cw [u5_1,u5_2]).toArray),(35,.agg (cw [u2_1,u2_2]).toArray),(11,.pointer (some ⟨b17,0,none⟩)),(10,.pointer (some ⟨b10,0,none⟩)),(8,.slice p7 ((Pg.clN n qa qb l i).length) c7),(20,.int .i64 ((i:Nat):Int)),(19,.int .i64 ((n:Nat):Int)),(18,.slice p n cap),(7,.func (.func 94) #[] #[.pointer (some ⟨b1,0,none⟩),.pointer (some ⟨b2,0,none⟩)]),(6,.slice none 0 0),(0,.slice p n cap)],[],[boxA b17 69 (cw [w13,w14,w15,w16]),boxA b10 69 (cw [w6,w7,w8,w9]),rowA 69 rR p7 c7 (Pg.clN n qa qb l i)],[qF true u5_1 u5_2 (Pg.sdq qa qb (l.getD ((i+1)%n) ((0:Rat),(0:Rat)))),qF true u2_1 u2_2 (Pg.sdq qa qb (l.getD i ((0:Rat),(0:Rat)))),qF true w13 w14 ((l.getD ((i+1)%n) ((0:Rat),(0:Rat))).1),qF true w15 w16 ((l.getD ((i+1)%n) ((0:Rat),(0:Rat))).2),qF true w6 w7 ((l.getD i ((0:Rat),(0:Rat))).1),qF true w8 w9 ((l.getD i ((0:Rat),(0:Rat))).2),atF b2 0 [wb0.b,wb0.l,wb1.b,wb1.l,wb2.b,wb2.l,wb3.b,wb3.l],atF b1 0 [wa0.b,wa0.l,wa1.b,wa1.l,wa2.b,wa2.l,wa3.b,wa3.l],slF rR p cap l,qF true wa0 wa1 (qa.1),qF true wa2 wa3 (qa.2),qF true wb0 wb1 (qb.1),qF true wb2 wb3 (qb.2)])) ?_ (fun hD6=> ?_)
  ·
   rintro ⟨u2_1,u2_2,u5_1,u5_2⟩
   dsimp only [cw]
   refine zLb 6 7 kr ?_ ?_
   ·
    refine zta rfl rfl rfl rfl (zn zr43 rfl) (fun u6_1 _=> ?_)
    exact zU (hD3 (u2_1,u2_2,u5_1,u5_2,u6_1)) kr ((.of rfl):SubM _ _) .rfl .rfl ((.of [0,1,2,3,4,5,6,7,8,9,10,11,12] rfl):SelR _ _ _)
   ·
    refine zta rfl rfl rfl rfl (zn zr43 rfl) (fun u7_1 _=> ?_)
    exact zU (hD4 (u2_1,u2_2,u5_1,u5_2,u7_1)) kr ((.of rfl):SubM _ _) .rfl .rfl ((.of [0,1,2,3,4,5,6,7,8,9,10,11,12] rfl):SelR _ _ _)
  refine zna (X:=Wd×Wd×Nat) (k':=4) (L':=(lb 10 95)) (fun (u2_1,u2_2,u6_1)=>([(12,.pointer (some ⟨u6_1,0,none⟩)),(35,.agg (cw [u2_1,u2_2]).toArray),(37,.agg (cw [w13,w14,w15,w16]).toArray),(36,.func (.func 94) #[] #[.pointer (some ⟨b1,0,none⟩),.pointer (some ⟨b2,0,none⟩)]),(11,.pointer (some ⟨b17,0,none⟩)),(10,.pointer (some ⟨b10,0,none⟩)),(8,.slice p7 ((Pg.clN n qa qb l i).length) c7),(20,.int .i64 ((i:Nat):Int)),(19,.int .i64 ((n:Nat):Int)),(18,.slice p n cap),(7,.func (.func 94) #[] #[.pointer (some ⟨b1,0,none⟩),.pointer (some ⟨b2,0,none⟩)]),(6,.slice none 0 0),(0,.slice p n cap)],[boxA u6_1 43 (cw [wz,wz])],[boxA b17 69 (cw [w13,w14,w15,w16]),boxA b10 69 (cw [w6,w7,w8,w9]),rowA 69 rR p7 c7 (Pg.clN n qa qb l i)],[qF true u2_1 u2_2 (Pg.sdq qa qb (l.getD i ((0:Rat),(0:Rat)))),qF true w13 w14 ((l.getD ((i+1)%n) ((0:Rat),(0:Rat))).1),qF true w15 w16 ((l.getD ((i+1)%n) ((0:Rat),(0:Rat))).2),qF true w6 w7 ((l.getD i ((0:Rat),(0:Rat))).1),qF true w8 w9 ((l.getD i ((0:Rat),(0:Rat))).2),atF b2 0 [wb0.b,wb0.l,wb1.b,wb1.l,wb2.b,wb2.l,wb3.b,wb3.l],atF b1 0 [wa0.b,wa0.l,wa1.b,wa1.l,wa2.b,wa2.l,wa3.b,wa3.l],slF rR p cap l,qF true wa0 wa1 (qa.1),qF true wa2 wa3 (qa.2),qF true wb0 wb1 (qb.1),qF true wb2 wb3 (qb.2)])) ?_ (fun hD7=> ?_)
  ·
   rintro ⟨u2_1,u2_2,u6_1⟩
   dsimp only [cw]
   refine zLb 5 7 kr ?_ ?_
   ·
    refine zkc (first:=[]) (cap:=[.pointer (some ⟨b1,0,none⟩),.pointer (some ⟨b2,0,none⟩)]) rfl rfl rfl rfl rfl (.c rfl .n) ce94 (zjb (ba:=b1) (bb:=b2) (wa0:=wa0) (wa1:=wa1) (wa2:=wa2) (wa3:=wa3) (qa:=qa) (wb0:=wb0) (wb1:=wb1) (wb2:=wb2) (wb3:=wb3) (qb:=qb) (wd0:=w13) (wd1:=w14) (wd2:=w15) (wd3:=w16) (qd:=(l.getD ((i+1)%n) ((0:Rat),(0:Rat)))) (K:=K) (hpa:=ass) (hpb:=ass) (hpd:=cbo) (hK:=cbo)) (.c (j:=6) rfl (.c (j:=5) rfl (.c (j:=8) rfl (.c (j:=9) rfl (.c (j:=10) rfl (.c (j:=11) rfl (.c (j:=1) rfl (.c (j:=2) rfl .n)))))))) ?_
    rintro ⟨u5_1,u5_2⟩ -
    dsimp only [aq,nq,cq]
    exact zU (hD3 (u2_1,u2_2,u5_1,u5_2,u6_1)) kr ((.of rfl):SubM _ _) .rfl .rfl ((.of [0,1,2,3,4,5,6,7,8,9,10,11,12] rfl):SelR _ _ _)
   ·
    refine zta rfl rfl rfl rfl (zn zr43 rfl) (fun u7_1 _=> ?_)
    exact zU (hD5 (u2_1,u2_2,u6_1,u7_1)) kr ((.of rfl):SubM _ _) .rfl .rfl ((.of [0,1,2,3,4,5,6,7,8,9,10,11] rfl):SelR _ _ _)
  refine zna (X:=Wd×Wd×Nat) (k':=4) (L':=(lb 10 159)) (fun (u2_1,u2_2,u7_1)=>([(13,.pointer (some ⟨u7_1,0,none⟩)),(35,.agg (cw [u2_1,u2_2]).toArray),(37,.agg (cw [w13,w14,w15,w16]).toArray),(36,.func (.func 94) #[] #[.pointer (some ⟨b1,0,none⟩),.pointer (some ⟨b2,0,none⟩)]),(11,.pointer (some ⟨b17,0,none⟩)),(10,.pointer (some ⟨b10,0,none⟩)),(8,.slice p7 ((Pg.clN n qa qb l i).length) c7),(20,.int .i64 ((i:Nat):Int)),(19,.int .i64 ((n:Nat):Int)),(18,.slice p n cap),(7,.func (.func 94) #[] #[.pointer (some ⟨b1,0,none⟩),.pointer (some ⟨b2,0,none⟩)]),(6,.slice none 0 0),(0,.slice p n cap)],[boxA u7_1 43 (cw [wz,wz])],[boxA b17 69 (cw [w13,w14,w15,w16]),boxA b10 69 (cw [w6,w7,w8,w9]),rowA 69 rR p7 c7 (Pg.clN n qa qb l i)],[qF true u2_1 u2_2 (Pg.sdq qa qb (l.getD i ((0:Rat),(0:Rat)))),qF true w13 w14 ((l.getD ((i+1)%n) ((0:Rat),(0:Rat))).1),qF true w15 w16 ((l.getD ((i+1)%n) ((0:Rat),(0:Rat))).2),qF true w6 w7 ((l.getD i ((0:Rat),(0:Rat))).1),qF true w8 w9 ((l.getD i ((0:Rat),(0:Rat))).2),atF b2 0 [wb0.b,wb0.l,wb1.b,wb1.l,wb2.b,wb2.l,wb3.b,wb3.l],atF b1 0 [wa0.b,wa0.l,wa1.b,wa1.l,wa2.b,wa2.l,wa3.b,wa3.l],slF rR p cap l,qF true wa0 wa1 (qa.1),qF true wa2 wa3 (qa.2),qF true wb0 wb1 (qb.1),qF true wb2 wb3 (qb.2)])) ?_ (fun hD8=> ?_)
  ·
   rintro ⟨u2_1,u2_2,u7_1⟩
   dsimp only [cw]
   refine zLb 5 6 kr ?_ ?_
   ·
    refine zkc (first:=[]) (cap:=[.pointer (some ⟨b1,0,none⟩),.pointer (some ⟨b2,0,none⟩)]) rfl rfl rfl rfl rfl (.c rfl .n) ce94 (zjb (ba:=b1) (bb:=b2) (wa0:=wa0) (wa1:=wa1) (wa2:=wa2) (wa3:=wa3) (qa:=qa) (wb0:=wb0) (wb1:=wb1) (wb2:=wb2) (wb3:=wb3) (qb:=qb) (wd0:=w13) (wd1:=w14) (wd2:=w15) (wd3:=w16) (qd:=(l.getD ((i+1)%n) ((0:Rat),(0:Rat)))) (K:=K) (hpa:=ass) (hpb:=ass) (hpd:=cbo) (hK:=cbo)) (.c (j:=6) rfl (.c (j:=5) rfl (.c (j:=8) rfl (.c (j:=9) rfl (.c (j:=10) rfl (.c (j:=11) rfl (.c (j:=1) rfl (.c (j:=2) rfl .n)))))))) ?_
    rintro ⟨u5_1,u5_2⟩ -
    dsimp only [aq,nq,cq]
    exact zU (hD4 (u2_1,u2_2,u5_1,u5_2,u7_1)) kr ((.of rfl):SubM _ _) .rfl .rfl ((.of [0,1,2,3,4,5,6,7,8,9,10,11,12] rfl):SelR _ _ _)
   ·
    refine zta rfl rfl rfl rfl (zn zr43 rfl) (fun u6_1 _=> ?_)
    exact zU (hD5 (u2_1,u2_2,u6_1,u7_1)) kr ((.of rfl):SubM _ _) (zDa 1 rfl (zDa 0 rfl .nil)) .rfl ((.of [0,1,2,3,4,5,6,7,8,9,10,11] rfl):SelR _ _ _)
  refine zna (X:=Nat×Nat) (k':=4) (L':=(lb 10 219)) (fun (u6_1,u7_1)=>([(13,.pointer (some ⟨u7_1,0,none⟩)),(12,.pointer (some ⟨u6_1,0,none⟩)),(37,.agg (cw [w13,w14,w15,w16]).toArray),(36,.func (.func 94) #[] #[.pointer (some ⟨b1,0,none⟩),.pointer (some ⟨b2,0,none⟩)]),(34,.agg (cw [w6,w7,w8,w9]).toArray),(33,.func (.func 94) #[] #[.pointer (some ⟨b1,0,none⟩),.pointer (some ⟨b2,0,none⟩)]),(11,.pointer (some ⟨b17,0,none⟩)),(10,.pointer (some ⟨b10,0,none⟩)),(8,.slice p7 ((Pg.clN n qa qb l i).length) c7),(20,.int .i64 ((i:Nat):Int)),(19,.int .i64 ((n:Nat):Int)),(18,.slice p n cap),(7,.func (.func 94) #[] #[.pointer (some ⟨b1,0,none⟩),.pointer (some ⟨b2,0,none⟩)]),(6,.slice none 0 0),(0,.slice p n cap)],[boxA u7_1 43 (cw [wz,wz]),boxA u6_1 43 (cw [wz,wz])],[boxA b17 69 (cw [w13,w14,w15,w16]),boxA b10 69 (cw [w6,w7,w8,w9]),rowA 69 rR p7 c7 (Pg.clN n qa qb l i)],[qF true w13 w14 ((l.getD ((i+1)%n) ((0:Rat),(0:Rat))).1),qF true w15 w16 ((l.getD ((i+1)%n) ((0:Rat),(0:Rat))).2),qF true w6 w7 ((l.getD i ((0:Rat),(0:Rat))).1),qF true w8 w9 ((l.getD i ((0:Rat),(0:Rat))).2),atF b2 0 [wb0.b,wb0.l,wb1.b,wb1.l,wb2.b,wb2.l,wb3.b,wb3.l],atF b1 0 [wa0.b,wa0.l,wa1.b,wa1.l,wa2.b,wa2.l,wa3.b,wa3.l],slF rR p cap l,qF true wa0 wa1 (qa.1),qF true wa2 wa3 (qa.2),qF true wb0 wb1 (qb.1),qF true wb2 wb3 (qb.2)])) ?_ (fun hD9=> ?_)
  ·
   rintro ⟨u6_1,u7_1⟩
   dsimp only [cw]
   refine zUa 2 kr ?_
   ·
    refine zkc (first:=[]) (cap:=[.pointer (some ⟨b1,0,none⟩),.pointer (some ⟨b2,0,none⟩)]) rfl rfl rfl rfl rfl (.c rfl .n) ce94 (zjb (ba:=b1) (bb:=b2) (wa0:=wa0) (wa1:=wa1) (wa2:=wa2) (wa3:=wa3) (qa:=qa) (wb0:=wb0) (wb1:=wb1) (wb2:=wb2) (wb3:=wb3) (qb:=qb) (wd0:=w6) (wd1:=w7) (wd2:=w8) (wd3:=w9) (qd:=(l.getD i ((0:Rat),(0:Rat)))) (K:=K) (hpa:=ass) (hpb:=ass) (hpd:=cbo) (hK:=cbo)) (.c (j:=5) rfl (.c (j:=4) rfl (.c (j:=7) rfl (.c (j:=8) rfl (.c (j:=9) rfl (.c (j:=10) rfl (.c (j:=2) rfl (.c (j:=3) rfl .n)))))))) ?_
    rintro ⟨u2_1,u2_2⟩ -
    dsimp only [aq,nq,cq]
    exact zU (hD5 (u2_1,u2_2,u6_1,u7_1)) kr ((.of rfl):SubM _ _) .rfl .rfl ((.of [0,1,2,3,4,5,6,7,8,9,10,11] rfl):SelR _ _ _)
  refine zna (X:=Wd×Wd) (k':=5) (L':=(lb 10 31)) (fun (u2_1,u2_2)=>([(35,.agg (cw [u2_1,u2_2]).toArray),(37,.agg (cw [w13,w14,w15,w16]).toArray),(36,.func (.func 94) #[] #[.pointer (some ⟨b1,0,none⟩),.pointer (some ⟨b2,0,none⟩)]),(11,.pointer (some ⟨b17,0,none⟩)),(10,.pointer (some ⟨b10,0,none⟩)),(8,.slice p7 ((Pg.clN n qa qb l i).length) c7),(20,.int .i64 ((i:Nat):Int)),(19,.int .i64 ((n:Nat):Int)),(18,.slice p n cap),(7,.func (.func 94) #[] #[.pointer (some ⟨b1,0,none⟩),.pointer (some ⟨b2,0,none⟩)]),(6,.slice none 0 0),(0,.slice p n cap)],[],[boxA b17 69 (cw [w13,w14,w15,w16]),boxA b10 69 (cw [w6,w7,w8,w9]),rowA 69 rR p7 c7 (Pg.clN n qa qb l i)],[qF true u2_1 u2_2 (Pg.sdq qa qb (l.getD i ((0:Rat),(0:Rat)))),qF true w13 w14 ((l.getD ((i+1)%n) ((0:Rat),(0:Rat))).1),qF true w15 w16 ((l.getD ((i+1)%n) ((0:Rat),(0:Rat))).2),qF true w6 w7 ((l.getD i ((0:Rat),(0:Rat))).1),qF true w8 w9 ((l.getD i ((0:Rat),(0:Rat))).2),atF b2 0 [wb0.b,wb0.l,wb1.b,wb1.l,wb2.b,wb2.l,wb3.b,wb3.l],atF b1 0 [wa0.b,wa0.l,wa1.b,wa1.l,wa2.b,wa2.l,wa3.b,wa3.l],slF rR p cap l,qF true wa0 wa1 (qa.1),qF true wa2 wa3 (qa.2),qF true wb0 wb1 (qb.1),qF true wb2 wb3 (qb.2)])) ?_ (fun hD10=> ?_)
  ·
   rintro ⟨u2_1,u2_2⟩
   dsimp only [cw]
   refine zud 5 6 7 kr ?_ ?_ ?_
   ·
    refine zkc (first:=[]) (cap:=[.pointer (some ⟨b1,0,none⟩),.pointer (some ⟨b2,0,none⟩)]) rfl rfl rfl rfl rfl (.c rfl .n) ce94 (zjb (ba:=b1) (bb:=b2) (wa0:=wa0) (wa1:=wa1) (wa2:=wa2) (wa3:=wa3) (qa:=qa) (wb0:=wb0) (wb1:=wb1) (wb2:=wb2) (wb3:=wb3) (qb:=qb) (wd0:=w13) (wd1:=w14) (wd2:=w15) (wd3:=w16) (qd:=(l.getD ((i+1)%n) ((0:Rat),(0:Rat)))) (K:=K) (hpa:=ass) (hpb:=ass) (hpd:=cbo) (hK:=cbo)) (.c (j:=6) rfl (.c (j:=5) rfl (.c (j:=8) rfl (.c (j:=9) rfl (.c (j:=10) rfl (.c (j:=11) rfl (.c (j:=1) rfl (.c (j:=2) rfl .n)))))))) ?_
    rintro ⟨u5_1,u5_2⟩ -
    dsimp only [aq,nq,cq]
    exact zU (hD6 (u2_1,u2_2,u5_1,u5_2)) kr ((.of rfl):SubM _ _) .rfl .rfl ((.of [0,1,2,3,4,5,6,7,8,9,10,11,12] rfl):SelR _ _ _)
   ·
    refine zta rfl rfl rfl rfl (zn zr43 rfl) (fun u6_1 _=> ?_)
    exact zU (hD7 (u2_1,u2_2,u6_1)) kr ((.of rfl):SubM _ _) .rfl .rfl ((.of [0,1,2,3,4,5,6,7,8,9,10,11] rfl):SelR _ _ _)
   ·
    refine zta rfl rfl rfl rfl (zn zr43 rfl) (fun u7_1 _=> ?_)
    exact zU (hD8 (u2_1,u2_2,u7_1)) kr ((.of rfl):SubM _ _) .rfl .rfl ((.of [0,1,2,3,4,5,6,7,8,9,10,11] rfl):SelR _ _ _)
  refine zna (X:=Nat) (k':=5) (L':=(lb 10 91)) (fun u6_1=>([(12,.pointer (some ⟨u6_1,0,none⟩)),(37,.agg (cw [w13,w14,w15,w16]).toArray),(36,.func (.func 94) #[] #[.pointer (some ⟨b1,0,none⟩),.pointer (some ⟨b2,0,none⟩)]),(34,.agg (cw [w6,w7,w8,w9]).toArray),(33,.func (.func 94) #[] #[.pointer (some ⟨b1,0,none⟩),.pointer (some ⟨b2,0,none⟩)]),(11,.pointer (some ⟨b17,0,none⟩)),(10,.pointer (some ⟨b10,0,none⟩)),(8,.slice p7 ((Pg.clN n qa qb l i).length) c7),(20,.int .i64 ((i:Nat):Int)),(19,.int .i64 ((n:Nat):Int)),(18,.slice p n cap),(7,.func (.func 94) #[] #[.pointer (some ⟨b1,0,none⟩),.pointer (some ⟨b2,0,none⟩)]),(6,.slice none 0 0),(0,.slice p n cap)],[boxA u6_1 43 (cw [wz,wz])],[boxA b17 69 (cw [w13,w14,w15,w16]),boxA b10 69 (cw [w6,w7,w8,w9]),rowA 69 rR p7 c7 (Pg.clN n qa qb l i)],[qF true w13 w14 ((l.getD ((i+1)%n) ((0:Rat),(0:Rat))).1),qF true w15 w16 ((l.getD ((i+1)%n) ((0:Rat),(0:Rat))).2),qF true w6 w7 ((l.getD i ((0:Rat),(0:Rat))).1),qF true w8 w9 ((l.getD i ((0:Rat),(0:Rat))).2),atF b2 0 [wb0.b,wb0.l,wb1.b,wb1.l,wb2.b,wb2.l,wb3.b,wb3.l],atF b1 0 [wa0.b,wa0.l,wa1.b,wa1.l,wa2.b,wa2.l,wa3.b,wa3.l],slF rR p cap l,qF true wa0 wa1 (qa.1),qF true wa2 wa3 (qa.2),qF true wb0 wb1 (qb.1),qF true wb2 wb3 (qb.2)])) ?_ (fun hD11=> ?_)
  ·
   rintro u6_1
   dsimp only [cw]
   refine zLb 2 7 kr ?_ ?_
   ·
    refine zkc (first:=[]) (cap:=[.pointer (some ⟨b1,0,none⟩),.pointer (some ⟨b2,0,none⟩)]) rfl rfl rfl rfl rfl (.c rfl .n) ce94 (zjb (ba:=b1) (bb:=b2) (wa0:=wa0) (wa1:=wa1) (wa2:=wa2) (wa3:=wa3) (qa:=qa) (wb0:=wb0) (wb1:=wb1) (wb2:=wb2) (wb3:=wb3) (qb:=qb) (wd0:=w6) (wd1:=w7) (wd2:=w8) (wd3:=w9) (qd:=(l.getD i ((0:Rat),(0:Rat)))) (K:=K) (hpa:=ass) (hpb:=ass) (hpd:=cbo) (hK:=cbo)) (.c (j:=5) rfl (.c (j:=4) rfl (.c (j:=7) rfl (.c (j:=8) rfl (.c (j:=9) rfl (.c (j:=10) rfl (.c (j:=2) rfl (.c (j:=3) rfl .n)))))))) ?_
    rintro ⟨u2_1,u2_2⟩ -
    dsimp only [aq,nq,cq]
    exact zU (hD7 (u2_1,u2_2,u6_1)) kr ((.of rfl):SubM _ _) .rfl .rfl ((.of [0,1,2,3,4,5,6,7,8,9,10,11] rfl):SelR _ _ _)
   ·
    refine zta rfl rfl rfl rfl (zn zr43 rfl) (fun u7_1 _=> ?_)
    exact zU (hD9 (u6_1,u7_1)) kr ((.of rfl):SubM _ _) .rfl .rfl ((.of [0,1,2,3,4,5,6,7,8,9,10] rfl):SelR _ _ _)
  refine zna (X:=Nat) (k':=5) (L':=(lb 10 155)) (fun u7_1=>([(13,.pointer (some ⟨u7_1,0,none⟩)),(37,.agg (cw [w13,w14,w15,w16]).toArray),(36,.func (.func 94) #[] #[.pointer (some ⟨b1,0,none⟩),.pointer (some ⟨b2,0,none⟩)]),(34,.agg (cw [w6,w7,w8,w9]).toArray),(33,.func (.func 94) #[] #[.pointer (some ⟨b1,0,none⟩),.pointer (some ⟨b2,0,none⟩)]),(11,.pointer (some ⟨b17,0,none⟩)),(10,.pointer (some ⟨b10,0,none⟩)),(8,.slice p7 ((Pg.clN n qa qb l i).length) c7),(20,.int .i64 ((i:Nat):Int)),(19,.int .i64 ((n:Nat):Int)),(18,.slice p n cap),(7,.func (.func 94) #[] #[.pointer (some ⟨b1,0,none⟩),.pointer (some ⟨b2,0,none⟩)]),(6,.slice none 0 0),(0,.slice p n cap)],[boxA u7_1 43 (cw [wz,wz])],[boxA b17 69 (cw [w13,w14,w15,w16]),boxA b10 69 (cw [w6,w7,w8,w9]),rowA 69 rR p7 c7 (Pg.clN n qa qb l i)],[qF true w13 w14 ((l.getD ((i+1)%n) ((0:Rat),(0:Rat))).1),qF true w15 w16 ((l.getD ((i+1)%n) ((0:Rat),(0:Rat))).2),qF true w6 w7 ((l.getD i ((0:Rat),(0:Rat))).1),qF true w8 w9 ((l.getD i ((0:Rat),(0:Rat))).2),atF b2 0 [wb0.b,wb0.l,wb1.b,wb1.l,wb2.b,wb2.l,wb3.b,wb3.l],atF b1 0 [wa0.b,wa0.l,wa1.b,wa1.l,wa2.b,wa2.l,wa3.b,wa3.l],slF rR p cap l,qF true wa0 wa1 (qa.1),qF true wa2 wa3 (qa.2),qF true wb0 wb1 (qb.1),qF true wb2 wb3 (qb.2)])) ?_ (fun hD12=> ?_)
  ·
   rintro u7_1
   dsimp only [cw]
   refine zLb 2 6 kr ?_ ?_
   ·
    refine zkc (first:=[]) (cap:=[.pointer (some ⟨b1,0,none⟩),.pointer (some ⟨b2,0,none⟩)]) rfl rfl rfl rfl rfl (.c rfl .n) ce94 (zjb (ba:=b1) (bb:=b2) (wa0:=wa0) (wa1:=wa1) (wa2:=wa2) (wa3:=wa3) (qa:=qa) (wb0:=wb0) (wb1:=wb1) (wb2:=wb2) (wb3:=wb3) (qb:=qb) (wd0:=w6) (wd1:=w7) (wd2:=w8) (wd3:=w9) (qd:=(l.getD i ((0:Rat),(0:Rat)))) (K:=K) (hpa:=ass) (hpb:=ass) (hpd:=cbo) (hK:=cbo)) (.c (j:=5) rfl (.c (j:=4) rfl (.c (j:=7) rfl (.c (j:=8) rfl (.c (j:=9) rfl (.c (j:=10) rfl (.c (j:=2) rfl (.c (j:=3) rfl .n)))))))) ?_
    rintro ⟨u2_1,u2_2⟩ -
    dsimp only [aq,nq,cq]
    exact zU (hD8 (u2_1,u2_2,u7_1)) kr ((.of rfl):SubM _ _) .rfl .rfl ((.of [0,1,2,3,4,5,6,7,8,9,10,11] rfl):SelR _ _ _)
   ·
    refine zta rfl rfl rfl rfl (zn zr43 rfl) (fun u6_1 _=> ?_)
    exact zU (hD9 (u6_1,u7_1)) kr ((.of rfl):SubM _ _) (zDa 1 rfl (zDa 0 rfl .nil)) .rfl ((.of [0,1,2,3,4,5,6,7,8,9,10] rfl):SelR _ _ _)
  refine zud 2 6 7 kr ?_ ?_ ?_
  ·
   refine zkc (first:=[]) (cap:=[.pointer (some ⟨b1,0,none⟩),.pointer (some ⟨b2,0,none⟩)]) rfl rfl rfl rfl rfl (.c rfl .n) ce94 (zjb (ba:=b1) (bb:=b2) (wa0:=wa0) (wa1:=wa1) (wa2:=wa2) (wa3:=wa3) (qa:=qa) (wb0:=wb0) (wb1:=wb1) (wb2:=wb2) (wb3:=wb3) (qb:=qb) (wd0:=w6) (wd1:=w7) (wd2:=w8) (wd3:=w9) (qd:=(l.getD i ((0:Rat),(0:Rat)))) (K:=K) (hpa:=ass) (hpb:=ass) (hpd:=cbo) (hK:=cbo)) (.c (j:=5) rfl (.c (j:=4) rfl (.c (j:=7) rfl (.c (j:=8) rfl (.c (j:=9) rfl (.c (j:=10) rfl (.c (j:=2) rfl (.c (j:=3) rfl .n)))))))) ?_
   rintro ⟨u2_1,u2_2⟩ -
   dsimp only [aq,nq,cq]
   exact zU (hD10 (u2_1,u2_2)) kr ((.of rfl):SubM _ _) .rfl .rfl ((.of [0,1,2,3,4,5,6,7,8,9,10,11] rfl):SelR _ _ _)
  ·
   refine zta rfl rfl rfl rfl (zn zr43 rfl) (fun u6_1 _=> ?_)
   exact zU (hD11 u6_1) kr ((.of rfl):SubM _ _) .rfl .rfl ((.of [0,1,2,3,4,5,6,7,8,9,10] rfl):SelR _ _ _)
  ·
   refine zta rfl rfl rfl rfl (zn zr43 rfl) (fun u7_1 _=> ?_)
   exact zU (hD12 u7_1) kr ((.of rfl):SubM _ _) .rfl .rfl ((.of [0,1,2,3,4,5,6,7,8,9,10] rfl):SelR _ _ _)
 ·
  refine zja<|zj<|zj<|zt<|zd<|zg<|za<|e_mv rfl<|e_p (zb rfl)<|zh<|zd<|zH ?_
  have e57:Pg.clN n qa qb l i=Pg.clL qa qb l:=by rw [show i=n by omega,Pg.clL,hn]
  rw [e57]
  exact zy Tryz.results58 (p7,c7) trivial (zl rfl) rfl (ho:=((.c (i:=0) rfl .n):PickO _ _ _)) (.n:SelR _ _ _)
end Go.Proofs.YtjcpbhlijoigfaaGreat.Sp
namespace Go.Proofs.YtjcpbhlijoigfaaGreat.Sp
open Go
set_option linter.unusedVariables false
set_option maxRecDepth 100000
set_option maxHeartbeats 8000000
theorem zKa {s:Bool} {p:Option Addr} {n:Nat} {cap:Nat} {l:List Int} (hn:l.length=n) (ho:yr l) (hln:n≤4398046511104):Con ym 112 [.bool s,.slice p n cap] [] [slF (rI .u32) p cap l] (Y:=(Option Addr)×Nat) (fun y=>True) (fun y=> .agg #[.bool (decide ((yt s (yh l))<0)),.slice (y.1) ((yd ((yt s (yh l)).natAbs)).length) (y.2)]) (fun y=>[]) (fun y=>[slF (rI .u32) (y.1) (y.2) (yd ((yt s (yh l)).natAbs))]):=by
 refine zm Tryz.func112 rfl rfl rfl (fun c=> ?_)
 show RunC _ _ _ _ _ [(0,.bool s),(1,.slice p n cap)] [] [slF (rI .u32) p cap l]
 refine zba 0 rfl (fun hL0=> ?_)
 refine zg<|za<|zM rfl rfl (zn zr41 rfl) (fun b1=> ?_)
 refine zh<|zd<|zg<|za<|e_mv rfl<|e_p (zN yf rfl)<|e_p (zb rfl)<|zh<|zd<|zg<|zB<|zka (X:=Nat) (fun x:Nat=>x≤n∧yz (l.take x)=yz l) (fun x=>[(5,ya yb ((x:Nat):Int)),(4,yc (some ⟨b1,0,none⟩)),(0,.bool s),(1,.slice p n cap)]) (fun x=>[boxA b1 41 [wz.b,wz.l]]) (fun x=>[slF (rI .u32) p cap l]) (fun x:Nat=>x) n (show n≤n∧yz (l.take n)=yz l from by exact ⟨by omega,by rw [List.take_of_length_le om]⟩) ((.of rfl):SubM _ _) (ho:=((.c (i:=0) rfl .n):PickO _ _ _)) ((.c (j:=0) rfl .n):SelR _ _ _) ?_
 rintro k hI
 replace hI:k≤n∧yz (l.take k)=yz l:=hI
 try dsimp only
 obtain ⟨hk,hT⟩:=hI
 refine zg<|zEa (X:=Unit) (fun x=>True) (fun x=>[(17,.bool (decide (0<k∧l.getD (k - 1) 0=0))),(5,ya yb ((k:Nat):Int)),(4,yc (some ⟨b1,0,none⟩)),(0,.bool s),(1,.slice p n cap)]) (fun x=>[boxA b1 41 [wz.b,wz.l]]) (fun x=>[slF (rI .u32) p cap l]) ?_ ?_
 ·
  refine za<|e_mv rfl<|e_p (zAa rfl rfl)<|zaa rfl rfl (zX rfl) (fun h2=> ?_) (fun h2=> ?_)
  ·
   refine e_mv rfl<|e_mv rfl<|e_p (zla (z:=(((k:Nat):Int) - 1)) rfl rfl (w64 om))<|zP (x0:=(l.getD ((((k:Nat):Int) - 1).toNat) 0)) 0 ((((k:Nat):Int) - 1).toNat) rfl yf sz121 rfl rfl rfl cbs rfl om (gD (d:=0) om) (fun b3 o4 hok5=> ?_)
   replace hok5:=zG.1 hok5
   refine e_ru (zx (j:=0) 0 ty121 rfl rfl rfl rfl)<|e_p (zua rfl rfl)<|e_p (zo rfl rfl)<|zh ?_
   exact zga () (show True from by first|trivial|omega|simp_all) ((.e rfl (congrArg Value.bool (by have h1:0<k:=om;have h2:((k:Int) - 1).toNat=k - 1:=om;simp [h1,h2])) (.of rfl)):SubM _ _) (ho:=((.c (i:=0) rfl .n):PickO _ _ _)) ((.c (j:=1) rfl .n):SelR _ _ _)
  ·
   refine e_no<|e_no<|e_no<|e_no<|e_no<|e_no<|e_p (zo rfl rfl)<|zh ?_
   exact zga () (show True from by first|trivial|omega|simp_all) ((.e rfl (congrArg Value.bool (by have h1:¬0<k:=om;simp [h1])) (.of rfl)):SubM _ _) (ho:=((.c (i:=0) rfl .n):PickO _ _ _)) ((.c (j:=0) rfl .n):SelR _ _ _)
 ·
  rintro ⟨⟩ -
  try dsimp only
  refine zC rfl (fun hc=> ?_) (fun hc=> ?_)
  ·
   refine zA<|zd<|zB<|za<|e_mv rfl<|e_p (zla (z:=(((k - 1):Nat):Int)) rfl rfl (w64 om))<|e_p (zb rfl)<|zh<|zO<|zda (k - 1) (show (k - 1)≤n∧yz (l.take (k - 1))=yz l from by exact ⟨by omega,by rw [← hT,Big.trim_go l hc.1 om hc.2]⟩) (by show k - 1<k;omega) ((.e rfl (by first|rfl|(congr 1;omega)|simp_all) (.of rfl)):SubM _ _) (ho:=((.c (i:=0) rfl .n):PickO _ _ _)) ((.c (j:=0) rfl .n):SelR _ _ _)
  ·
   have htr:l.take k=yd (yt s (yh l)).natAbs:=by rw [yG (yx ho),←Big.digs_valL ho,←hT];exact (Big.trim_stop l om hc).symm
   have hlt:(l.take k).length=k:=by rw [List.length_take];omega
   have hsg:=Big.made_sign (s:=s) ho htr hlt
   refine zja<|zj<|zj<|zt<|zd<|zg<|za<|e_mv rfl<|zRc rfl rfl (zX rfl) (fun hs=> ?_) (fun hs=> ?_)
   ·
    refine e_mv rfl<|e_p (zAa rfl rfl)<|e_p (zo rfl rfl)<|zFa rfl rfl (zva (rI .u32) yf inf121) (fun b6 _=> ?_)
    refine e_mv rfl<|e_mv rfl<|e_p (zwb (hi:=k) yf sz121 rfl (.s rfl) (.inr ⟨_,rfl⟩) om)<|zEc (zjc 0 rfl k om) (fun _ _=> ?_)
    refine zIa 0 rfl rfl rfl (zsa 0 rfl yf inf121 dd rfl rfl cbs rfl cbs om om) (fun _=> .z) ?_
    rintro ⟨p7,c8⟩ -
    dsimp only [aq,nq,cq]
    refine e_p (zJ zr41 rfl yg (.c sz4 (.c sz39 .n)) (.c rfl (.c rfl .n)) (.c rfl rfl rfl (.take .nil) (.c rfl rfl rfl (.skip (.take .nil)) .n)))<|zk 1 rfl rfl rfl rfl rfl sz41 rfl (.t2 .nil) (.s .z)<|zh<|zd<|zH ?_
    subst hs
    refine zUb 0 rfl .z ?_
    exact zy Tryz.results112 (p7,c8) trivial (zu 1 ty41 rfl rfl (.t2 .nil)) (by rw [hsg,←htr,hlt,Nat.zero_add] <;> simp) (ho:=(.n:PickO _ _ _)) ((.e (j:=0) rfl (by rw [htr] <;> rfl) .n):SelR _ _ _)
   ·
    refine e_no<|e_no<|e_p (zo rfl rfl)<|zFa rfl rfl (zva (rI .u32) yf inf121) (fun b9 _=> ?_)
    refine e_mv rfl<|e_mv rfl<|e_p (zwb (hi:=k) yf sz121 rfl (.s rfl) (.inr ⟨_,rfl⟩) om)<|zEc (zjc 0 rfl k om) (fun _ _=> ?_)
    refine zIa 0 rfl rfl rfl (zsa 0 rfl yf inf121 dd rfl rfl cbs rfl cbs om om) (fun _=> .z) ?_
    rintro ⟨p10,c11⟩ -
    dsimp only [aq,nq,cq]
    refine e_p (zJ zr41 rfl yg (.c sz4 (.c sz39 .n)) (.c rfl (.c rfl .n)) (.c rfl rfl rfl (.take .nil) (.c rfl rfl rfl (.skip (.take .nil)) .n)))<|zk 1 rfl rfl rfl rfl rfl sz41 rfl (.t2 .nil) (.s .z)<|zh<|zd<|zH ?_
    subst hs
    refine zUb 0 rfl .z ?_
    exact zy Tryz.results112 (p10,c11) trivial (zu 1 ty41 rfl rfl (.t2 .nil)) (by rw [hsg,←htr,hlt,Nat.zero_add] <;> simp) (ho:=(.n:PickO _ _ _)) ((.e (j:=0) rfl (by rw [htr] <;> rfl) .n):SelR _ _ _)
theorem znb {s:Bool} {a:Nat} {p:Option Addr} {cap:Nat} (hln:(yd (a)).length≤4398046511104):Con ym 112 [.bool (s),.slice (p) ((yd (a)).length) (cap)] [] [slF (rI .u32) (p) (cap) (yd (a))] (Y:=(Option Addr)×(Nat)) (fun y=>True) (fun y=> .agg #[.bool (decide ((yt s (a:Int))<0)),.slice (y.1) ((yd ((yt s (a:Int)).natAbs)).length) (y.2)]) (fun y=>[]) (fun y=>[slF (rI .u32) (y.1) (y.2) (yd ((yt s (a:Int)).natAbs))]):=by
  have h:= @zKa s p (yd a).length cap (yd a) rfl (yn a) hln
  rw [yw] at h
  exact h
theorem zWa {p:Option Addr} {n:Nat} {cap:Nat} {l:List Int} {i:Nat} (hn:l.length=n) (hi:i≤4611686018427387904):Con ym 143 [.slice p n cap,ya yb ((i:Nat):Int)] [] [slF (rI .u32) p cap l] (Y:=Unit) (fun y=>True) (fun y=> .int .u64 (l.getD i 0)) (fun y=>[]) (fun y=>[]):=by
 refine zm Tryz.func143 rfl rfl rfl (fun c=> ?_)
 show RunC _ _ _ _ _ [(0,.slice p n cap),(1,ya yb ((i:Nat):Int))] [] [slF (rI .u32) p cap l]
 refine zba 0 rfl (fun hL0=> ?_)
 refine zg<|za<|e_p (zb rfl)<|zh<|zd<|zg<|zg<|za<|e_mv rfl<|e_mv rfl<|e_p (zN yf rfl)<|e_p (zY rfl rfl)<|zh<|zd<|zC rfl (fun h1=> ?_) (fun h1=> ?_)
 ·
  refine zg<|za<|e_mv rfl<|e_mv rfl<|zP (x0:=(l.getD i 0)) 0 i rfl yf sz121 rfl rfl rfl cbs rfl rfl (gD (d:=0) om) (fun b2 o3 hok4=> ?_)
  replace hok4:=zG.1 hok4
  refine e_ru (zx (j:=0) 0 ty121 rfl rfl rfl rfl)<|e_p (zK (z:=(l.getD i 0)) rfl (by rw [yj];rfl) yi (wu64 om))<|e_p (zb rfl)<|zh<|zd<|zH<|zi ?_
  exact zy Tryz.results143 () trivial (zl rfl) rfl (ho:=(.n:PickO _ _ _)) (.n:SelR _ _ _)
 ·
  refine zA<|zd<|zg<|za<|e_p (zb rfl)<|zh<|zd<|zH ?_
  exact zy Tryz.results143 () trivial (zl rfl) (by rw [show l.getD i 0=0 by simp [List.getD,List.getElem?_eq_none (show l.length≤i by omega)]]) (ho:=(.n:PickO _ _ _)) (.n:SelR _ _ _)
theorem zAc {s:Bool} {p:Option Addr} {n:Nat} {cap:Nat} {l:List Int} (hn:l.length=n):Con ym 122 [.agg #[.bool s,.slice p n cap]] [] [slF (rI .u32) p cap l] (Y:=Unit) (fun y=>True) (fun y=> .bool (decide (Big.canon s l))) (fun y=>[]) (fun y=>[]):=by
 refine zm Tryz.func122 rfl rfl rfl (fun c=> ?_)
 show RunC _ _ _ _ _ [(0,.agg #[.bool s,.slice p n cap])] [] [slF (rI .u32) p cap l]
 refine zba 0 rfl (fun hL0=> ?_)
 refine zg<|za<|zM rfl rfl (zR rfl rfl) (fun b1=> ?_)
 refine e_p (zb rfl)<|zh<|zd<|zg<|za<|e_p (ze yg rfl sz39 rfl rfl)<|e_ru (zf 0 ty39 rfl rfl rfl)<|e_p (zN yf rfl)<|e_p (zb rfl)<|zh<|zd<|zg<|zg<|za<|e_p (zb rfl)<|zh<|zd<|zB<|zka (X:=Nat) (fun x:Nat=>x≤n∧∀j,j<x→l.getD j 0<1000000000) (fun x=>[(4,ya yb ((x:Nat):Int)),(3,ya yb ((n:Nat):Int)),(1,yc (some ⟨b1,0,none⟩))]) (fun x=>[boxA b1 41 [.bool s,.slice p n cap]]) (fun x=>[slF (rI .u32) p cap l]) (fun x:Nat=>n - x) 0 (show 0≤n∧∀j,j<0→l.getD j 0<1000000000 from by exact ⟨by omega,fun j h=>by omega⟩) ((.e rfl (by first|rfl|(congr 1;omega)|simp_all) (.c rfl (.c rfl .n))):SubM _ _) (ho:=((.c (i:=0) rfl .n):PickO _ _ _)) ((.c (j:=0) rfl .n):SelR _ _ _) ?_
 rintro i hI
 replace hI:i≤n∧∀j,j<i→l.getD j 0<1000000000:=hI
 try dsimp only
 obtain ⟨hi,hall⟩:=hI
 refine zg<|zg<|za<|e_mv rfl<|e_mv rfl<|e_p (zY rfl rfl)<|zh<|zd<|zC rfl (fun h2=> ?_) (fun h2=> ?_)
 ·
  refine zA<|zd<|zg<|zB<|zg<|za<|e_p (ze yg rfl sz39 rfl rfl)<|e_ru (zf 0 ty39 rfl rfl rfl)<|e_mv rfl<|zP (x0:=(l.getD i 0)) 0 i rfl yf sz121 rfl rfl rfl cbs rfl rfl (gD (d:=0) om) (fun b3 o4 hok5=> ?_)
  replace hok5:=zG.1 hok5
  refine e_ru (zx (j:=0) 0 ty121 rfl rfl rfl rfl)<|e_p (zJa rfl rfl)<|zh<|zd<|zC rfl (fun hb=> ?_) (fun hb=> ?_)
  ·
   refine zg<|za<|e_p (zb rfl)<|zh<|zd<|zH<|zp<|zi<|zi<|zp<|zi ?_
   exact zy Tryz.results122 () trivial (zl rfl) (congrArg Value.bool (decide_eq_false (fun h=>((Big.canon_more om).1 h).2 ⟨_,Big.getD_mem om,hb⟩))) (ho:=(.n:PickO _ _ _)) (.n:SelR _ _ _)
  ·
   refine zA<|zO<|zd<|za<|e_mv rfl<|e_p (zI (z:=(((i+1):Nat):Int)) rfl rfl (w64 om))<|e_p (zb rfl)<|zh<|zda (i+1) (show (i+1)≤n∧∀j,j<(i+1)→l.getD j 0<1000000000 from by refine ⟨by omega,fun j hj=> ?_⟩;by_cases e:j=i;subst e;omega;exact hall j om) (by show n - (i+1)<n - i;omega) ((.of rfl):SubM _ _) (ho:=((.c (i:=0) rfl .n):PickO _ _ _)) ((.c (j:=1) rfl .n):SelR _ _ _)
 ·
  refine zja<|zj<|zj<|zt<|zd<|zg<|zg<|za<|e_mv rfl<|e_p (zua rfl rfl)<|zh<|zd<|zC rfl (fun h0=> ?_) (fun h0=> ?_)
  ·
   refine zg<|za<|e_p (ze yg rfl sz4 rfl rfl)<|e_ru (zf 0 ty4 rfl rfl rfl)<|e_p (ztb rfl)<|e_p (zb rfl)<|zh<|zd<|zH<|zi ?_
   exact zy Tryz.results122 () trivial (zl rfl) (congrArg Value.bool (by have:l.length=0:=om;cases s <;> simp [Big.canon,this])) (ho:=(.n:PickO _ _ _)) (.n:SelR _ _ _)
  ·
   refine zA<|zd<|zg<|za<|e_p (ze yg rfl sz39 rfl rfl)<|e_ru (zf 0 ty39 rfl rfl rfl)<|e_mv rfl<|e_p (zla (z:=(((n:Nat):Int) - 1)) rfl rfl (w64 om))<|zP (x0:=(l.getD ((((n:Nat):Int) - 1).toNat) 0)) 0 ((((n:Nat):Int) - 1).toNat) rfl yf sz121 rfl rfl rfl cbs rfl om (gD (d:=0) om) (fun b6 o7 hok8=> ?_)
   replace hok8:=zG.1 hok8
   refine e_ru (zx (j:=0) 0 ty121 rfl rfl rfl rfl)<|e_p (zMa rfl rfl)<|e_p (zb rfl)<|zh<|zd<|zH ?_
   exact zy Tryz.results122 () trivial (zl rfl) (congrArg Value.bool (decide_eq_decide.2 (by rw [Big.canon_more om,hn];have e:((n:Int) - 1).toNat=n - 1:=om;rw [e];exact ⟨fun h=>h.1,fun h=>⟨h,fun ⟨g,hg,hb⟩=>by obtain ⟨j,hj,e⟩:=Big.mem_getD hg;have:=hall j om;omega⟩⟩))) (ho:=(.n:PickO _ _ _)) (.n:SelR _ _ _)
theorem zPa {s:Bool} {p:Option Addr} {n:Nat} {cap:Nat} {l:List Int} (hn:l.length=n) (hln:n≤1099511627776):Con ym 111 [.agg #[.bool s,.slice p n cap]] [] [slF (rI .u32) p cap l] (Y:=(Option Addr)×Nat) (fun y=>True) (fun y=> .agg #[.bool (decide ((ye s l)<0)),.slice (y.1) ((yd ((ye s l).natAbs)).length) (y.2)]) (fun y=>[]) (fun y=>[slF (rI .u32) (y.1) (y.2) (yd ((ye s l).natAbs))]):=by
 refine zm Tryz.func111 rfl rfl rfl (fun c=> ?_)
 show RunC _ _ _ _ _ [(0,.agg #[.bool s,.slice p n cap])] [] [slF (rI .u32) p cap l]
 refine zba 0 rfl (fun hL0=> ?_)
 refine zSa 0 rfl (fun hE0=> ?_)
 have hnn:yF l:=fun g hg=>(zG.1 (hE0 g hg)).1
 refine zg<|za<|zM rfl rfl (zR rfl rfl) (fun b1=> ?_)
 refine zM rfl rfl (zn zr41 rfl) (fun b2=> ?_)
 refine zh<|zd<|zg<|zg<|za<|e_ru (zc 1 ty41 rfl rfl (.t2 .nil))<|zL rfl rfl (.c rfl .n) ce122 (zAc (s:=s) (p:=p) (n:=n) (cap:=cap) (l:=l) (hn:=ass)) (.c (j:=0) rfl .n)<|e_p (zYa rfl)<|zh<|zd<|zC rfl (fun hc=> ?_) (fun hc=> ?_)
 ·
  refine zg<|za<|e_p (zJ zr41 rfl yg (.c sz4 (.c sz39 .n)) .n .n)<|zk 0 rfl rfl rfl rfl rfl sz41 rfl (.t2 .nil) .z<|zh<|zd<|zH<|zi ?_
  have hz:ye s l=0:=by unfold ye;rw [if_neg hc]
  refine zJd (rI .u32) ?_
  exact zy Tryz.results111 (none,0) trivial (zu 0 ty41 rfl rfl (.t2 .nil)) (by rw [hz];rfl) (ho:=(.n:PickO _ _ _)) ((.e (j:=0) rfl (by rw [hz];rfl) .n):SelR _ _ _)
 ·
  refine zA<|zd<|zg<|zW (OW:=[boxA b2 41 [wz.b,wz.l]]) (O:=[boxA b1 41 [.bool s,.slice p n cap]]) 5 mixed (.then .ret) kr<|e_pv 0 rfl rfl (ze yg rfl sz4 rfl rfl)<|e_u 1 rfl rfl (zf 0 ty4 rfl rfl rfl)<|e_pv 3 rfl rfl (ze yg rfl sz39 rfl rfl)<|e_uw 4 rfl rfl (zf 1 ty39 rfl rfl rfl)<|e_one 2 (zta rfl rfl rfl rfl (zva (rI .u32) yf inf121) (fun b3 _=> ?_))
  refine e_one 5 (zId (A':=fun v:Option Addr×Nat=>rowA 121 (rI .u32) v.1 v.2 (([])++l)) kr rfl rfl rfl (zsa 0 rfl yf inf121 dd rfl rfl cbs rfl cbs om om) ?_)
  rintro ⟨p4,c5⟩ -
  dsimp only [aq,nq,cq]
  refine e_pv 6 rfl rfl (zJ zr41 rfl yg (.c sz4 (.c sz39 .n)) (.c rfl (.c rfl .n)) (.c rfl rfl rfl (.take .nil) (.c rfl rfl rfl (.skip (.take .nil)) .n)))<|zQa (zca (i:=1) rfl)<|e_one 7 (zv kr rfl rfl rfl rfl rfl sz41 rfl (.t2 .nil) ?_)
  refine zT kr<|zd<|zH ?_
  have hcc:Big.canon s l:=Decidable.not_not.1 hc
  have hd:yd (ye s l).natAbs=l:=by rw [Big.raw_digs hnn,if_pos hcc]
  have hs:=Big.raw_sign hnn hcc
  refine zUb 1 rfl (.s .z) ?_
  exact zy Tryz.results111 (p4,c5) trivial (zu 0 ty41 rfl rfl (.t2 .nil)) (by rw [hs,hd,hn,Nat.zero_add]) (ho:=(.n:PickO _ _ _)) ((.e (j:=0) rfl (by rw [hd] <;> rfl) .n):SelR _ _ _)
theorem zbd {z:Int} {p:Option Addr} {cap:Nat} (hln:yl z≤1099511627776):Con ym 111 [.agg #[.bool (decide ((z)<0)),.slice (p) ((yd ((z).natAbs)).length) (cap)]] [] [slF (rI .u32) (p) (cap) (yd ((z).natAbs))] (Y:=(Option Addr)×(Nat)) (fun y=>True) (fun y=> .agg #[.bool (decide ((z)<0)),.slice (y.1) ((yd ((z).natAbs)).length) (y.2)]) (fun y=>[]) (fun y=>[slF (rI .u32) (y.1) (y.2) (yd ((z).natAbs))]):=by
  have h:= @zPa (decide ((z)<0)) p (yd (z).natAbs).length cap (yd (z).natAbs) rfl hln
  rw [yq] at h
  exact h
theorem zJf {z:Int} (hz: -9223372036854775808≤z∧z≤9223372036854775807):Con ym 113 [ya yb z] [] [] (Y:=(Option Addr)×Nat) (fun y=>True) (fun y=> .agg #[.bool (decide (z<0)),.slice (y.1) ((yd ((z).natAbs)).length) (y.2)]) (fun y=>[]) (fun y=>[slF (rI .u32) (y.1) (y.2) (yd ((z).natAbs))]):=by
 refine zm Tryz.func113 rfl rfl rfl (fun c=> ?_)
 show RunC _ _ _ _ _ [(0,ya yb z)] [] []
 refine zg<|za<|zM rfl rfl (zn zr41 rfl) (fun b1=> ?_)
 refine zh<|zd<|zg<|za<|e_mv rfl<|e_p (zK (z:=(z%18446744073709551616)) rfl (by rw [Tryz.underlying3];rfl) yi (wu64m om))<|e_p (zb rfl)<|zh<|zd<|zEa (X:=Unit) (fun x=>True) (fun x=>[(3,.int .u64 ((z.natAbs:Nat):Int)),(2,yc (some ⟨b1,0,none⟩)),(0,ya yb z)]) (fun x=>[boxA b1 41 [wz.b,wz.l]]) (fun x=>[]) ?_ ?_
 ·
  refine zg<|za<|e_mv rfl<|e_p (zY rfl rfl)<|zh<|zd<|zC rfl (fun hs=> ?_) (fun hs=> ?_)
  ·
   refine za<|e_mv rfl<|e_p (zI (z:=(z+1)) rfl rfl (w64 om))<|e_p (zFd (z:=(-(z+1))) rfl (w64 om))<|e_p (zK (z:=(-(z+1))) rfl (by rw [Tryz.underlying3];rfl) yi (wu64 om))<|e_p (zI (z:=((z.natAbs:Nat):Int)) rfl rfl (wu64 om))<|e_p (zb rfl)<|zh ?_
   exact zga () (show True from by first|trivial|omega|simp_all) ((.of rfl):SubM _ _) (ho:=((.c (i:=0) rfl .n):PickO _ _ _)) (.n:SelR _ _ _)
  ·
   have e2:((z%18446744073709551616):Int)=((z.natAbs:Nat):Int):=by omega
   rw [e2]
   refine zA ?_
   exact zga () (show True from by first|trivial|omega|simp_all) ((.of rfl):SubM _ _) (ho:=((.c (i:=0) rfl .n):PickO _ _ _)) (.n:SelR _ _ _)
 ·
  rintro ⟨⟩ -
  try dsimp only
  refine zg<|za<|zFa rfl rfl (zva (rI .u32) yf inf121) (fun b3 _=> ?_)
  refine e_p (zb rfl)<|zh<|zd<|zg<|zB<|zka (X:=Nat×(Option Addr)×Nat×(List Int)) (fun x:Nat×(Option Addr)×Nat×(List Int)=>x.1≤z.natAbs∧x.2.2.2++yd x.1=yd z.natAbs) (fun x=>[(4,.slice (x.2.1) (x.2.2.2.length) (x.2.2.1)),(3,.int .u64 ((x.1:Nat):Int)),(2,yc (some ⟨b1,0,none⟩)),(0,ya yb z)]) (fun x=>[rowA 121 (rI .u32) (x.2.1) (x.2.2.1) (x.2.2.2),boxA b1 41 [wz.b,wz.l]]) (fun x=>[]) (fun x:Nat×(Option Addr)×Nat×(List Int)=>x.1) (z.natAbs,some ⟨b3,0,none⟩,0,[]) (show z.natAbs≤z.natAbs∧([])++yd z.natAbs=yd z.natAbs from by exact ⟨Nat.le_refl _,rfl⟩) ((.e rfl (by first|rfl|(congr 1;omega)|simp_all) (.of rfl)):SubM _ _) (ho:=((.of [0,0] rfl):PickO _ _ _)) (.n:SelR _ _ _) ?_
  rintro ⟨m,p,c,os⟩ hI
  replace hI:m≤z.natAbs∧os++yd m=yd z.natAbs:=hI
  try dsimp only
  obtain ⟨hnn,hos⟩:=hI
  have hlen0:os.length+(yd m).length≤3:=by have:=congrArg List.length hos;rw [List.length_append] at this;have:=Big.zqf (show z.natAbs<18446744073709551616 by omega);omega
  refine zg<|zg<|za<|e_mv rfl<|e_p (zAa rfl rfl)<|zh<|zd<|zC rfl (fun h4=> ?_) (fun h4=> ?_)
  ·
   refine zA<|zd<|zB<|zg<|za<|e_mv rfl<|e_mv rfl<|e_p (zwa (z:=(((m%1000000000):Nat):Int)) rfl rfl om (remN om om))<|e_p (zK (z:=(((m%1000000000):Nat):Int)) rfl (by rw [yi];rfl) yj (wu32 om))<|zFa rfl rfl (zV (enc:=fun z:Int=>[.int .u32 z]) (ok:=InK .u32) (h1:=fun _=>rfl) (h2:=fun _=>rfl) (k:=1) yf inf121 rfl dd dd dd (.c (x:=(((m%1000000000):Nat):Int)) rfl rfl (fun _ _=>by exact zG.2 om) .n)) (fun b5 _=> ?_)
   refine zma 0 rfl .z<|zIa 1 rfl rfl rfl (zsa 0 rfl yf inf121 dd rfl rfl cbs rfl cbs om om) (fun _=>(.s .z)) ?_
   rintro ⟨p6,c7⟩ -
   dsimp only [aq,nq,cq]
   refine e_p (zb rfl)<|zh<|zd<|za<|e_mv rfl<|e_p (zhb (z:=(((m / 1000000000):Nat):Int)) rfl rfl om (by rw [quoN (z:=(((m / 1000000000):Nat):Int)) om om];exact wu64 om))<|e_p (zb rfl)<|zh<|zO<|zda ((m / 1000000000),p6,c7,os++[((m%1000000000:Nat):Int)]) (show (m / 1000000000)≤z.natAbs∧(os++[((m%1000000000:Nat):Int)])++yd (m / 1000000000)=yd z.natAbs from by exact ⟨by omega,Big.split_step om hos⟩) (by show m / 1000000000<m;omega) ((.e rfl (by simp) (.of rfl)):SubM _ _) (ho:=((.e (i:=1) rfl (by first|rfl|(congr 1;omega)|simp_all) (.c (i:=1) rfl .n)):PickO _ _ _)) (.n:SelR _ _ _)
  ·
   have hm0:m=0:=by omega
   subst hm0
   have hd:os=yd z.natAbs:=by simpa [Big.digs_zero] using hos
   have hok:yr os:=by rw [hd];exact yn _
   have hlen:os.length≤3:=by rw [hd];exact Big.zqf om
   have hsg:yt (decide (z<0)) (yh os)=z:=by rw [hd,yw];exact Big.sg_big z
   refine zja<|zj<|zj<|zt<|zd<|zg<|za<|e_mv rfl<|e_p (zY rfl rfl)<|e_mv rfl<|zma 0 rfl .z<|zE rfl rfl (.c rfl (.c rfl .n)) ce112 (zKa (s:=decide (z<0)) (p:=p) (n:=os.length) (cap:=c) (l:=os) (hn:=by first|rfl|omega) (ho:=by exact hok) (hln:=by first|rfl|omega)) (.c (j:=0) rfl .n) ?_
   rintro ⟨p28,c29⟩ -
   dsimp only [aq,nq,cq]
   refine zk 1 rfl rfl rfl rfl rfl sz41 rfl (.t2 .nil) (.s .z)<|zh<|zd<|zH ?_
   exact zy Tryz.results113 (p28,c29) trivial (zu 1 ty41 rfl rfl (.t2 .nil)) (by rw [hsg]) (ho:=(.n:PickO _ _ _)) ((.e (j:=0) rfl (by rw [hsg]) .n):SelR _ _ _)
theorem zKf {a:Nat} {b:Nat} {p1:Option Addr} {c1:Nat} {p2:Option Addr} {c2:Nat} (hb1:(yd a).length≤1099511627776) (hb2:(yd b).length≤1099511627776):Con ym 128 [.slice p1 ((yd a).length) c1,.slice p2 ((yd b).length) c2] [] [slF (rI .u32) p1 c1 (yd a),slF (rI .u32) p2 c2 (yd b)] (Y:=(Option Addr)×Nat) (fun y=>True) (fun y=> .slice (y.1) ((yd (a+b)).length) (y.2)) (fun y=>[]) (fun y=>[slF (rI .u32) (y.1) (y.2) (yd (a+b))]):=by
 refine zm Tryz.func128 rfl rfl rfl (fun c=> ?_)
 show RunC _ _ _ _ _ [(0,.slice p1 ((yd a).length) c1),(1,.slice p2 ((yd b).length) c2)] [] [slF (rI .u32) p1 c1 (yd a),slF (rI .u32) p2 c2 (yd b)]
 refine zba 0 rfl (fun hL0=> ?_)
 refine zba 1 rfl (fun hL1=> ?_)
 refine zg<|za<|e_p (zb rfl)<|zh<|zd<|zg<|za<|zFa rfl rfl (zva (rI .u32) yf inf121) (fun b1 _=> ?_)
 refine e_p (zb rfl)<|zh<|zd<|zg<|za<|e_p (zb rfl)<|zh<|zd<|zg<|zg<|za<|e_p (zb rfl)<|zh<|zd<|zB<|zka (X:=Nat×(Option Addr)×Nat×(List Int)×Int) (fun x:Nat×(Option Addr)×Nat×(List Int)×Int=>x.1≤max (yd a).length (yd b).length∧x.2.2.2.1.length=x.1∧0≤x.2.2.2.2∧x.2.2.2.2≤1∧yr x.2.2.2.1∧yh x.2.2.2.1+yC x.1*x.2.2.2.2=yh ((yd a).take x.1)+yh ((yd b).take x.1)) (fun x=>[(6,.int .u64 (x.2.2.2.2)),(5,.slice (x.2.1) (x.2.2.2.1.length) (x.2.2.1)),(7,ya yb ((x.1:Nat):Int)),(4,.slice none 0 0),(0,.slice p1 ((yd a).length) c1),(1,.slice p2 ((yd b).length) c2)]) (fun x=>[rowA 121 (rI .u32) (x.2.1) (x.2.2.1) (x.2.2.2.1)]) (fun x=>[slF (rI .u32) p1 c1 (yd a),slF (rI .u32) p2 c2 (yd b)]) (fun x:Nat×(Option Addr)×Nat×(List Int)×Int=>max (yd a).length (yd b).length - x.1) (0,some ⟨b1,0,none⟩,0,[],0) (show 0≤max (yd a).length (yd b).length∧([]).length=0∧0≤0∧0≤1∧yr ([])∧yh ([])+yC 0*0=yh ((yd a).take 0)+yh ((yd b).take 0) from by exact ⟨by omega,rfl,by decide,by decide,Big.okL_nil,by simp [yh]⟩) ((.c rfl (.e rfl (by first|rfl|(congr 1;omega)|simp_all) (.e rfl (by first|rfl|(congr 1;omega)|simp_all) (.of rfl)))):SubM _ _) (ho:=((.c (i:=0) rfl .n):PickO _ _ _)) ((.of [0,1] rfl):SelR _ _ _) ?_
 rintro ⟨i,p,c,os,cy⟩ hI
 replace hI:i≤max (yd a).length (yd b).length∧os.length=i∧0≤cy∧cy≤1∧yr os∧yh os+yC i*cy=yh ((yd a).take i)+yh ((yd b).take i):=hI
 try dsimp only
 obtain ⟨hi,hol,hc0,hc1,hok,hv⟩:=hI
 have hg1:=yo (yn a) i
 have hg2:=yo (yn b) i
 refine zg<|zEa (X:=Unit) (fun x=>True) (fun x=>[(19,.bool (decide (i<(yd a).length∨i<(yd b).length))),(6,.int .u64 cy),(5,.slice p (os.length) c),(7,ya yb ((i:Nat):Int)),(4,.slice none 0 0),(0,.slice p1 ((yd a).length) c1),(1,.slice p2 ((yd b).length) c2)]) (fun x=>[rowA 121 (rI .u32) p c os]) (fun x=>[slF (rI .u32) p1 c1 (yd a),slF (rI .u32) p2 c2 (yd b)]) ?_ ?_
 ·
  refine za<|e_mv rfl<|e_mv rfl<|e_p (zN yf rfl)<|e_p (zY rfl rfl)<|zaa rfl rfl (zX rfl) (fun h2=> ?_) (fun h2=> ?_)
  ·
   refine e_no<|e_no<|e_no<|e_no<|e_p (zo rfl rfl)<|zh ?_
   exact zga () (show True from by first|trivial|omega|simp_all) ((.e rfl (congrArg Value.bool (by simp;omega)) (.of rfl)):SubM _ _) (ho:=((.c (i:=0) rfl .n):PickO _ _ _)) ((.of [0,1] rfl):SelR _ _ _)
  ·
   refine e_mv rfl<|e_mv rfl<|e_p (zN yf rfl)<|e_p (zY rfl rfl)<|e_p (zo rfl rfl)<|zh ?_
   exact zga () (show True from by first|trivial|omega|simp_all) ((.e rfl (congrArg Value.bool (by simp;omega)) (.of rfl)):SubM _ _) (ho:=((.c (i:=0) rfl .n):PickO _ _ _)) ((.of [0,1] rfl):SelR _ _ _)
 ·
  rintro ⟨⟩ -
  try dsimp only
  refine zC rfl (fun hc=> ?_) (fun hc=> ?_)
  ·
   refine zA<|zd<|zg<|zB<|zg<|za<|e_mv rfl<|e_mv rfl<|zL rfl rfl (.c rfl (.c rfl .n)) ce143 (zWa (p:=p1) (n:=(yd a).length) (cap:=c1) (l:=yd a) (i:=i) (hn:=cbb) (hi:=cbb)) (.c (j:=0) rfl .n)<|e_mv rfl<|e_mv rfl<|zL rfl rfl (.c rfl (.c rfl .n)) ce143 (zWa (p:=p2) (n:=(yd b).length) (cap:=c2) (l:=yd b) (i:=i) (hn:=cbb) (hi:=cbb)) (.c (j:=1) rfl .n)<|e_p (zI (z:=((yd a).getD i 0+(yd b).getD i 0)) rfl rfl (wu64 om))<|e_mv rfl<|e_p (zI (z:=(((yd a).getD i 0+(yd b).getD i 0)+cy)) rfl rfl (wu64 om))<|e_p (zb rfl)<|zh<|zd<|zg<|za<|e_mv rfl<|e_mv rfl<|e_p (zwa (z:=((((yd a).getD i 0+(yd b).getD i 0)+cy)%1000000000)) rfl rfl om (remN om om))<|e_p (zK (z:=((((yd a).getD i 0+(yd b).getD i 0)+cy)%1000000000)) rfl (by rw [yi];rfl) yj (wu32 om))<|zFa rfl rfl (zV (enc:=fun z:Int=>[.int .u32 z]) (ok:=InK .u32) (h1:=fun _=>rfl) (h2:=fun _=>rfl) (k:=1) yf inf121 rfl dd dd dd (.c (x:=((((yd a).getD i 0+(yd b).getD i 0)+cy)%1000000000)) rfl rfl (fun _ _=>by exact zG.2 om) .n)) (fun b3 _=> ?_)
   refine zma 0 rfl .z<|zIa 1 rfl rfl rfl (zsa 0 rfl yf inf121 dd rfl rfl cbs rfl cbs om om) (fun _=>(.s .z)) ?_
   rintro ⟨p4,c5⟩ -
   dsimp only [aq,nq,cq]
   refine e_p (zb rfl)<|zh<|zd<|za<|e_mv rfl<|e_p (zhb (z:=((((yd a).getD i 0+(yd b).getD i 0)+cy) / 1000000000)) rfl rfl om (by rw [quoN (z:=((((yd a).getD i 0+(yd b).getD i 0)+cy) / 1000000000)) om om];exact wu64 om))<|e_p (zb rfl)<|zh<|zO<|zd<|za<|e_mv rfl<|e_p (zI (z:=(((i+1):Nat):Int)) rfl rfl (w64 om))<|e_p (zb rfl)<|zh<|zda ((i+1),p4,c5,os++[((yd a).getD i 0+(yd b).getD i 0+cy)%1000000000],((yd a).getD i 0+(yd b).getD i 0+cy) / 1000000000) (show (i+1)≤max (yd a).length (yd b).length∧(os++[((yd a).getD i 0+(yd b).getD i 0+cy)%1000000000]).length=(i+1)∧0≤(((yd a).getD i 0+(yd b).getD i 0+cy) / 1000000000)∧(((yd a).getD i 0+(yd b).getD i 0+cy) / 1000000000)≤1∧yr (os++[((yd a).getD i 0+(yd b).getD i 0+cy)%1000000000])∧yh (os++[((yd a).getD i 0+(yd b).getD i 0+cy)%1000000000])+yC (i+1)*(((yd a).getD i 0+(yd b).getD i 0+cy) / 1000000000)=yh ((yd a).take (i+1))+yh ((yd b).take (i+1)) from by exact ⟨by omega,by simp [hol],by omega,by omega,Big.okL_snoc hok om om,Big.plus_step hol hv om⟩) (by show max (yd a).length (yd b).length - (i+1)<max (yd a).length (yd b).length - i;omega) ((.e rfl (by first|rfl|(congr 1;omega)|simp_all) (.e rfl (by simp) (.of rfl))):SubM _ _) (ho:=((.e (i:=1) rfl (by first|rfl|(congr 1;omega)|simp_all) .n):PickO _ _ _)) ((.of [1,2] rfl):SelR _ _ _)
  ·
   have hok2:=Big.okL_snoc hok hc0 (show cy<1000000000 by omega)
   have hfin:=Big.plus_end (a:=a) (b:=b) hol om om hv
   refine zja<|zj<|zj<|zt<|zd<|zg<|za<|e_mv rfl<|e_mv rfl<|e_p (zK (z:=cy) rfl (by rw [yi];rfl) yj (wu32 om))<|zFa rfl rfl (zV (enc:=fun z:Int=>[.int .u32 z]) (ok:=InK .u32) (h1:=fun _=>rfl) (h2:=fun _=>rfl) (k:=1) yf inf121 rfl dd dd dd (.c (x:=cy) rfl rfl (fun _ _=>by exact zG.2 om) .n)) (fun b6 _=> ?_)
   refine zma 0 rfl .z<|zIa 1 rfl rfl rfl (zsa 0 rfl yf inf121 dd rfl rfl cbs rfl cbs om om) (fun _=>(.s .z)) ?_
   rintro ⟨p7,c8⟩ -
   dsimp only [aq,nq,cq]
   refine zma 1 rfl (.s .z)<|zE rfl rfl (.c rfl (.c rfl .n)) ce112 (zKa (s:=false) (p:=p7) (n:=os.length+1) (cap:=c8) (l:=(os++([cy]))) (hn:=by first|rfl|omega|(simp;done)|(simp;omega)) (ho:=by exact hok2) (hln:=by first|rfl|omega|(simp;done)|(simp;omega))) (.c (j:=0) rfl .n) ?_
   rintro ⟨p29,c210⟩ -
   dsimp only [aq,nq,cq]
   refine e_p (zBa yg rfl ty39 rfl rfl)<|e_p (zb rfl)<|zh<|zd<|zH ?_
   exact zy Tryz.results128 (p29,c210) trivial (zl rfl) (by rw [hfin]) (ho:=(.n:PickO _ _ _)) ((.e (j:=0) rfl (by rw [hfin]) .n):SelR _ _ _)
theorem zWb {a:Nat} {b:Nat} {p1:Option Addr} {c1:Nat} {p2:Option Addr} {c2:Nat} (hb1:(yd a).length≤1099511627776) (hb2:(yd b).length≤1099511627776) (hab:b≤a):Con ym 130 [.slice p1 ((yd a).length) c1,.slice p2 ((yd b).length) c2] [] [slF (rI .u32) p1 c1 (yd a),slF (rI .u32) p2 c2 (yd b)] (Y:=(Option Addr)×Nat) (fun y=>True) (fun y=> .slice (y.1) ((yd (a - b)).length) (y.2)) (fun y=>[]) (fun y=>[slF (rI .u32) (y.1) (y.2) (yd (a - b))]):=by
 refine zm Tryz.func130 rfl rfl rfl (fun c=> ?_)
 show RunC _ _ _ _ _ [(0,.slice p1 ((yd a).length) c1),(1,.slice p2 ((yd b).length) c2)] [] [slF (rI .u32) p1 c1 (yd a),slF (rI .u32) p2 c2 (yd b)]
 refine zba 0 rfl (fun hL0=> ?_)
 refine zba 1 rfl (fun hL1=> ?_)
 refine zg<|za<|e_p (zb rfl)<|zh<|zd<|zg<|za<|zFa rfl rfl (zva (rI .u32) yf inf121) (fun b1 _=> ?_)
 refine e_p (zb rfl)<|zh<|zd<|zg<|za<|e_p (zb rfl)<|zh<|zd<|zg<|zg<|za<|e_p (zb rfl)<|zh<|zd<|zB<|zka (X:=Nat×(Option Addr)×Nat×(List Int)×Int) (fun x:Nat×(Option Addr)×Nat×(List Int)×Int=>x.1≤(yd a).length∧x.2.2.2.1.length=x.1∧0≤x.2.2.2.2∧x.2.2.2.2≤1∧yr x.2.2.2.1∧yh x.2.2.2.1+yh ((yd b).take x.1)=yh ((yd a).take x.1)+yC x.1*x.2.2.2.2) (fun x=>[(6,.int .u64 (x.2.2.2.2)),(5,.slice (x.2.1) (x.2.2.2.1.length) (x.2.2.1)),(7,ya yb ((x.1:Nat):Int)),(4,.slice none 0 0),(0,.slice p1 ((yd a).length) c1),(1,.slice p2 ((yd b).length) c2)]) (fun x=>[rowA 121 (rI .u32) (x.2.1) (x.2.2.1) (x.2.2.2.1)]) (fun x=>[slF (rI .u32) p1 c1 (yd a),slF (rI .u32) p2 c2 (yd b)]) (fun x:Nat×(Option Addr)×Nat×(List Int)×Int=>(yd a).length - x.1) (0,some ⟨b1,0,none⟩,0,[],0) (show 0≤(yd a).length∧([]).length=0∧0≤0∧0≤1∧yr ([])∧yh ([])+yh ((yd b).take 0)=yh ((yd a).take 0)+yC 0*0 from by exact ⟨by omega,rfl,by decide,by decide,Big.okL_nil,by simp [yh]⟩) ((.c rfl (.e rfl (by first|rfl|(congr 1;omega)|simp_all) (.e rfl (by first|rfl|(congr 1;omega)|simp_all) (.of rfl)))):SubM _ _) (ho:=((.c (i:=0) rfl .n):PickO _ _ _)) ((.of [0,1] rfl):SelR _ _ _) ?_
 rintro ⟨i,p,c,os,bo⟩ hI
 replace hI:i≤(yd a).length∧os.length=i∧0≤bo∧bo≤1∧yr os∧yh os+yh ((yd b).take i)=yh ((yd a).take i)+yC i*bo:=hI
 try dsimp only
 obtain ⟨hi,hol,hc0,hc1,hok,hv⟩:=hI
 have hg1:=yo (yn a) i
 have hg2:=yo (yn b) i
 refine zg<|zg<|za<|e_mv rfl<|e_mv rfl<|e_p (zN yf rfl)<|e_p (zY rfl rfl)<|zh<|zd<|zC rfl (fun h2=> ?_) (fun h2=> ?_)
 ·
  refine zA<|zd<|zg<|zB<|zg<|za<|e_mv rfl<|e_mv rfl<|zL rfl rfl (.c rfl (.c rfl .n)) ce143 (zWa (p:=p1) (n:=(yd a).length) (cap:=c1) (l:=yd a) (i:=i) (hn:=cbb) (hi:=cbb)) (.c (j:=0) rfl .n)<|e_p (zI (z:=(1000000000+(yd a).getD i 0)) rfl rfl (wu64 om))<|e_mv rfl<|e_mv rfl<|zL rfl rfl (.c rfl (.c rfl .n)) ce143 (zWa (p:=p2) (n:=(yd b).length) (cap:=c2) (l:=yd b) (i:=i) (hn:=cbb) (hi:=cbb)) (.c (j:=1) rfl .n)<|e_p (zla (z:=((1000000000+(yd a).getD i 0) - (yd b).getD i 0)) rfl rfl (wu64 om))<|e_mv rfl<|e_p (zla (z:=(((1000000000+(yd a).getD i 0) - (yd b).getD i 0) - bo)) rfl rfl (wu64 om))<|e_p (zb rfl)<|zh<|zd<|zg<|za<|e_mv rfl<|e_mv rfl<|e_p (zwa (z:=((((1000000000+(yd a).getD i 0) - (yd b).getD i 0) - bo)%1000000000)) rfl rfl om (remN om om))<|e_p (zK (z:=((((1000000000+(yd a).getD i 0) - (yd b).getD i 0) - bo)%1000000000)) rfl (by rw [yi];rfl) yj (wu32 om))<|zFa rfl rfl (zV (enc:=fun z:Int=>[.int .u32 z]) (ok:=InK .u32) (h1:=fun _=>rfl) (h2:=fun _=>rfl) (k:=1) yf inf121 rfl dd dd dd (.c (x:=((((1000000000+(yd a).getD i 0) - (yd b).getD i 0) - bo)%1000000000)) rfl rfl (fun _ _=>by exact zG.2 om) .n)) (fun b3 _=> ?_)
  refine zma 0 rfl .z<|zIa 1 rfl rfl rfl (zsa 0 rfl yf inf121 dd rfl rfl cbs rfl cbs om om) (fun _=>(.s .z)) ?_
  rintro ⟨p4,c5⟩ -
  dsimp only [aq,nq,cq]
  refine e_p (zb rfl)<|zh<|zd<|za<|e_mv rfl<|e_p (zhb (z:=((((1000000000+(yd a).getD i 0) - (yd b).getD i 0) - bo) / 1000000000)) rfl rfl om (by rw [quoN (z:=((((1000000000+(yd a).getD i 0) - (yd b).getD i 0) - bo) / 1000000000)) om om];exact wu64 om))<|e_p (zla (z:=(1 - ((((1000000000+(yd a).getD i 0) - (yd b).getD i 0) - bo) / 1000000000))) rfl rfl (wu64 om))<|e_p (zb rfl)<|zh<|zO<|zd<|za<|e_mv rfl<|e_p (zI (z:=(((i+1):Nat):Int)) rfl rfl (w64 om))<|e_p (zb rfl)<|zh<|zda ((i+1),p4,c5,os++[(1000000000+(yd a).getD i 0 - (yd b).getD i 0 - bo)%1000000000],1 - (1000000000+(yd a).getD i 0 - (yd b).getD i 0 - bo) / 1000000000) (show (i+1)≤(yd a).length∧(os++[(1000000000+(yd a).getD i 0 - (yd b).getD i 0 - bo)%1000000000]).length=(i+1)∧0≤(1 - (1000000000+(yd a).getD i 0 - (yd b).getD i 0 - bo) / 1000000000)∧(1 - (1000000000+(yd a).getD i 0 - (yd b).getD i 0 - bo) / 1000000000)≤1∧yr (os++[(1000000000+(yd a).getD i 0 - (yd b).getD i 0 - bo)%1000000000])∧yh (os++[(1000000000+(yd a).getD i 0 - (yd b).getD i 0 - bo)%1000000000])+yh ((yd b).take (i+1))=yh ((yd a).take (i+1))+yC (i+1)*(1 - (1000000000+(yd a).getD i 0 - (yd b).getD i 0 - bo) / 1000000000) from by exact ⟨by omega,by simp [hol],by omega,by omega,Big.okL_snoc hok om om,Big.minus_step hol hv om⟩) (by show (yd a).length - (i+1)<(yd a).length - i;omega) ((.e rfl (by first|rfl|(congr 1;omega)|simp_all) (.e rfl (by simp) (.of rfl))):SubM _ _) (ho:=((.e (i:=1) rfl (by first|rfl|(congr 1;omega)|simp_all) .n):PickO _ _ _)) ((.of [1,2] rfl):SelR _ _ _)
 ·
  have htr:yz os=yd (a - b):=Big.minus_fin hab hok hc0 hol om hv
  have hfin:(yt false (yh os)).natAbs=a - b:=by rw [yG (yx hok)];have:=congrArg yh htr;rw [Big.valL_trim,yw] at this;omega
  refine zja<|zj<|zj<|zt<|zd<|zg<|za<|e_mv rfl<|zma 0 rfl .z<|zE rfl rfl (.c rfl (.c rfl .n)) ce112 (zKa (s:=false) (p:=p) (n:=os.length) (cap:=c) (l:=os) (hn:=by first|rfl|omega|(simp;done)|(simp;omega)) (ho:=by exact hok) (hln:=by first|rfl|omega|(simp;done)|(simp;omega))) (.c (j:=0) rfl .n) ?_
  rintro ⟨p26,c27⟩ -
  dsimp only [aq,nq,cq]
  refine e_p (zBa yg rfl ty39 rfl rfl)<|e_p (zb rfl)<|zh<|zd<|zH ?_
  exact zy Tryz.results130 (p26,c27) trivial (zl rfl) (by rw [hfin]) (ho:=(.n:PickO _ _ _)) ((.e (j:=0) rfl (by rw [hfin]) .n):SelR _ _ _)
theorem zcd {a:Nat} {b:Nat} {p1:Option Addr} {c1:Nat} {p2:Option Addr} {c2:Nat}:Con ym 129 [.slice p1 ((yd a).length) c1,.slice p2 ((yd b).length) c2] [] [slF (rI .u32) p1 c1 (yd a),slF (rI .u32) p2 c2 (yd b)] (Y:=Unit) (fun y=>True) (fun y=> ya yb (Big.cmp (a:Int) (b:Int))) (fun y=>[]) (fun y=>[]):=by
 refine zm Tryz.func129 rfl rfl rfl (fun c=> ?_)
 show RunC _ _ _ _ _ [(0,.slice p1 ((yd a).length) c1),(1,.slice p2 ((yd b).length) c2)] [] [slF (rI .u32) p1 c1 (yd a),slF (rI .u32) p2 c2 (yd b)]
 refine zba 0 rfl (fun hL0=> ?_)
 refine zba 1 rfl (fun hL1=> ?_)
 refine zg<|za<|e_p (zb rfl)<|zh<|zd<|zg<|zg<|za<|e_mv rfl<|e_p (zN yf rfl)<|e_mv rfl<|e_p (zN yf rfl)<|e_p (zMa rfl rfl)<|zh<|zd<|zC rfl (fun hlen=> ?_) (fun hlen=> ?_)
 ·
  refine zg<|zg<|za<|e_mv rfl<|e_p (zN yf rfl)<|e_mv rfl<|e_p (zN yf rfl)<|e_p (zY rfl rfl)<|zh<|zd<|zC rfl (fun hll=> ?_) (fun hll=> ?_)
  ·
   refine zg<|za<|e_p (zb rfl)<|zh<|zd<|zH<|zi<|zi ?_
   exact zy yy () trivial (zl rfl) (by rw [← Big.cmp_len om,Big.cmp_lt om]) (ho:=(.n:PickO _ _ _)) (.n:SelR _ _ _)
  ·
   refine zA<|zd<|zg<|za<|e_p (zb rfl)<|zh<|zd<|zH<|zi ?_
   exact zy yy () trivial (zl rfl) (by rw [← Big.cmp_len om,Big.cmp_gt om]) (ho:=(.n:PickO _ _ _)) (.n:SelR _ _ _)
 ·
  replace hlen:(yd a).length=(yd b).length:=by omega
  refine zA<|zd<|zg<|zg<|za<|e_mv rfl<|e_p (zN yf rfl)<|e_p (zla (z:=((((yd a).length:Nat):Int) - 1)) rfl rfl (w64 om))<|e_p (zb rfl)<|zh<|zd<|zB<|zka (X:=Nat) (fun x:Nat=>x≤(yd a).length∧(yd a).drop x=(yd b).drop x) (fun x=>[(5,ya yb (((x:Nat):Int) - 1)),(0,.slice p1 ((yd a).length) c1),(1,.slice p2 ((yd b).length) c2)]) (fun x=>[]) (fun x=>[slF (rI .u32) p1 c1 (yd a),slF (rI .u32) p2 c2 (yd b)]) (fun x:Nat=>x) ((yd a).length) (show ((yd a).length)≤(yd a).length∧(yd a).drop ((yd a).length)=(yd b).drop ((yd a).length) from by exact ⟨Nat.le_refl _,by rw [List.drop_length,hlen,List.drop_length]⟩) ((.e rfl (by first|rfl|(congr 1;omega)|simp_all) (.c rfl (.c rfl .n))):SubM _ _) (ho:=(.n:PickO _ _ _)) ((.of [0,1] rfl):SelR _ _ _) ?_
  rintro j hI
  replace hI:j≤(yd a).length∧(yd a).drop j=(yd b).drop j:=hI
  try dsimp only
  obtain ⟨hj,hd⟩:=hI
  refine zg<|zg<|za<|e_mv rfl<|e_p (zJa rfl rfl)<|zh<|zd<|zC rfl (fun h1=> ?_) (fun h1=> ?_)
  ·
   obtain ⟨k,rfl⟩:∃k,j=k+1:=⟨j - 1,by omega⟩
   have e2:(((((k+1):Nat):Int) - 1):Int)=((k:Nat):Int):=by omega
   rw [e2]
   refine zA<|zd<|zg<|zB<|zg<|zg<|zW (OW:=[]) (O:=[]) 100000 mixed (.then (.then (.block (.then (.then (.block (.then .ret))))))) kr<|e_dm 0 rfl rfl rfl<|e_dm 1 rfl rfl rfl<|zZ (x0:=((yd a).getD k 0)) 2 rfl rfl kr kr 0 k rfl yf sz121 rfl rfl rfl cbs rfl rfl (gD (d:=0) om) (fun b3 o4 hok5=> ?_)
   replace hok5:=zG.1 hok5
   refine e_u 3 rfl rfl (zx (j:=0) 0 ty121 rfl rfl rfl rfl)<|e_dm 4 rfl rfl rfl<|e_dm 5 rfl rfl rfl<|zZ (x0:=((yd b).getD k 0)) 6 rfl rfl kr kr 2 k rfl yf sz121 rfl rfl rfl cbs rfl rfl (gD (d:=0) om) (fun b6 o7 hok8=> ?_)
   replace hok8:=zG.1 hok8
   refine e_u 7 rfl rfl (zx (j:=0) 0 ty121 rfl rfl rfl rfl)<|e_pv 8 rfl rfl (zY rfl rfl)<|zT kr<|zd<|zC rfl (fun hlt=> ?_) (fun hlt=> ?_)
   ·
    refine zg<|za<|e_p (zb rfl)<|zh<|zd<|zH<|zi<|zp<|zi<|zi<|zp<|zi ?_
    exact zy yy () trivial (zl rfl) (by rw [← Big.cmp_at hlen om hd om,Big.cmp_lt om]) (ho:=(.n:PickO _ _ _)) (.n:SelR _ _ _)
   ·
    refine zA<|zd<|zg<|zW (OW:=[]) (O:=[]) 100000 mixed (.then (.block (.then (.then (.block (.then .ret)))))) kr<|e_dm 0 rfl rfl rfl<|e_dm 1 rfl rfl rfl<|zZ (x0:=((yd a).getD k 0)) 2 rfl rfl kr kr 2 k rfl yf sz121 rfl rfl rfl cbs rfl rfl (gD (d:=0) om) (fun b9 o10 hok11=> ?_)
    replace hok11:=zG.1 hok11
    refine e_u 3 rfl rfl (zx (j:=0) 0 ty121 rfl rfl rfl rfl)<|e_dm 4 rfl rfl rfl<|e_dm 5 rfl rfl rfl<|zZ (x0:=((yd b).getD k 0)) 6 rfl rfl kr kr 4 k rfl yf sz121 rfl rfl rfl cbs rfl rfl (gD (d:=0) om) (fun b12 o13 hok14=> ?_)
    replace hok14:=zG.1 hok14
    refine e_u 7 rfl rfl (zx (j:=0) 0 ty121 rfl rfl rfl rfl)<|e_pv 8 rfl rfl (zAa rfl rfl)<|zT kr<|zd<|zC rfl (fun hgt=> ?_) (fun hgt=> ?_)
    ·
     refine zg<|za<|e_p (zb rfl)<|zh<|zd<|zH<|zp<|zi<|zi<|zp<|zi ?_
     exact zy yy () trivial (zl rfl) (by rw [← Big.cmp_at hlen om hd om,Big.cmp_gt om]) (ho:=(.n:PickO _ _ _)) (.n:SelR _ _ _)
    ·
     refine zA<|zO<|zd<|za<|e_mv rfl<|e_p (zla (z:=(((k:Nat):Int) - 1)) rfl rfl (w64 om))<|e_p (zb rfl)<|zh<|zda k (show k≤(yd a).length∧(yd a).drop k=(yd b).drop k from by exact ⟨by omega,Big.drop_more om om hd om⟩) (by show k<k+1;omega) ((.of rfl):SubM _ _) (ho:=(.n:PickO _ _ _)) ((.of [4,5] rfl):SelR _ _ _)
  ·
   refine zja<|zj<|zj<|zt<|zd<|zg<|za<|e_p (zb rfl)<|zh<|zd<|zH ?_
   have hj0:j=0:=by omega
   subst hj0
   have heq:=Big.cmp_eq (show yd a=yd b by simpa using hd)
   exact zy yy () trivial (zl rfl) (by rw [heq] <;> simp [Big.cmp]) (ho:=(.n:PickO _ _ _)) (.n:SelR _ _ _)
theorem zGe {s:Bool} {p:Option Addr} {n:Nat} {cap:Nat} {l:List Int} (hn:l.length=n) (hln:n≤1099511627776):Con ym 106 [.agg #[.bool s,.slice p n cap]] [] [slF (rI .u32) p cap l] (Y:=(Option Addr)×Nat) (fun y=>True) (fun y=> .agg #[.bool (decide ((- ye s l)<0)),.slice (y.1) ((yd ((- ye s l).natAbs)).length) (y.2)]) (fun y=>[]) (fun y=>[slF (rI .u32) (y.1) (y.2) (yd ((- ye s l).natAbs))]):=by
 refine zm Tryz.func106 rfl rfl rfl (fun c=> ?_)
 show RunC _ _ _ _ _ [(0,.agg #[.bool s,.slice p n cap])] [] [slF (rI .u32) p cap l]
 refine zba 0 rfl (fun hL0=> ?_)
 refine zSa 0 rfl (fun hE0=> ?_)
 have hnn:yF l:=fun g hg=>(zG.1 (hE0 g hg)).1
 have hb:yl (ye s l)≤n:=by have:=yD (s:=s) hnn;omega
 unfold yl at hb
 refine zg<|za<|zM rfl rfl (zR rfl rfl) (fun b1=> ?_)
 refine zM rfl rfl (zn zr41 rfl) (fun b2=> ?_)
 refine zh<|zd<|zg<|za<|e_ru (zc 1 ty41 rfl rfl (.t2 .nil))<|zE rfl rfl (.c rfl .n) ce111 (zPa (s:=s) (p:=p) (n:=n) (cap:=cap) (l:=l) (hn:=ass) (hln:=ass)) (.c (j:=0) rfl .n) ?_
 rintro ⟨p23,c24⟩ -
 dsimp only [aq,nq,cq]
 refine zk 1 rfl rfl rfl rfl rfl sz41 rfl (.t2 .nil) (.s .z)<|zh<|zd<|zg<|za<|e_p (ze yg rfl sz4 rfl rfl)<|e_ru (zf 1 ty4 rfl rfl rfl)<|e_p (ztb rfl)<|e_p (ze yg rfl sz39 rfl rfl)<|e_ru (zf 1 ty39 rfl rfl rfl)<|zE rfl rfl (.c rfl (.c rfl .n)) ce112 (znb (s:= !(decide ((ye s l)<0))) (a:=(ye s l).natAbs) (p:=p23) (cap:=c24) (hln:=cbb)) (.c (j:=0) rfl .n) ?_
 rintro ⟨p25,c26⟩ -
 dsimp only [aq,nq,cq]
 refine zk 0 rfl rfl rfl rfl rfl sz41 rfl (.t2 .nil) .z<|zh<|zd<|zH ?_
 have hz:yt (!decide (ye s l<0)) ((ye s l).natAbs:Int)= - ye s l:=by rw [Big.sg_not,Big.sg_big]
 exact zy Tryz.results106 (p25,c26) trivial (zu 0 ty41 rfl rfl (.t2 .nil)) (by rw [hz]) (ho:=(.n:PickO _ _ _)) ((.e (j:=0) rfl (by rw [hz]) .n):SelR _ _ _)
theorem zLf {z:Int} {p:Option Addr} {cap:Nat} (hln:yl z≤1099511627776):Con ym 106 [.agg #[.bool (decide ((z)<0)),.slice (p) ((yd ((z).natAbs)).length) (cap)]] [] [slF (rI .u32) (p) (cap) (yd ((z).natAbs))] (Y:=(Option Addr)×(Nat)) (fun y=>True) (fun y=> .agg #[.bool (decide ((- z)<0)),.slice (y.1) ((yd ((- z).natAbs)).length) (y.2)]) (fun y=>[]) (fun y=>[slF (rI .u32) (y.1) (y.2) (yd ((- z).natAbs))]):=by
  have h:= @zGe (decide ((z)<0)) p (yd (z).natAbs).length cap (yd (z).natAbs) rfl hln
  rw [yq] at h
  exact h
theorem zUd {w1:Wd} {x1:Int} (hln:yl x1≤1099511627776):Con ym 106 [.agg #[w1.b,w1.l]] [] [zF w1 (x1)] (Y:=(Wd)) (fun y=>True) (fun y=> .agg #[y.b,y.l]) (fun y=>[]) (fun y=>[zF y (- x1)]):=by
  exact zYb (zOd (fun p c=>zLf hln))
theorem zVd {s:Bool} {p:Option Addr} {n:Nat} {cap:Nat} {l:List Int} (hn:l.length=n) (hln:n≤1099511627776):Con ym 105 [.agg #[.bool s,.slice p n cap]] [] [slF (rI .u32) p cap l] (Y:=Unit) (fun y=>True) (fun y=> ya yb ((ye s l).sign)) (fun y=>[]) (fun y=>[]):=by
 refine zm Tryz.func105 rfl rfl rfl (fun c=> ?_)
 show RunC _ _ _ _ _ [(0,.agg #[.bool s,.slice p n cap])] [] [slF (rI .u32) p cap l]
 refine zba 0 rfl (fun hL0=> ?_)
 refine zSa 0 rfl (fun hE0=> ?_)
 have hnn:yF l:=fun g hg=>(zG.1 (hE0 g hg)).1
 refine zg<|za<|zM rfl rfl (zR rfl rfl) (fun b1=> ?_)
 refine e_p (zb rfl)<|zh<|zd<|zg<|za<|e_ru (zc 0 ty41 rfl rfl (.t2 .nil))<|zE rfl rfl (.c rfl .n) ce111 (zPa (s:=s) (p:=p) (n:=n) (cap:=cap) (l:=l) (hn:=ass) (hln:=ass)) (.c (j:=0) rfl .n) ?_
 rintro ⟨p22,c23⟩ -
 dsimp only [aq,nq,cq]
 refine zk 0 rfl rfl rfl rfl rfl sz41 rfl (.t2 .nil) .z<|zh<|zd<|zg<|zg<|za<|e_p (ze yg rfl sz39 rfl rfl)<|e_ru (zf 0 ty39 rfl rfl rfl)<|e_p (zN yf rfl)<|e_p (zua rfl rfl)<|zh<|zd<|zC rfl (fun h0=> ?_) (fun h0=> ?_)
 ·
  refine zg<|za<|e_p (zb rfl)<|zh<|zd<|zH<|zi ?_
  exact zy Tryz.results105 () trivial (zl rfl) (by rw [show ye s l=0 by have:=yA.1 (show (yd (ye s l).natAbs).length=0 by omega);omega];rfl) (ho:=(.n:PickO _ _ _)) (.n:SelR _ _ _)
 ·
  refine zA<|zd<|zg<|zg<|za<|e_p (ze yg rfl sz4 rfl rfl)<|e_ru (zf 0 ty4 rfl rfl rfl)<|zh<|zd<|zob rfl (fun hs=> ?_) (fun hs=> ?_)
  ·
   refine zg<|za<|e_p (zb rfl)<|zh<|zd<|zH<|zi ?_
   exact zy Tryz.results105 () trivial (zl rfl) (by rw [Int.sign_eq_neg_one_of_neg (by simpa using hs)]) (ho:=(.n:PickO _ _ _)) (.n:SelR _ _ _)
  ·
   refine zA<|zd<|zg<|za<|e_p (zb rfl)<|zh<|zd<|zH ?_
   exact zy Tryz.results105 () trivial (zl rfl) (by rw [Int.sign_eq_one_of_pos (by have h2:¬ye s l<0:=(by simpa using hs);have:(ye s l).natAbs≠0:=(fun e=>h0 (by rw [e];rfl));omega)]) (ho:=(.n:PickO _ _ _)) (.n:SelR _ _ _)
theorem znd {z:Int} {p:Option Addr} {cap:Nat} (hln:yl z≤1099511627776):Con ym 105 [.agg #[.bool (decide ((z)<0)),.slice (p) ((yd ((z).natAbs)).length) (cap)]] [] [slF (rI .u32) (p) (cap) (yd ((z).natAbs))] (Y:=Unit) (fun y=>True) (fun y=> ya yb ((z).sign)) (fun y=>[]) (fun y=>[]):=by
  have h:= @zVd (decide ((z)<0)) p (yd (z).natAbs).length cap (yd (z).natAbs) rfl hln
  rw [yq] at h
  exact h
theorem zBc {w1:Wd} {x1:Int} (hln:yl x1≤1099511627776):Con ym 105 [.agg #[w1.b,w1.l]] [] [zF w1 (x1)] (Y:=Unit) (fun y=>True) (fun y=> ya yb ((x1).sign)) (fun y=>[]) (fun y=>[]):=by
  exact zOd (fun p c=>znd hln)
theorem zHe {s:Bool} {p1:Option Addr} {n1:Nat} {c1:Nat} {l1:List Int} {t:Bool} {p2:Option Addr} {n2:Nat} {c2:Nat} {l2:List Int} (hn1:l1.length=n1) (hn2:l2.length=n2) (hm1:n1≤1099511627776) (hm2:n2≤1099511627776):Con ym 108 [.agg #[.bool s,.slice p1 n1 c1],.agg #[.bool t,.slice p2 n2 c2]] [] [slF (rI .u32) p1 c1 l1,slF (rI .u32) p2 c2 l2] (Y:=(Option Addr)×Nat) (fun y=>True) (fun y=> .agg #[.bool (decide ((ye s l1+ye t l2)<0)),.slice (y.1) ((yd ((ye s l1+ye t l2).natAbs)).length) (y.2)]) (fun y=>[]) (fun y=>[slF (rI .u32) (y.1) (y.2) (yd ((ye s l1+ye t l2).natAbs))]):=by
 refine zm Tryz.func108 rfl rfl rfl (fun c=> ?_)
 show RunC _ _ _ _ _ [(0,.agg #[.bool s,.slice p1 n1 c1]),(1,.agg #[.bool t,.slice p2 n2 c2])] [] [slF (rI .u32) p1 c1 l1,slF (rI .u32) p2 c2 l2]
 refine zba 0 rfl (fun hL0=> ?_)
 refine zSa 0 rfl (fun hE0=> ?_)
 refine zba 1 rfl (fun hL1=> ?_)
 refine zSa 1 rfl (fun hE1=> ?_)
 have hnn1:yF l1:=fun g hg=>(zG.1 (hE0 g hg)).1
 have hnn2:yF l2:=fun g hg=>(zG.1 (hE1 g hg)).1
 have hb1:yl (ye s l1)≤n1:=by have:=yD (s:=s) hnn1;omega
 have hb2:yl (ye t l2)≤n2:=by have:=yD (s:=t) hnn2;omega
 unfold yl at hb1 hb2
 refine zg<|za<|zM rfl rfl (zR rfl rfl) (fun b1=> ?_)
 refine zM rfl rfl (zR rfl rfl) (fun b2=> ?_)
 refine zM rfl rfl (zn zr41 rfl) (fun b3=> ?_)
 refine zh<|zd<|zg<|zqa (.c (i:=2) rfl (.c (i:=1) rfl (.c (i:=0) rfl .n)))<|zW (OW:=[boxA b1 41 [.bool s,.slice p1 n1 c1],boxA b2 41 [.bool t,.slice p2 n2 c2]]) (O:=[boxA b3 41 [wz.b,wz.l]]) 4 mixed (.then .ret) kr<|e_uw 0 rfl rfl (zc 0 ty41 rfl rfl (.t2 .nil))<|e_uw 2 rfl rfl (zc 1 ty41 rfl rfl (.t2 .nil))<|e_one 1 (zw rfl rfl rfl rfl (.c rfl .n) ce111 (zPa (s:=s) (p:=p1) (n:=n1) (cap:=c1) (l:=l1) (hn:=ass) (hln:=ass)) (.c (j:=0) rfl .n) ?_)
 rintro ⟨p24,c25⟩ -
 dsimp only [aq,nq,cq]
 refine e_one 3 (zw rfl rfl rfl rfl (.c rfl .n) ce111 (zPa (s:=t) (p:=p2) (n:=n2) (cap:=c2) (l:=l2) (hn:=ass) (hln:=ass)) (.c (j:=2) rfl .n) ?_)
 rintro ⟨p26,c27⟩ -
 dsimp only [aq,nq,cq]
 refine e_one 4 (zv kr rfl rfl rfl rfl rfl sz41 rfl (.t2 .nil) ?_)
 refine zQa (zca (i:=1) rfl)<|e_one 5 (zv kr rfl rfl rfl rfl rfl sz41 rfl (.t2 .nil) ?_)
 refine zT kr<|zd<|zg<|zg<|za<|e_p (ze yg rfl sz4 rfl rfl)<|e_ru (zf 1 ty4 rfl rfl rfl)<|e_p (ze yg rfl sz4 rfl rfl)<|e_ru (zf 0 ty4 rfl rfl rfl)<|e_p (zZb yB rfl rfl)<|zh<|zd<|zC rfl (fun hst=> ?_) (fun hst=> ?_)
 ·
  refine zg<|zqa (.c (i:=2) rfl (.c (i:=0) rfl (.c (i:=0) rfl .n)))<|zW (OW:=[boxA b3 41 [wz.b,wz.l]]) (O:=[boxA b2 41 [.bool (decide ((ye t l2)<0)),.slice p26 ((yd ((ye t l2).natAbs)).length) c27],boxA b1 41 [.bool (decide ((ye s l1)<0)),.slice p24 ((yd ((ye s l1).natAbs)).length) c25]]) 8 mixed (.then (.then .ret)) kr<|e_pv 0 rfl rfl (ze yg rfl sz4 rfl rfl)<|e_uw 1 rfl rfl (zf 2 ty4 rfl rfl rfl)<|e_pv 2 rfl rfl (ze yg rfl sz39 rfl rfl)<|e_uw 3 rfl rfl (zf 2 ty39 rfl rfl rfl)<|e_pv 4 rfl rfl (ze yg rfl sz39 rfl rfl)<|e_uw 5 rfl rfl (zf 1 ty39 rfl rfl rfl)<|e_one 6 (zw rfl rfl rfl rfl (.c rfl (.c rfl .n)) ce128 (zKf (a:=(ye s l1).natAbs) (b:=(ye t l2).natAbs) (p1:=p24) (c1:=c25) (p2:=p26) (c2:=c27) (hb1:=by first|rfl|assumption|omega|(unfold yl;omega)|(simp;done)|(simp;omega)|(simp_all;done)) (hb2:=by first|rfl|assumption|omega|(unfold yl;omega)|(simp;done)|(simp;omega)|(simp_all;done))) (.c (j:=1) rfl (.c (j:=0) rfl .n)) ?_)
  rintro ⟨p38,c39⟩ -
  dsimp only [aq,nq,cq]
  refine e_one 7 (zw rfl rfl rfl rfl (.c rfl (.c rfl .n)) ce112 (znb (s:=decide ((ye s l1)<0)) (a:=((ye s l1).natAbs)+((ye t l2).natAbs)) (p:=p38) (cap:=c39) (hln:=by have:=Big.len_add (ye s l1).natAbs (ye t l2).natAbs;omega)) (.c (j:=0) rfl .n) ?_)
  rintro ⟨p210,c211⟩ -
  dsimp only [aq,nq,cq]
  refine e_one 8 (zv kr rfl rfl rfl rfl rfl sz41 rfl (.t2 .nil) ?_)
  refine zT kr<|zd<|zH<|zi ?_
  have hz:=Big.add_same hst
  exact zy Tryz.results108 (p210,c211) trivial (zu 0 ty41 rfl rfl (.t2 .nil)) (by rw [hz]) (ho:=(.n:PickO _ _ _)) ((.e (j:=0) rfl (by rw [hz]) .n):SelR _ _ _)
 ·
  refine zA<|zd<|zg<|zg<|za<|e_p (ze yg rfl sz39 rfl rfl)<|e_ru (zf 1 ty39 rfl rfl rfl)<|e_p (ze yg rfl sz39 rfl rfl)<|e_ru (zf 0 ty39 rfl rfl rfl)<|zL rfl rfl (.c rfl (.c rfl .n)) ce129 (zcd (a:=(ye s l1).natAbs) (b:=(ye t l2).natAbs) (p1:=p24) (c1:=c25) (p2:=p26) (c2:=c27)) (.c (j:=1) rfl (.c (j:=0) rfl .n))<|e_p (zJa rfl rfl)<|zh<|zd<|zC rfl (fun hcmp=> ?_) (fun hcmp=> ?_)
  ·
   have hab:(ye t l2).natAbs≤(ye s l1).natAbs:=by have:=yE.1 hcmp;omega
   refine zg<|zqa (.c (i:=2) rfl (.c (i:=0) rfl (.c (i:=0) rfl .n)))<|zW (OW:=[boxA b3 41 [wz.b,wz.l]]) (O:=[boxA b2 41 [.bool (decide ((ye t l2)<0)),.slice p26 ((yd ((ye t l2).natAbs)).length) c27],boxA b1 41 [.bool (decide ((ye s l1)<0)),.slice p24 ((yd ((ye s l1).natAbs)).length) c25]]) 8 mixed (.then (.then .ret)) kr<|e_pv 0 rfl rfl (ze yg rfl sz4 rfl rfl)<|e_uw 1 rfl rfl (zf 2 ty4 rfl rfl rfl)<|e_pv 2 rfl rfl (ze yg rfl sz39 rfl rfl)<|e_uw 3 rfl rfl (zf 2 ty39 rfl rfl rfl)<|e_pv 4 rfl rfl (ze yg rfl sz39 rfl rfl)<|e_uw 5 rfl rfl (zf 1 ty39 rfl rfl rfl)<|e_one 6 (zw rfl rfl rfl rfl (.c rfl (.c rfl .n)) ce130 (zWb (a:=(ye s l1).natAbs) (b:=(ye t l2).natAbs) (p1:=p24) (c1:=c25) (p2:=p26) (c2:=c27) (hb1:=by first|rfl|assumption|omega|(unfold yl;omega)|(simp;done)|(simp;omega)|(simp_all;done)) (hb2:=by first|rfl|assumption|omega|(unfold yl;omega)|(simp;done)|(simp;omega)|(simp_all;done)) (hab:=by first|rfl|assumption|omega|(unfold yl;omega)|(simp;done)|(simp;omega)|(simp_all;done))) (.c (j:=1) rfl (.c (j:=0) rfl .n)) ?_)
   rintro ⟨p312,c313⟩ -
   dsimp only [aq,nq,cq]
   refine e_one 7 (zw rfl rfl rfl rfl (.c rfl (.c rfl .n)) ce112 (znb (s:=decide ((ye s l1)<0)) (a:=((ye s l1).natAbs) - ((ye t l2).natAbs)) (p:=p312) (cap:=c313) (hln:=by have:=Big.len_sub (ye s l1).natAbs (ye t l2).natAbs;omega)) (.c (j:=0) rfl .n) ?_)
   rintro ⟨p214,c215⟩ -
   dsimp only [aq,nq,cq]
   refine e_one 8 (zv kr rfl rfl rfl rfl rfl sz41 rfl (.t2 .nil) ?_)
   refine zT kr<|zd<|zH<|zi ?_
   have hz:=Big.add_ge hst hab
   exact zy Tryz.results108 (p214,c215) trivial (zu 0 ty41 rfl rfl (.t2 .nil)) (by rw [hz]) (ho:=(.n:PickO _ _ _)) ((.e (j:=0) rfl (by rw [hz]) .n):SelR _ _ _)
  ·
   have hab:(ye s l1).natAbs≤(ye t l2).natAbs:=by have:¬((ye t l2).natAbs:Int)≤(ye s l1).natAbs:=fun h=>hcmp (yE.2 h);omega
   refine zA<|zd<|zg<|zqa (.c (i:=2) rfl (.c (i:=0) rfl (.c (i:=0) rfl .n)))<|zW (OW:=[boxA b3 41 [wz.b,wz.l]]) (O:=[boxA b2 41 [.bool (decide ((ye t l2)<0)),.slice p26 ((yd ((ye t l2).natAbs)).length) c27],boxA b1 41 [.bool (decide ((ye s l1)<0)),.slice p24 ((yd ((ye s l1).natAbs)).length) c25]]) 8 mixed (.then .ret) kr<|e_pv 0 rfl rfl (ze yg rfl sz4 rfl rfl)<|e_uw 1 rfl rfl (zf 1 ty4 rfl rfl rfl)<|e_pv 2 rfl rfl (ze yg rfl sz39 rfl rfl)<|e_uw 3 rfl rfl (zf 1 ty39 rfl rfl rfl)<|e_pv 4 rfl rfl (ze yg rfl sz39 rfl rfl)<|e_uw 5 rfl rfl (zf 2 ty39 rfl rfl rfl)<|e_one 6 (zw rfl rfl rfl rfl (.c rfl (.c rfl .n)) ce130 (zWb (a:=(ye t l2).natAbs) (b:=(ye s l1).natAbs) (p1:=p26) (c1:=c27) (p2:=p24) (c2:=c25) (hb1:=by first|rfl|assumption|omega|(unfold yl;omega)|(simp;done)|(simp;omega)|(simp_all;done)) (hb2:=by first|rfl|assumption|omega|(unfold yl;omega)|(simp;done)|(simp;omega)|(simp_all;done)) (hab:=by first|rfl|assumption|omega|(unfold yl;omega)|(simp;done)|(simp;omega)|(simp_all;done))) (.c (j:=0) rfl (.c (j:=1) rfl .n)) ?_)
   rintro ⟨p316,c317⟩ -
   dsimp only [aq,nq,cq]
   refine e_one 7 (zw rfl rfl rfl rfl (.c rfl (.c rfl .n)) ce112 (znb (s:=decide ((ye t l2)<0)) (a:=((ye t l2).natAbs) - ((ye s l1).natAbs)) (p:=p316) (cap:=c317) (hln:=by have:=Big.len_sub (ye t l2).natAbs (ye s l1).natAbs;omega)) (.c (j:=0) rfl .n) ?_)
   rintro ⟨p218,c219⟩ -
   dsimp only [aq,nq,cq]
   refine e_one 8 (zv kr rfl rfl rfl rfl rfl sz41 rfl (.t2 .nil) ?_)
   refine zT kr<|zd<|zH ?_
   have hz:=Big.add_lt hst hab
   exact zy Tryz.results108 (p218,c219) trivial (zu 0 ty41 rfl rfl (.t2 .nil)) (by rw [hz]) (ho:=(.n:PickO _ _ _)) ((.e (j:=0) rfl (by rw [hz]) .n):SelR _ _ _)
theorem zMf {x1:Int} {x2:Int} {p1:Option Addr} {c1:Nat} {p2:Option Addr} {c2:Nat} (hb1:yl x1≤1099511627776) (hb2:yl x2≤1099511627776):Con ym 108 [.agg #[.bool (decide ((x1)<0)),.slice (p1) ((yd ((x1).natAbs)).length) (c1)],.agg #[.bool (decide ((x2)<0)),.slice (p2) ((yd ((x2).natAbs)).length) (c2)]] [] [slF (rI .u32) (p1) (c1) (yd ((x1).natAbs)),slF (rI .u32) (p2) (c2) (yd ((x2).natAbs))] (Y:=(Option Addr)×(Nat)) (fun y=>True) (fun y=> .agg #[.bool (decide ((x1+x2)<0)),.slice (y.1) ((yd ((x1+x2).natAbs)).length) (y.2)]) (fun y=>[]) (fun y=>[slF (rI .u32) (y.1) (y.2) (yd ((x1+x2).natAbs))]):=by
  have h:= @zHe (decide ((x1)<0)) p1 (yd (x1).natAbs).length c1 (yd (x1).natAbs) (decide ((x2)<0)) p2 (yd (x2).natAbs).length c2 (yd (x2).natAbs) rfl rfl hb1 hb2
  rw [yq,yq] at h
  exact h
theorem zNf {w1:Wd} {w2:Wd} {x1:Int} {x2:Int} (hb1:yl x1≤1099511627776) (hb2:yl x2≤1099511627776):Con ym 108 [.agg #[w1.b,w1.l],.agg #[w2.b,w2.l]] [] [zF w1 (x1),zF w2 (x2)] (Y:=(Wd)) (fun y=>True) (fun y=> .agg #[y.b,y.l]) (fun y=>[]) (fun y=>[zF y (x1+x2)]):=by
  exact zYb (zIc (fun p1 c1 p2 c2=>zMf hb1 hb2))
theorem zIe {s:Bool} {p1:Option Addr} {n1:Nat} {c1:Nat} {l1:List Int} {t:Bool} {p2:Option Addr} {n2:Nat} {c2:Nat} {l2:List Int} (hn1:l1.length=n1) (hn2:l2.length=n2) (hm1:n1≤1099511627776) (hm2:n2≤1099511627776):Con ym 133 [.agg #[.bool s,.slice p1 n1 c1],.agg #[.bool t,.slice p2 n2 c2]] [] [slF (rI .u32) p1 c1 l1,slF (rI .u32) p2 c2 l2] (Y:=(Option Addr)×Nat) (fun y=>True) (fun y=> .agg #[.bool (decide ((ye s l1 - ye t l2)<0)),.slice (y.1) ((yd ((ye s l1 - ye t l2).natAbs)).length) (y.2)]) (fun y=>[]) (fun y=>[slF (rI .u32) (y.1) (y.2) (yd ((ye s l1 - ye t l2).natAbs))]):=by
 refine zm Tryz.func133 rfl rfl rfl (fun c=> ?_)
 show RunC _ _ _ _ _ [(0,.agg #[.bool s,.slice p1 n1 c1]),(1,.agg #[.bool t,.slice p2 n2 c2])] [] [slF (rI .u32) p1 c1 l1,slF (rI .u32) p2 c2 l2]
 refine zba 0 rfl (fun hL0=> ?_)
 refine zSa 0 rfl (fun hE0=> ?_)
 refine zba 1 rfl (fun hL1=> ?_)
 refine zSa 1 rfl (fun hE1=> ?_)
 have hnn1:yF l1:=fun g hg=>(zG.1 (hE0 g hg)).1
 have hnn2:yF l2:=fun g hg=>(zG.1 (hE1 g hg)).1
 have hb1:yl (ye s l1)≤n1:=by have:=yD (s:=s) hnn1;omega
 have hb2:yl (ye t l2)≤n2:=by have:=yD (s:=t) hnn2;omega
 unfold yl at hb1 hb2
 refine zg<|za<|zM rfl rfl (zR rfl rfl) (fun b1=> ?_)
 refine zM rfl rfl (zR rfl rfl) (fun b2=> ?_)
 refine zM rfl rfl (zn zr41 rfl) (fun b3=> ?_)
 refine zh<|zd<|zg<|zW (OW:=[boxA b3 41 [wz.b,wz.l]]) (O:=[boxA b2 41 [.bool t,.slice p2 n2 c2],boxA b1 41 [.bool s,.slice p1 n1 c1]]) 4 mixed (.then .ret) kr<|e_uw 0 rfl rfl (zc 2 ty41 rfl rfl (.t2 .nil))<|e_uw 1 rfl rfl (zc 1 ty41 rfl rfl (.t2 .nil))<|e_one 2 (zw rfl rfl rfl rfl (.c rfl .n) ce106 (zGe (s:=t) (p:=p2) (n:=n2) (cap:=c2) (l:=l2) (hn:=ass) (hln:=ass)) (.c (j:=1) rfl .n) ?_)
 rintro ⟨p24,c25⟩ -
 dsimp only [aq,nq,cq]
 refine e_one 3 (zw rfl rfl rfl rfl (.c rfl (.c rfl .n)) ce108 (zHe (s:=s) (p1:=p1) (n1:=n1) (c1:=c1) (l1:=l1) (t:=decide ((- ye t l2)<0)) (p2:=p24) (n2:=(yd ((- ye t l2).natAbs)).length) (c2:=c25) (l2:=yd ((- ye t l2).natAbs)) (hn1:=ass) (hn2:=by first|rfl|assumption|omega|(rw [Int.natAbs_neg];omega)) (hm1:=ass) (hm2:=by first|rfl|assumption|omega|(rw [Int.natAbs_neg];omega))) (.c (j:=1) rfl (.c (j:=0) rfl .n)) ?_)
 rintro ⟨p36,c37⟩ -
 dsimp only [aq,nq,cq]
 refine e_one 4 (zv kr rfl rfl rfl rfl rfl sz41 rfl (.t2 .nil) ?_)
 refine zT kr<|zd<|zH ?_
 have hz:ye s l1+ye (decide ((- ye t l2)<0)) (yd (- ye t l2).natAbs)=ye s l1 - ye t l2:=by rw [yq];omega
 exact zy Tryz.results133 (p36,c37) trivial (zu 0 ty41 rfl rfl (.t2 .nil)) (by rw [hz]) (ho:=(.n:PickO _ _ _)) ((.e (j:=0) rfl (by rw [hz]) .n):SelR _ _ _)
theorem ztc {x1:Int} {x2:Int} {p1:Option Addr} {c1:Nat} {p2:Option Addr} {c2:Nat} (hb1:yl x1≤1099511627776) (hb2:yl x2≤1099511627776):Con ym 133 [.agg #[.bool (decide ((x1)<0)),.slice (p1) ((yd ((x1).natAbs)).length) (c1)],.agg #[.bool (decide ((x2)<0)),.slice (p2) ((yd ((x2).natAbs)).length) (c2)]] [] [slF (rI .u32) (p1) (c1) (yd ((x1).natAbs)),slF (rI .u32) (p2) (c2) (yd ((x2).natAbs))] (Y:=(Option Addr)×(Nat)) (fun y=>True) (fun y=> .agg #[.bool (decide ((x1 - x2)<0)),.slice (y.1) ((yd ((x1 - x2).natAbs)).length) (y.2)]) (fun y=>[]) (fun y=>[slF (rI .u32) (y.1) (y.2) (yd ((x1 - x2).natAbs))]):=by
  have h:= @zIe (decide ((x1)<0)) p1 (yd (x1).natAbs).length c1 (yd (x1).natAbs) (decide ((x2)<0)) p2 (yd (x2).natAbs).length c2 (yd (x2).natAbs) rfl rfl hb1 hb2
  rw [yq,yq] at h
  exact h
theorem zmg {s:Bool} {p1:Option Addr} {n1:Nat} {c1:Nat} {l1:List Int} {t:Bool} {p2:Option Addr} {n2:Nat} {c2:Nat} {l2:List Int} (hn1:l1.length=n1) (hn2:l2.length=n2) (hm1:n1≤1099511627776) (hm2:n2≤1099511627776):Con ym 73 [.agg #[.bool s,.slice p1 n1 c1],.agg #[.bool t,.slice p2 n2 c2]] [] [slF (rI .u32) p1 c1 l1,slF (rI .u32) p2 c2 l2] (Y:=(Option Addr)×Nat) (fun y=>True) (fun y=> .agg #[.bool (decide ((ye s l1*ye t l2)<0)),.slice (y.1) ((yd ((ye s l1*ye t l2).natAbs)).length) (y.2)]) (fun y=>[]) (fun y=>[slF (rI .u32) (y.1) (y.2) (yd ((ye s l1*ye t l2).natAbs))]):=by
 refine zm Tryz.func73 rfl rfl rfl (fun c=> ?_)
 show RunC _ _ _ _ _ [(0,.agg #[.bool s,.slice p1 n1 c1]),(1,.agg #[.bool t,.slice p2 n2 c2])] [] [slF (rI .u32) p1 c1 l1,slF (rI .u32) p2 c2 l2]
 refine zba 0 rfl (fun hL0=> ?_)
 refine zSa 0 rfl (fun hE0=> ?_)
 refine zba 1 rfl (fun hL1=> ?_)
 refine zSa 1 rfl (fun hE1=> ?_)
 have hnn1:yF l1:=fun g hg=>(zG.1 (hE0 g hg)).1
 have hnn2:yF l2:=fun g hg=>(zG.1 (hE1 g hg)).1
 have hb1:yl (ye s l1)≤n1:=by have:=yD (s:=s) hnn1;omega
 have hb2:yl (ye t l2)≤n2:=by have:=yD (s:=t) hnn2;omega
 unfold yl at hb1 hb2
 have hoa:=yn (ye s l1).natAbs
 have hob:=yn (ye t l2).natAbs
 refine zg<|za<|zM rfl rfl (zR rfl rfl) (fun b1=> ?_)
 refine zM rfl rfl (zR rfl rfl) (fun b2=> ?_)
 refine zM rfl rfl (zn zr41 rfl) (fun b3=> ?_)
 refine zh<|zd<|zg<|zqa (.c (i:=2) rfl (.c (i:=1) rfl (.c (i:=0) rfl .n)))<|zW (OW:=[boxA b1 41 [.bool s,.slice p1 n1 c1],boxA b2 41 [.bool t,.slice p2 n2 c2]]) (O:=[boxA b3 41 [wz.b,wz.l]]) 4 mixed (.then .ret) kr<|e_uw 0 rfl rfl (zc 0 ty41 rfl rfl (.t2 .nil))<|e_uw 2 rfl rfl (zc 1 ty41 rfl rfl (.t2 .nil))<|e_one 1 (zw rfl rfl rfl rfl (.c rfl .n) ce111 (zPa (s:=s) (p:=p1) (n:=n1) (cap:=c1) (l:=l1) (hn:=ass) (hln:=ass)) (.c (j:=0) rfl .n) ?_)
 rintro ⟨p24,c25⟩ -
 dsimp only [aq,nq,cq]
 refine e_one 3 (zw rfl rfl rfl rfl (.c rfl .n) ce111 (zPa (s:=t) (p:=p2) (n:=n2) (cap:=c2) (l:=l2) (hn:=ass) (hln:=ass)) (.c (j:=2) rfl .n) ?_)
 rintro ⟨p26,c27⟩ -
 dsimp only [aq,nq,cq]
 refine e_one 4 (zv kr rfl rfl rfl rfl rfl sz41 rfl (.t2 .nil) ?_)
 refine zQa (zca (i:=1) rfl)<|e_one 5 (zv kr rfl rfl rfl rfl rfl sz41 rfl (.t2 .nil) ?_)
 refine zT kr<|zd<|zg<|za<|e_p (ze yg rfl sz39 rfl rfl)<|e_ru (zf 1 ty39 rfl rfl rfl)<|e_p (zN yf rfl)<|e_p (ze yg rfl sz39 rfl rfl)<|e_ru (zf 0 ty39 rfl rfl rfl)<|e_p (zN yf rfl)<|e_p (zI (z:=(((((yd ((ye s l1).natAbs)).length)+((yd ((ye t l2).natAbs)).length)):Nat):Int)) rfl rfl (w64 om))<|zFa rfl rfl (zqb (r:=rI .u32) (k:=(((yd ((ye s l1).natAbs)).length)+((yd ((ye t l2).natAbs)).length))) (x0:=0) (γ0:=()) yf inf121 rfl rfl rfl rfl om om rfl (fun g _=>by exact zG.2 dd) dd) (fun b8 _=> ?_)
 refine e_p (zb rfl)<|zh<|zd<|zg<|zg<|za<|e_p (zb rfl)<|zh<|zd<|zB<|zka (X:=Nat×(List Int)) (fun x:Nat×(List Int)=>x.1≤(yd (ye s l1).natAbs).length∧x.2.length=(yd (ye s l1).natAbs).length+(yd (ye t l2).natAbs).length∧yr x.2∧(∀k,x.1+(yd (ye t l2).natAbs).length≤k→x.2.getD k 0=0)∧yh x.2=yh ((yd (ye s l1).natAbs).take x.1)*yh (yd (ye t l2).natAbs)) (fun x=>[(6,ya yb ((x.1:Nat):Int)),(5,.slice (some ⟨b8,0,none⟩) (((yd ((ye s l1).natAbs)).length)+((yd ((ye t l2).natAbs)).length)) (((yd ((ye s l1).natAbs)).length)+((yd ((ye t l2).natAbs)).length))),(4,yc (some ⟨b3,0,none⟩)),(3,yc (some ⟨b2,0,none⟩)),(2,yc (some ⟨b1,0,none⟩))]) (fun x=>[rowA 121 (rI .u32) (some ⟨b8,0,none⟩) (((yd ((ye s l1).natAbs)).length)+((yd ((ye t l2).natAbs)).length)) (x.2),boxA b2 41 [.bool (decide ((ye t l2)<0)),.slice p26 ((yd ((ye t l2).natAbs)).length) c27],boxA b1 41 [.bool (decide ((ye s l1)<0)),.slice p24 ((yd ((ye s l1).natAbs)).length) c25],boxA b3 41 [wz.b,wz.l]]) (fun x=>[slF (rI .u32) p26 c27 (yd ((ye t l2).natAbs)),slF (rI .u32) p24 c25 (yd ((ye s l1).natAbs)),slF (rI .u32) p1 c1 l1,slF (rI .u32) p2 c2 l2]) (fun x:Nat×(List Int)=>(yd (ye s l1).natAbs).length - x.1) (0,List.replicate ((yd (ye s l1).natAbs).length+(yd (ye t l2).natAbs).length) 0) (show 0≤(yd (ye s l1).natAbs).length∧(List.replicate ((yd (ye s l1).natAbs).length+(yd (ye t l2).natAbs).length) 0).length=(yd (ye s l1).natAbs).length+(yd (ye t l2).natAbs).length∧yr (List.replicate ((yd (ye s l1).natAbs).length+(yd (ye t l2).natAbs).length) 0)∧(∀k,0+(yd (ye t l2).natAbs).length≤k→(List.replicate ((yd (ye s l1).natAbs).length+(yd (ye t l2).natAbs).length) 0).getD k 0=0)∧yh (List.replicate ((yd (ye s l1).natAbs).length+(yd (ye t l2).natAbs).length) 0)=yh ((yd (ye s l1).natAbs).take 0)*yh (yd (ye t l2).natAbs) from by exact ⟨by omega,by simp,Big.okL_zeros _,fun k _=>Big.getD_zeros _ k,by simp [Big.valL_zeros,yh]⟩) ((.e rfl (by first|rfl|(congr 1;omega)|simp_all) (.of rfl)):SubM _ _) (ho:=((.e (i:=0) rfl (by first|rfl|(congr 1;omega)|simp_all) (.of [0,0,0] rfl)):PickO _ _ _)) ((.of [0,1,2,3] rfl):SelR _ _ _) ?_
 rintro ⟨i,os⟩ hI
 replace hI:i≤(yd (ye s l1).natAbs).length∧os.length=(yd (ye s l1).natAbs).length+(yd (ye t l2).natAbs).length∧yr os∧(∀k,i+(yd (ye t l2).natAbs).length≤k→os.getD k 0=0)∧yh os=yh ((yd (ye s l1).natAbs).take i)*yh (yd (ye t l2).natAbs):=hI
 try dsimp only
 obtain ⟨hi,hol,hok,hz,hv⟩:=hI
 have hg1:=yo hoa i
 refine zg<|zg<|za<|e_mv rfl<|e_p (ze yg rfl sz39 rfl rfl)<|e_ru (zf 2 ty39 rfl rfl rfl)<|e_p (zN yf rfl)<|e_p (zY rfl rfl)<|zh<|zd<|zC rfl (fun h9=> ?_) (fun h9=> ?_)
 ·
  refine zA<|zd<|zg<|zB<|zg<|za<|e_p (zb rfl)<|zh<|zd<|zg<|zg<|za<|e_p (zb rfl)<|zh<|zd<|zB<|zka (X:=Nat×(List Int)×Int) (fun x:Nat×(List Int)×Int=>x.1≤(yd (ye t l2).natAbs).length∧x.2.1.length=(yd (ye s l1).natAbs).length+(yd (ye t l2).natAbs).length∧yr x.2.1∧0≤x.2.2∧x.2.2<1000000000∧(∀k,i+(yd (ye t l2).natAbs).length≤k→x.2.1.getD k 0=0)∧yh x.2.1+yC (i+x.1)*x.2.2=yh ((yd (ye s l1).natAbs).take i)*yh (yd (ye t l2).natAbs)+yC i*(yd (ye s l1).natAbs).getD i 0*yh ((yd (ye t l2).natAbs).take x.1)) (fun x=>[(7,.int .u64 (x.2.2)),(8,ya yb ((x.1:Nat):Int)),(6,ya yb ((i:Nat):Int)),(5,.slice (some ⟨b8,0,none⟩) (((yd ((ye s l1).natAbs)).length)+((yd ((ye t l2).natAbs)).length)) (((yd ((ye s l1).natAbs)).length)+((yd ((ye t l2).natAbs)).length))),(4,yc (some ⟨b3,0,none⟩)),(3,yc (some ⟨b2,0,none⟩)),(2,yc (some ⟨b1,0,none⟩))]) (fun x=>[rowA 121 (rI .u32) (some ⟨b8,0,none⟩) (((yd ((ye s l1).natAbs)).length)+((yd ((ye t l2).natAbs)).length)) (x.2.1),boxA b2 41 [.bool (decide ((ye t l2)<0)),.slice p26 ((yd ((ye t l2).natAbs)).length) c27],boxA b1 41 [.bool (decide ((ye s l1)<0)),.slice p24 ((yd ((ye s l1).natAbs)).length) c25],boxA b3 41 [wz.b,wz.l]]) (fun x=>[slF (rI .u32) p26 c27 (yd ((ye t l2).natAbs)),slF (rI .u32) p24 c25 (yd ((ye s l1).natAbs)),slF (rI .u32) p1 c1 l1,slF (rI .u32) p2 c2 l2]) (fun x:Nat×(List Int)×Int=>(yd (ye t l2).natAbs).length - x.1) (0,os,0) (show 0≤(yd (ye t l2).natAbs).length∧os.length=(yd (ye s l1).natAbs).length+(yd (ye t l2).natAbs).length∧yr os∧0≤0∧0<1000000000∧(∀k,i+(yd (ye t l2).natAbs).length≤k→os.getD k 0=0)∧yh os+yC (i+0)*0=yh ((yd (ye s l1).natAbs).take i)*yh (yd (ye t l2).natAbs)+yC i*(yd (ye s l1).natAbs).getD i 0*yh ((yd (ye t l2).natAbs).take 0) from by exact ⟨by omega,hol,hok,by decide,by decide,hz,by rw [hv];simp [yh]⟩) ((.c rfl (.e rfl (by first|rfl|(congr 1;omega)|simp_all) (.of rfl))):SubM _ _) (ho:=((.of [0,0,0,0] rfl):PickO _ _ _)) ((.of [0,1,2,3] rfl):SelR _ _ _) ?_
  rintro ⟨j,os2,cy⟩ hJ
  replace hJ:j≤(yd (ye t l2).natAbs).length∧os2.length=(yd (ye s l1).natAbs).length+(yd (ye t l2).natAbs).length∧yr os2∧0≤cy∧cy<1000000000∧(∀k,i+(yd (ye t l2).natAbs).length≤k→os2.getD k 0=0)∧yh os2+yC (i+j)*cy=yh ((yd (ye s l1).natAbs).take i)*yh (yd (ye t l2).natAbs)+yC i*(yd (ye s l1).natAbs).getD i 0*yh ((yd (ye t l2).natAbs).take j):=hJ
  try dsimp only
  obtain ⟨hj,hol2,hok2,hcy0,hcy1,hz2,hv2⟩:=hJ
  have hg2:=yo hob j
  have hg3:=yo hok2 (i+j)
  have hpq:=Big.mul_lim hg1 hg2
  refine zg<|zg<|za<|e_mv rfl<|e_p (ze yg rfl sz39 rfl rfl)<|e_ru (zf 1 ty39 rfl rfl rfl)<|e_p (zN yf rfl)<|e_p (zY rfl rfl)<|zh<|zd<|zC rfl (fun h10=> ?_) (fun h10=> ?_)
  ·
   refine zA<|zd<|zg<|zB<|zg<|zW (OW:=[]) (O:=[rowA 121 (rI .u32) (some ⟨b8,0,none⟩) (((yd ((ye s l1).natAbs)).length)+((yd ((ye t l2).natAbs)).length)) os2,boxA b2 41 [.bool (decide ((ye t l2)<0)),.slice p26 ((yd ((ye t l2).natAbs)).length) c27],boxA b1 41 [.bool (decide ((ye s l1)<0)),.slice p24 ((yd ((ye s l1).natAbs)).length) c25],boxA b3 41 [wz.b,wz.l]]) 100000 mixed (.then (.block (.then (.then (.block (.then (.block (.then (.then (.block (.then .ret))))))))))) kr<|e_dm 0 rfl rfl rfl<|e_dm 1 rfl rfl rfl<|e_dm 2 rfl rfl rfl<|e_pv 3 rfl rfl (zI (z:=(((i+j):Nat):Int)) rfl rfl (w64 om))<|e_pv 4 rfl rfl (zia (j:=(i+j)) yf sz121 rfl rfl rfl om)<|d_vl 5 rfl rfl kr kr rfl rfl (zha 0 (i+j) rfl ty121 rfl rfl (gD (d:=0) om) rfl) (fun _ hok11=> ?_)
   replace hok11:=zG.1 hok11
   refine e_pv 6 rfl rfl (zK (z:=(os2.getD (i+j) 0)) rfl (by rw [yj];rfl) yi (wu64 om))<|e_pv 7 rfl rfl (ze yg rfl sz39 rfl rfl)<|e_u 8 rfl rfl (zf 2 ty39 rfl rfl rfl)<|e_dm 9 rfl rfl rfl<|zZ (x0:=((yd ((ye s l1).natAbs)).getD i 0)) 10 rfl rfl kr kr 1 i rfl yf sz121 rfl rfl rfl (by first|rfl|assumption|(simp;omega)|omega) rfl rfl (gD (d:=0) om) (fun b12 o13 hok14=> ?_)
   replace hok14:=zG.1 hok14
   refine e_u 11 rfl rfl (zx (j:=0) 0 ty121 rfl rfl rfl rfl)<|e_pv 12 rfl rfl (zK (z:=((yd ((ye s l1).natAbs)).getD i 0)) rfl (by rw [yj];rfl) yi (wu64 om))<|e_pv 13 rfl rfl (ze yg rfl sz39 rfl rfl)<|e_u 14 rfl rfl (zf 1 ty39 rfl rfl rfl)<|e_dm 15 rfl rfl rfl<|zZ (x0:=((yd ((ye t l2).natAbs)).getD j 0)) 16 rfl rfl kr kr 1 j rfl yf sz121 rfl rfl rfl (by first|rfl|assumption|(simp;omega)|omega) rfl rfl (gD (d:=0) om) (fun b15 o16 hok17=> ?_)
   replace hok17:=zG.1 hok17
   refine e_u 17 rfl rfl (zx (j:=0) 0 ty121 rfl rfl rfl rfl)<|e_pv 18 rfl rfl (zK (z:=((yd ((ye t l2).natAbs)).getD j 0)) rfl (by rw [yj];rfl) yi (wu64 om))<|e_pv 19 rfl rfl (zya (z:=(((yd ((ye s l1).natAbs)).getD i 0)*((yd ((ye t l2).natAbs)).getD j 0))) rfl rfl (wu64 om))<|e_pv 20 rfl rfl (zI (z:=((os2.getD (i+j) 0)+(((yd ((ye s l1).natAbs)).getD i 0)*((yd ((ye t l2).natAbs)).getD j 0)))) rfl rfl (wu64 om))<|e_dm 21 rfl rfl rfl<|e_pv 22 rfl rfl (zI (z:=(((os2.getD (i+j) 0)+(((yd ((ye s l1).natAbs)).getD i 0)*((yd ((ye t l2).natAbs)).getD j 0)))+cy)) rfl rfl (wu64 om))<|e_pv 23 rfl rfl (zb rfl)<|zT kr<|zd<|zg<|za<|e_mv rfl<|e_mv rfl<|e_mv rfl<|e_p (zI (z:=(((i+j):Nat):Int)) rfl rfl (w64 om))<|e_mv rfl<|e_p (zwa (z:=((((os2.getD (i+j) 0)+(((yd ((ye s l1).natAbs)).getD i 0)*((yd ((ye t l2).natAbs)).getD j 0)))+cy)%1000000000)) rfl rfl om (remN om om))<|e_p (zK (z:=((((os2.getD (i+j) 0)+(((yd ((ye s l1).natAbs)).getD i 0)*((yd ((ye t l2).natAbs)).getD j 0)))+cy)%1000000000)) rfl (by rw [yi];rfl) yj (wu32 om))<|e_p (zia (j:=(i+j)) yf sz121 rfl rfl rfl om)<|zIa 0 rfl rfl rfl (zea (j:=(i+j)) (x0:=((((os2.getD (i+j) 0)+(((yd ((ye s l1).natAbs)).getD i 0)*((yd ((ye t l2).natAbs)).getD j 0)))+cy)%1000000000)) (γ0:=()) rfl rfl (by first|omega|(rw [List.length_map];omega)|(simp only [List.length_set];omega)|(simp;done)|(simp;omega)) rfl rfl sz121 (fun _ _=>by exact zG.2 om)) (fun _=> .z) (fun _ _=> ?_)
   refine zh<|zd<|za<|e_mv rfl<|e_p (zhb (z:=((((os2.getD (i+j) 0)+(((yd ((ye s l1).natAbs)).getD i 0)*((yd ((ye t l2).natAbs)).getD j 0)))+cy) / 1000000000)) rfl rfl om (by rw [quoN (z:=((((os2.getD (i+j) 0)+(((yd ((ye s l1).natAbs)).getD i 0)*((yd ((ye t l2).natAbs)).getD j 0)))+cy) / 1000000000)) om om];exact wu64 om))<|e_p (zb rfl)<|zh<|zO<|zd<|za<|e_mv rfl<|e_p (zI (z:=(((j+1):Nat):Int)) rfl rfl (w64 om))<|e_p (zb rfl)<|zh<|zda ((j+1),os2.set (i+j) ((os2.getD (i+j) 0+(yd (ye s l1).natAbs).getD i 0*(yd (ye t l2).natAbs).getD j 0+cy)%1000000000),(os2.getD (i+j) 0+(yd (ye s l1).natAbs).getD i 0*(yd (ye t l2).natAbs).getD j 0+cy) / 1000000000) (show (j+1)≤(yd (ye t l2).natAbs).length∧(os2.set (i+j) ((os2.getD (i+j) 0+(yd (ye s l1).natAbs).getD i 0*(yd (ye t l2).natAbs).getD j 0+cy)%1000000000)).length=(yd (ye s l1).natAbs).length+(yd (ye t l2).natAbs).length∧yr (os2.set (i+j) ((os2.getD (i+j) 0+(yd (ye s l1).natAbs).getD i 0*(yd (ye t l2).natAbs).getD j 0+cy)%1000000000))∧0≤((os2.getD (i+j) 0+(yd (ye s l1).natAbs).getD i 0*(yd (ye t l2).natAbs).getD j 0+cy) / 1000000000)∧((os2.getD (i+j) 0+(yd (ye s l1).natAbs).getD i 0*(yd (ye t l2).natAbs).getD j 0+cy) / 1000000000)<1000000000∧(∀k,i+(yd (ye t l2).natAbs).length≤k→(os2.set (i+j) ((os2.getD (i+j) 0+(yd (ye s l1).natAbs).getD i 0*(yd (ye t l2).natAbs).getD j 0+cy)%1000000000)).getD k 0=0)∧yh (os2.set (i+j) ((os2.getD (i+j) 0+(yd (ye s l1).natAbs).getD i 0*(yd (ye t l2).natAbs).getD j 0+cy)%1000000000))+yC (i+(j+1))*((os2.getD (i+j) 0+(yd (ye s l1).natAbs).getD i 0*(yd (ye t l2).natAbs).getD j 0+cy) / 1000000000)=yh ((yd (ye s l1).natAbs).take i)*yh (yd (ye t l2).natAbs)+yC i*(yd (ye s l1).natAbs).getD i 0*yh ((yd (ye t l2).natAbs).take (j+1)) from by exact ⟨by omega,by simpa using hol2,Big.okL_set hok2 om om,by omega,by omega,fun k hk=>by rw [Big.getD_set_ne om];exact hz2 k om,Big.mul_step hv2 om om⟩) (by show (yd (ye t l2).natAbs).length - (j+1)<(yd (ye t l2).natAbs).length - j;omega) ((.e rfl (by first|rfl|(congr 1;omega)|simp_all) (.of rfl)):SubM _ _) (ho:=((.e (i:=0) rfl (by first|rfl|(congr 1;omega)|simp_all) (.of [0,0,0] rfl)):PickO _ _ _)) ((.of [2,3,4,5] rfl):SelR _ _ _)
  ·
   have hjb:j=(yd (ye t l2).natAbs).length:=by omega
   subst hjb
   have hv3:=hv2
   refine zja<|zj<|zj<|zt<|zd<|za<|e_mv rfl<|e_mv rfl<|e_p (ze yg rfl sz39 rfl rfl)<|e_ru (zf 1 ty39 rfl rfl rfl)<|e_p (zN yf rfl)<|e_p (zI (z:=(((i+((yd ((ye t l2).natAbs)).length)):Nat):Int)) rfl rfl (w64 om))<|e_mv rfl<|e_p (zK (z:=cy) rfl (by rw [yi];rfl) yj (wu32 om))<|e_p (zia (j:=(i+((yd ((ye t l2).natAbs)).length))) yf sz121 rfl rfl rfl om)<|zIa 0 rfl rfl rfl (zea (j:=(i+((yd ((ye t l2).natAbs)).length))) (x0:=cy) (γ0:=()) rfl rfl (by first|omega|(rw [List.length_map];omega)|(simp only [List.length_set];omega)|(simp;done)|(simp;omega)) rfl rfl sz121 (fun _ _=>by exact zG.2 om)) (fun _=> .z) (fun _ _=> ?_)
   refine zh<|zO<|zd<|za<|e_mv rfl<|e_p (zI (z:=(((i+1):Nat):Int)) rfl rfl (w64 om))<|e_p (zb rfl)<|zh<|zda ((i+1),os2.set (i+(yd (ye t l2).natAbs).length) cy) (show (i+1)≤(yd (ye s l1).natAbs).length∧(os2.set (i+(yd (ye t l2).natAbs).length) cy).length=(yd (ye s l1).natAbs).length+(yd (ye t l2).natAbs).length∧yr (os2.set (i+(yd (ye t l2).natAbs).length) cy)∧(∀k,(i+1)+(yd (ye t l2).natAbs).length≤k→(os2.set (i+(yd (ye t l2).natAbs).length) cy).getD k 0=0)∧yh (os2.set (i+(yd (ye t l2).natAbs).length) cy)=yh ((yd (ye s l1).natAbs).take (i+1))*yh (yd (ye t l2).natAbs) from by exact ⟨by omega,by simpa using hol2,Big.okL_set hok2 om om,fun k hk=>by rw [Big.getD_set_ne om];exact hz2 k om,Big.mul_round hv3 om (hz2 _ (Nat.le_refl _))⟩) (by show (yd (ye s l1).natAbs).length - (i+1)<(yd (ye s l1).natAbs).length - i;omega) ((.of rfl):SubM _ _) (ho:=((.e (i:=0) rfl (by first|rfl|(congr 1;omega)|simp_all) (.of [0,0,0] rfl)):PickO _ _ _)) ((.of [0,1,2,3] rfl):SelR _ _ _)
 ·
  have hia:i=(yd (ye s l1).natAbs).length:=by omega
  have hfin:yt (decide (decide (ye s l1<0)≠decide (ye t l2<0))) (yh os)=ye s l1*ye t l2:=by rw [hv,hia,List.take_length,yw,yw,←Int.natCast_mul,Big.sg_mul,Big.sg_big,Big.sg_big]
  refine zja<|zj<|zj<|zt<|zd<|zg<|za<|e_p (ze yg rfl sz4 rfl rfl)<|e_ru (zf 2 ty4 rfl rfl rfl)<|e_p (ze yg rfl sz4 rfl rfl)<|e_ru (zf 1 ty4 rfl rfl rfl)<|e_p (zNa yB rfl rfl)<|e_mv rfl<|zma 0 rfl .z<|zE rfl rfl (.c rfl (.c rfl .n)) ce112 (zKa (s:=decide (decide ((ye s l1)<0)≠decide ((ye t l2)<0))) (p:=some ⟨b8,0,none⟩) (n:=(((yd ((ye s l1).natAbs)).length)+((yd ((ye t l2).natAbs)).length))) (cap:=(((yd ((ye s l1).natAbs)).length)+((yd ((ye t l2).natAbs)).length))) (l:=os) (hn:=by first|rfl|assumption|omega|(unfold yl;omega)|(simp;done)|(simp;omega)|(simp_all;done)) (ho:=by exact hok) (hln:=by first|rfl|assumption|omega|(unfold yl;omega)|(simp;done)|(simp;omega)|(simp_all;done))) (.c (j:=0) rfl .n) ?_
  rintro ⟨p218,c219⟩ -
  dsimp only [aq,nq,cq]
  refine zk 3 rfl rfl rfl rfl rfl sz41 rfl (.t2 .nil) (.s (.s (.s .z)))<|zh<|zd<|zH ?_
  exact zy Tryz.results73 (p218,c219) trivial (zu 3 ty41 rfl rfl (.t2 .nil)) (by rw [hfin]) (ho:=(.n:PickO _ _ _)) ((.e (j:=0) rfl (by rw [hfin]) .n):SelR _ _ _)
theorem zuc {x1:Int} {x2:Int} {p1:Option Addr} {c1:Nat} {p2:Option Addr} {c2:Nat} (hb1:yl x1≤1099511627776) (hb2:yl x2≤1099511627776):Con ym 73 [.agg #[.bool (decide ((x1)<0)),.slice (p1) ((yd ((x1).natAbs)).length) (c1)],.agg #[.bool (decide ((x2)<0)),.slice (p2) ((yd ((x2).natAbs)).length) (c2)]] [] [slF (rI .u32) (p1) (c1) (yd ((x1).natAbs)),slF (rI .u32) (p2) (c2) (yd ((x2).natAbs))] (Y:=(Option Addr)×(Nat)) (fun y=>True) (fun y=> .agg #[.bool (decide ((x1*x2)<0)),.slice (y.1) ((yd ((x1*x2).natAbs)).length) (y.2)]) (fun y=>[]) (fun y=>[slF (rI .u32) (y.1) (y.2) (yd ((x1*x2).natAbs))]):=by
  have h:= @zmg (decide ((x1)<0)) p1 (yd (x1).natAbs).length c1 (yd (x1).natAbs) (decide ((x2)<0)) p2 (yd (x2).natAbs).length c2 (yd (x2).natAbs) rfl rfl hb1 hb2
  rw [yq,yq] at h
  exact h
theorem zSb {w1:Wd} {w2:Wd} {x1:Int} {x2:Int} (hb1:yl x1≤1099511627776) (hb2:yl x2≤1099511627776):Con ym 73 [.agg #[w1.b,w1.l],.agg #[w2.b,w2.l]] [] [zF w1 (x1),zF w2 (x2)] (Y:=(Wd)) (fun y=>True) (fun y=> .agg #[y.b,y.l]) (fun y=>[]) (fun y=>[zF y (x1*x2)]):=by
  exact zYb (zIc (fun p1 c1 p2 c2=>zuc hb1 hb2))
end Go.Proofs.YtjcpbhlijoigfaaGreat.Sp
namespace Go.Proofs.YtjcpbhlijoigfaaGreat.Sp
open Go
set_option linter.unusedVariables false
set_option maxRecDepth 100000
set_option maxHeartbeats 8000000
theorem zfc {a:Nat} {d:Nat} {p0:Option Addr} {cap:Nat} (hb:(yd a).length≤1099511627776) (hd:d<1000000000):Con ym 145 [.slice p0 ((yd a).length) cap,.int .u64 ((d:Nat):Int)] [] [slF (rI .u32) p0 cap (yd a)] (Y:=(Option Addr)×Nat) (fun y=>True) (fun y=> .slice (y.1) ((yd (a*d)).length) (y.2)) (fun y=>[]) (fun y=>[slF (rI .u32) (y.1) (y.2) (yd (a*d))]):=by
 refine zm Tryz.func145 rfl rfl rfl (fun c=> ?_)
 show RunC _ _ _ _ _ [(0,.slice p0 ((yd a).length) cap),(1,.int .u64 ((d:Nat):Int))] [] [slF (rI .u32) p0 cap (yd a)]
 refine zba 0 rfl (fun hL0=> ?_)
 refine zg<|za<|e_p (zb rfl)<|zh<|zd<|zg<|za<|zFa rfl rfl (zva (rI .u32) yf inf121) (fun b1 _=> ?_)
 refine e_p (zb rfl)<|zh<|zd<|zg<|za<|e_p (zb rfl)<|zh<|zd<|zg<|zg<|za<|e_p (zb rfl)<|zh<|zd<|zB<|zka (X:=Nat×(Option Addr)×Nat×(List Int)×Int) (fun x:Nat×(Option Addr)×Nat×(List Int)×Int=>Big.ScI (yd a) (d:Int) x.1 x.2.2.2.1 x.2.2.2.2) (fun x=>[(6,.int .u64 (x.2.2.2.2)),(5,.slice (x.2.1) (x.2.2.2.1.length) (x.2.2.1)),(7,ya yb ((x.1:Nat):Int)),(4,.slice none 0 0),(0,.slice p0 ((yd a).length) cap),(1,.int .u64 ((d:Nat):Int))]) (fun x=>[rowA 121 (rI .u32) (x.2.1) (x.2.2.1) (x.2.2.2.1)]) (fun x=>[slF (rI .u32) p0 cap (yd a)]) (fun x:Nat×(Option Addr)×Nat×(List Int)×Int=>(yd a).length - x.1) (0,some ⟨b1,0,none⟩,0,[],0) (show Big.ScI (yd a) (d:Int) 0 ([]) 0 from by exact Big.ScI.start _ _) ((.c rfl (.e rfl (by first|rfl|(congr 1;omega)|simp_all) (.e rfl (by first|rfl|(congr 1;omega)|simp_all) (.of rfl)))):SubM _ _) (ho:=((.c (i:=0) rfl .n):PickO _ _ _)) ((.c (j:=0) rfl .n):SelR _ _ _) ?_
 rintro ⟨i,p,c,os,cy⟩ hI
 replace hI:Big.ScI (yd a) (d:Int) i os cy:=hI
 try dsimp only
 have hi:=hI.le
 have hol:=hI.len
 have hc0:=hI.c0
 have hc1:=hI.c1
 have hg:=yo (yn a) i
 have hsl:=Big.sc_lim hg (show 0≤(d:Int)∧(d:Int)<1000000000 by omega) ⟨hc0,hc1⟩
 refine zg<|zg<|za<|e_mv rfl<|e_mv rfl<|e_p (zN yf rfl)<|e_p (zY rfl rfl)<|zh<|zd<|zC rfl (fun h2=> ?_) (fun h2=> ?_)
 ·
  refine zA<|zd<|zg<|zB<|zg<|za<|e_mv rfl<|e_mv rfl<|zP (x0:=((yd a).getD i 0)) 0 i rfl yf sz121 rfl rfl rfl (by first|rfl|assumption|(simp;done)|(simp;omega)|omega) rfl rfl (gD (d:=0) om) (fun b3 o4 hok5=> ?_)
  replace hok5:=zG.1 hok5
  refine e_ru (zx (j:=0) 0 ty121 rfl rfl rfl rfl)<|e_p (zK (z:=((yd a).getD i 0)) rfl (by rw [yj];rfl) yi (wu64 om))<|e_mv rfl<|e_p (zya (z:=(((yd a).getD i 0)*((d:Nat):Int))) rfl rfl (wu64 om))<|e_mv rfl<|e_p (zI (z:=((((yd a).getD i 0)*((d:Nat):Int))+cy)) rfl rfl (wu64 om))<|e_p (zb rfl)<|zh<|zd<|zg<|za<|e_mv rfl<|e_mv rfl<|e_p (zwa (z:=(((((yd a).getD i 0)*((d:Nat):Int))+cy)%1000000000)) rfl rfl om (remN om om))<|e_p (zK (z:=(((((yd a).getD i 0)*((d:Nat):Int))+cy)%1000000000)) rfl (by rw [yi];rfl) yj (wu32 om))<|zFa rfl rfl (zV (enc:=fun z:Int=>[.int .u32 z]) (ok:=InK .u32) (h1:=fun _=>rfl) (h2:=fun _=>rfl) (k:=1) yf inf121 rfl dd dd dd (.c (x:=(((((yd a).getD i 0)*((d:Nat):Int))+cy)%1000000000)) rfl rfl (fun _ _=>by exact zG.2 om) .n)) (fun b6 _=> ?_)
  refine zma 0 rfl .z<|zIa 1 rfl rfl rfl (zsa 0 rfl yf inf121 dd rfl rfl (by first|rfl|assumption|(simp;done)|(simp;omega)|omega) rfl (by first|rfl|assumption|(simp;done)|(simp;omega)|omega) om om) (fun _=>(.s .z)) ?_
  rintro ⟨p7,c8⟩ -
  dsimp only [aq,nq,cq]
  refine e_p (zb rfl)<|zh<|zd<|za<|e_mv rfl<|e_p (zhb (z:=(((((yd a).getD i 0)*((d:Nat):Int))+cy) / 1000000000)) rfl rfl om (by rw [quoN (z:=(((((yd a).getD i 0)*((d:Nat):Int))+cy) / 1000000000)) om om];exact wu64 om))<|e_p (zb rfl)<|zh<|zO<|zd<|za<|e_mv rfl<|e_p (zI (z:=(((i+1):Nat):Int)) rfl rfl (w64 om))<|e_p (zb rfl)<|zh<|zda ((i+1),p7,c8,os++[((yd a).getD i 0*(d:Int)+cy)%1000000000],((yd a).getD i 0*(d:Int)+cy) / 1000000000) (show Big.ScI (yd a) (d:Int) (i+1) (os++[((yd a).getD i 0*(d:Int)+cy)%1000000000]) (((yd a).getD i 0*(d:Int)+cy) / 1000000000) from by exact hI.step (yn a) om om) (by show (yd a).length - (i+1)<(yd a).length - i;omega) ((.e rfl (by first|rfl|(congr 1;omega)|simp_all) (.e rfl (by simp) (.of rfl))):SubM _ _) (ho:=((.e (i:=1) rfl (by first|rfl|(congr 1;omega)|simp_all) .n):PickO _ _ _)) ((.c (j:=2) rfl .n):SelR _ _ _)
 ·
  obtain ⟨hok2,hfin⟩:=hI.fin om
  refine zja<|zj<|zj<|zt<|zd<|zg<|za<|e_mv rfl<|e_mv rfl<|e_p (zK (z:=cy) rfl (by rw [yi];rfl) yj (wu32 om))<|zFa rfl rfl (zV (enc:=fun z:Int=>[.int .u32 z]) (ok:=InK .u32) (h1:=fun _=>rfl) (h2:=fun _=>rfl) (k:=1) yf inf121 rfl dd dd dd (.c (x:=cy) rfl rfl (fun _ _=>by exact zG.2 om) .n)) (fun b9 _=> ?_)
  refine zma 0 rfl .z<|zIa 1 rfl rfl rfl (zsa 0 rfl yf inf121 dd rfl rfl (by first|rfl|assumption|(simp;done)|(simp;omega)|omega) rfl (by first|rfl|assumption|(simp;done)|(simp;omega)|omega) om om) (fun _=>(.s .z)) ?_
  rintro ⟨p10,c11⟩ -
  dsimp only [aq,nq,cq]
  refine zma 1 rfl (.s .z)<|zE rfl rfl (.c rfl (.c rfl .n)) ce112 (zKa (s:=false) (p:=p10) (n:=os.length+1) (cap:=c11) (l:=(os++([cy]))) (hn:=by first|rfl|omega|(simp;done)|(simp;omega)) (ho:=by exact hok2) (hln:=by first|rfl|omega|(simp;done)|(simp;omega))) (.c (j:=0) rfl .n) ?_
  rintro ⟨p212,c213⟩ -
  dsimp only [aq,nq,cq]
  refine e_p (zBa yg rfl ty39 rfl rfl)<|e_p (zb rfl)<|zh<|zd<|zH ?_
  have hz:(yt false (yh (os++[cy]))).natAbs=a*d:=by rw [hfin];exact Int.natAbs_natCast _
  exact zy Tryz.results145 (p212,c213) trivial (zl rfl) (by rw [hz]) (ho:=(.n:PickO _ _ _)) ((.e (j:=0) rfl (by rw [hz]) .n):SelR _ _ _)
theorem zWd {a:Nat} {d:Nat} {p0:Option Addr} {cap:Nat} (hb:(yd a).length≤1099511627776) (hd:d<1000000000):Con ym 146 [.slice p0 ((yd a).length) cap,.int .u32 ((d:Nat):Int)] [] [slF (rI .u32) p0 cap (yd a)] (Y:=(Option Addr)×Nat) (fun y=>True) (fun y=> .slice (y.1) ((yd (a*1000000000+d)).length) (y.2)) (fun y=>[]) (fun y=>[slF (rI .u32) (y.1) (y.2) (yd (a*1000000000+d))]):=by
 refine zm Tryz.func146 rfl rfl rfl (fun c=> ?_)
 show RunC _ _ _ _ _ [(0,.slice p0 ((yd a).length) cap),(1,.int .u32 ((d:Nat):Int))] [] [slF (rI .u32) p0 cap (yd a)]
 refine zba 0 rfl (fun hL0=> ?_)
 have hok2:yr ([((d:Nat):Int)]++yd a):=Big.okL_cons.2 ⟨by omega,yn a⟩
 have hz:(yt false (yh (((d:Nat):Int) :: yd a))).natAbs=a*1000000000+d:=by rw [yG (yx (l:=((d:Nat):Int) :: yd a) hok2)];simp only [yh,yw];omega
 refine zg<|za<|e_p (zb rfl)<|zh<|zd<|zg<|za<|e_mv rfl<|zFa rfl rfl (zV (enc:=fun z:Int=>[.int .u32 z]) (ok:=InK .u32) (h1:=fun _=>rfl) (h2:=fun _=>rfl) (k:=1) yf inf121 rfl dd dd dd (.c (x:=((d:Nat):Int)) rfl rfl (fun _ _=>by exact zG.2 om) .n)) (fun b1 _=> ?_)
 refine e_mv rfl<|zIa 0 rfl rfl rfl (zsa 0 rfl yf inf121 dd rfl rfl (by first|rfl|assumption|(simp;done)|(simp;omega)|omega) rfl (by first|rfl|assumption|(simp;done)|(simp;omega)|omega) om om) (fun _=> .z) ?_
 rintro ⟨p2,c3⟩ -
 dsimp only [aq,nq,cq]
 refine zma 0 rfl .z<|zE rfl rfl (.c rfl (.c rfl .n)) ce112 (zKa (s:=false) (p:=p2) (n:=1+((yd a).length)) (cap:=c3) (l:=(([((d:Nat):Int)])++(yd a))) (hn:=by first|rfl|omega|(simp;done)|(simp;omega)) (ho:=by exact hok2) (hln:=by first|rfl|omega|(simp;done)|(simp;omega))) (.c (j:=0) rfl .n) ?_
 rintro ⟨p24,c25⟩ -
 dsimp only [aq,nq,cq]
 refine e_p (zBa yg rfl ty39 rfl rfl)<|e_p (zb rfl)<|zh<|zd<|zH ?_
 exact zy Tryz.results146 (p24,c25) trivial (zl rfl) (by rw [hz]) (ho:=(.n:PickO _ _ _)) ((.e (j:=0) rfl (by rw [hz]) .n):SelR _ _ _)
theorem zod {a:Nat} {mm:Nat} {p:Option Addr} {cap:Nat} (hb:(yd a).length≤1099511627776) (hm0:0<mm) (hm1:mm≤1000000000):Con ym 144 [.slice p ((yd a).length) cap,.int .u64 ((mm:Nat):Int)] [] [slF (rI .u32) p cap (yd a)] (Y:=(Option Addr)×Nat) (fun y=>True) (fun y=> .tuple #[.slice (y.1) ((yd (a / mm)).length) (y.2),.int .u64 (((a%mm):Nat):Int)]) (fun y=>[]) (fun y=>[slF (rI .u32) (y.1) (y.2) (yd (a / mm))]):=by
 refine zm Tryz.func144 rfl rfl rfl (fun c=> ?_)
 show RunC _ _ _ _ _ [(0,.slice p ((yd a).length) cap),(1,.int .u64 ((mm:Nat):Int))] [] [slF (rI .u32) p cap (yd a)]
 refine zba 0 rfl (fun hL0=> ?_)
 refine zg<|za<|e_p (zb rfl)<|e_p (zb rfl)<|zh<|zd<|zg<|za<|e_mv rfl<|e_p (zN yf rfl)<|zFa rfl rfl (zqb (r:=rI .u32) (k:=(yd a).length) (x0:=0) (γ0:=()) yf inf121 rfl rfl rfl rfl om om rfl (fun g _=>by exact zG.2 dd) dd) (fun b1 _=> ?_)
 refine e_p (zb rfl)<|zh<|zd<|zg<|za<|e_p (zb rfl)<|zh<|zd<|zg<|zg<|za<|e_mv rfl<|e_p (zN yf rfl)<|e_p (zla (z:=((((yd a).length:Nat):Int) - 1)) rfl rfl (w64 om))<|e_p (zb rfl)<|zh<|zd<|zB<|zka (X:=Nat×(List Int)×(List Int)×Int) (fun x:Nat×(List Int)×(List Int)×Int=>x.2.1=List.replicate x.1 0++x.2.2.1∧Big.ShI (yd a) (mm:Int) x.1 x.2.2.1 x.2.2.2) (fun x=>[(7,.int .u64 (x.2.2.2)),(8,ya yb (((x.1:Nat):Int) - 1)),(6,.slice (some ⟨b1,0,none⟩) ((yd a).length) ((yd a).length)),(5,.int .u64 0),(4,.slice none 0 0),(0,.slice p ((yd a).length) cap),(1,.int .u64 ((mm:Nat):Int))]) (fun x=>[rowA 121 (rI .u32) (some ⟨b1,0,none⟩) ((yd a).length) (x.2.1)]) (fun x=>[slF (rI .u32) p cap (yd a)]) (fun x:Nat×(List Int)×(List Int)×Int=>x.1) ((yd a).length,(List.replicate (yd a).length 0),([]:List Int),(0:Int)) (show (List.replicate (yd a).length 0)=List.replicate ((yd a).length) 0++([]:List Int)∧Big.ShI (yd a) (mm:Int) ((yd a).length) ([]:List Int) (0:Int) from by exact ⟨by simp,Big.ShI.start om⟩) ((.e rfl (by first|rfl|(congr 1;omega)|simp_all) (.e rfl (by first|rfl|(congr 1;omega)|simp_all) (.of rfl))):SubM _ _) (ho:=((.e (i:=0) rfl (by first|rfl|(congr 1;omega)|simp_all) .n):PickO _ _ _)) ((.c (j:=0) rfl .n):SelR _ _ _) ?_
 rintro ⟨jj,os,qs,z⟩ hI
 replace hI:os=List.replicate jj 0++qs∧Big.ShI (yd a) (mm:Int) jj qs z:=hI
 try dsimp only
 obtain ⟨hos,hS⟩:=hI
 have hz0:=hS.r0
 have hz1:=hS.r1
 have hkle:=hS.le
 refine zg<|zg<|za<|e_mv rfl<|e_p (zJa rfl rfl)<|zh<|zd<|zC rfl (fun h2=> ?_) (fun h2=> ?_)
 ·
  obtain ⟨k,rfl⟩:∃k,jj=k+1:=⟨jj - 1,by omega⟩
  have e3:(((((k+1):Nat):Int) - 1):Int)=((k:Nat):Int):=by omega
  rw [e3]
  have hosl:os.length=(yd a).length:=by rw [hos,List.length_append,List.length_replicate,hS.len];omega
  have hg:=yo (yn a) k
  have hdg:=Big.sh_digit hz0 hz1 hg
  have hrm:=Int.emod_lt_of_pos (z*1000000000+(yd a).getD k 0) (show 0<(mm:Int) by omega)
  have hrm0:=Int.emod_nonneg (z*1000000000+(yd a).getD k 0) (show (mm:Int)≠0 by omega)
  refine zA<|zd<|zg<|zB<|zg<|za<|e_mv rfl<|e_p (zya (z:=(z*1000000000)) rfl rfl (wu64 om))<|e_mv rfl<|e_mv rfl<|zP (x0:=((yd a).getD k 0)) 0 k rfl yf sz121 rfl rfl rfl (by first|rfl|assumption|(simp;done)|(simp;omega)|omega) rfl rfl (gD (d:=0) om) (fun b4 o5 hok6=> ?_)
  replace hok6:=zG.1 hok6
  refine e_ru (zx (j:=0) 0 ty121 rfl rfl rfl rfl)<|e_p (zK (z:=((yd a).getD k 0)) rfl (by rw [yj];rfl) yi (wu64 om))<|e_p (zI (z:=((z*1000000000)+((yd a).getD k 0))) rfl rfl (wu64 om))<|e_p (zb rfl)<|zh<|zd<|zg<|za<|e_mv rfl<|e_mv rfl<|e_mv rfl<|e_mv rfl<|e_p (zhb (z:=(((z*1000000000)+((yd a).getD k 0)) / ((mm:Nat):Int))) rfl rfl om (by rw [quoN (z:=(((z*1000000000)+((yd a).getD k 0)) / ((mm:Nat):Int))) om om];exact wu64 om))<|e_p (zK (z:=(((z*1000000000)+((yd a).getD k 0)) / ((mm:Nat):Int))) rfl (by rw [yi];rfl) yj (wu32 om))<|e_p (zia (j:=k) yf sz121 rfl rfl rfl om)<|zIa 0 rfl rfl rfl (zea (j:=k) (x0:=(((z*1000000000)+((yd a).getD k 0)) / ((mm:Nat):Int))) (γ0:=()) rfl rfl (by first|omega|(rw [List.length_map];omega)|(simp only [List.length_set];omega)|(simp;done)|(simp;omega)) rfl rfl sz121 (fun _ _=>by exact zG.2 om)) (fun _=> .z) (fun _ _=> ?_)
  refine zh<|zd<|za<|e_mv rfl<|e_mv rfl<|e_p (zwa (z:=(((z*1000000000)+((yd a).getD k 0))%((mm:Nat):Int))) rfl rfl om (remN om om))<|e_p (zb rfl)<|zh<|zO<|zd<|za<|e_mv rfl<|e_p (zla (z:=(((k:Nat):Int) - 1)) rfl rfl (w64 om))<|e_p (zb rfl)<|zh<|zda (k,(os.set k (((z*1000000000)+((yd a).getD k 0)) / ((mm:Nat):Int))),((z*1000000000+(yd a).getD k 0) / (mm:Int) :: qs),((z*1000000000+(yd a).getD k 0)%(mm:Int))) (show (os.set k (((z*1000000000)+((yd a).getD k 0)) / ((mm:Nat):Int)))=List.replicate k 0++((z*1000000000+(yd a).getD k 0) / (mm:Int) :: qs)∧Big.ShI (yd a) (mm:Int) k ((z*1000000000+(yd a).getD k 0) / (mm:Int) :: qs) ((z*1000000000+(yd a).getD k 0)%(mm:Int)) from by exact ⟨by rw [hos];exact Big.pad_set _,hS.step (yn a)⟩) (by show k<k+1;omega) ((.e rfl (by first|rfl|(congr 1;omega)|simp_all) (.of rfl)):SubM _ _) (ho:=((.c (i:=0) rfl .n):PickO _ _ _)) ((.c (j:=1) rfl .n):SelR _ _ _)
 ·
  have hj0:jj=0:=by omega
  have hS0:Big.ShI (yd a) (mm:Int) 0 qs z:=hj0 ▸ hS
  obtain ⟨hf1,hf2⟩:=hS0.fin
  have hoq:os=qs:=by rw [hos,hj0];rfl
  have hok2:yr os:=by rw [hoq];exact hS.ok
  have hosl:os.length=(yd a).length:=by rw [hoq,hS0.len];omega
  have hz9:(yt false (yh os)).natAbs=a / mm:=by rw [hoq,yG (yx hS.ok),←Big.valL_trim,hf1,yw];exact Int.toNat_natCast _
  refine zja<|zj<|zj<|zt<|zd<|zg<|za<|e_mv rfl<|zma 0 rfl .z<|zE rfl rfl (.c rfl (.c rfl .n)) ce112 (zKa (s:=false) (p:=some ⟨b1,0,none⟩) (n:=(yd a).length) (cap:=(yd a).length) (l:=os) (hn:=by first|rfl|omega|(simp;done)|(simp;omega)) (ho:=by exact hok2) (hln:=by first|rfl|omega|(simp;done)|(simp;omega))) (.c (j:=0) rfl .n) ?_
  rintro ⟨p27,c28⟩ -
  dsimp only [aq,nq,cq]
  refine e_p (zBa yg rfl ty39 rfl rfl)<|e_mv rfl<|e_p (zb rfl)<|e_p (zb rfl)<|zh<|zd<|zH ?_
  exact zra Tryz.results144 (p27,c28) trivial (zl rfl) (zl rfl) (by rw [hz9,hf2]) (ho:=(.n:PickO _ _ _)) ((.e (j:=0) rfl (by rw [hz9]) .n):SelR _ _ _)
theorem zXd {a:Nat} {p:Option Addr} {cap:Nat} (hb:(yd a).length≤2):Con ym 132 [.slice p ((yd a).length) cap] [] [slF (rI .u32) p cap (yd a)] (Y:=Unit) (fun y=>True) (fun y=> .int .u64 ((a:Nat):Int)) (fun y=>[]) (fun y=>[]):=by
 refine zm Tryz.func132 rfl rfl rfl (fun c=> ?_)
 show RunC _ _ _ _ _ [(0,.slice p ((yd a).length) cap)] [] [slF (rI .u32) p cap (yd a)]
 refine zba 0 rfl (fun hL0=> ?_)
 have hpv:=Big.pair_val hb
 have hg0:=yo (yn a) 0
 have hg1:=yo (yn a) 1
 refine zg<|za<|e_p (zb rfl)<|zh<|zd<|zg<|za<|e_mv rfl<|zL rfl rfl (.c rfl (.c rfl .n)) ce143 (zWa (p:=p) (n:=(yd a).length) (cap:=cap) (l:=yd a) (i:=1) (hn:=cbb) (hi:=cbb)) (.c (j:=0) rfl .n)<|e_p (zya (z:=((yd a).getD 1 0*1000000000)) rfl rfl (wu64 om))<|e_mv rfl<|zL rfl rfl (.c rfl (.c rfl .n)) ce143 (zWa (p:=p) (n:=(yd a).length) (cap:=cap) (l:=yd a) (i:=0) (hn:=cbb) (hi:=cbb)) (.c (j:=0) rfl .n)<|e_p (zI (z:=(((yd a).getD 1 0*1000000000)+(yd a).getD 0 0)) rfl rfl (wu64 om))<|e_p (zb rfl)<|zh<|zd<|zH ?_
 exact zy Tryz.results132 () trivial (zl rfl) (by rw [hpv]) (ho:=(.n:PickO _ _ _)) (.n:SelR _ _ _)
end Go.Proofs.YtjcpbhlijoigfaaGreat.Sp
namespace Go.Proofs.YtjcpbhlijoigfaaGreat.Sp
open Go
set_option linter.unusedVariables false
set_option maxRecDepth 100000
set_option maxHeartbeats 8000000
theorem zpd {a:Nat} {b:Nat} {p1:Option Addr} {c1:Nat} {p2:Option Addr} {c2:Nat} (hb1:(yd a).length≤549755813888) (hb2:(yd b).length≤549755813888) (hb0:0<b):Con ym 131 [.slice p1 ((yd a).length) c1,.slice p2 ((yd b).length) c2] [] [slF (rI .u32) p1 c1 (yd a),slF (rI .u32) p2 c2 (yd b)] (Y:=(Option Addr)×Nat×(Option Addr)×Nat) (fun y=>True) (fun y=> .tuple #[.slice (y.1) ((yd (a / b)).length) (y.2.1),.slice (y.2.2.1) ((yd (a%b)).length) (y.2.2.2)]) (fun y=>[]) (fun y=>[slF (rI .u32) (y.1) (y.2.1) (yd (a / b)),slF (rI .u32) (y.2.2.1) (y.2.2.2) (yd (a%b))]):=by
 refine zm Tryz.func131 rfl rfl rfl (fun c=> ?_)
 show RunC _ _ _ _ _ [(0,.slice p1 ((yd a).length) c1),(1,.slice p2 ((yd b).length) c2)] [] [slF (rI .u32) p1 c1 (yd a),slF (rI .u32) p2 c2 (yd b)]
 refine zba 0 rfl (fun hL0=> ?_)
 refine zba 1 rfl (fun hL1=> ?_)
 have hln0:=Big.zsf hb0
 have hob:=yo (yn b) 0
 have hob1:=yo (yn b) ((yd b).length - 1)
 have hdv:=yu (Nat.div_le_self a b)
 have hdm:=Nat.mod_lt a hb0
 refine zg<|za<|e_p (zb rfl)<|e_p (zb rfl)<|zh<|zd<|zg<|za<|e_mv rfl<|e_p (zN yf rfl)<|e_p (zb rfl)<|zh<|zd<|zg<|zg<|za<|e_mv rfl<|e_p (zua rfl rfl)<|zh<|zd<|zC rfl (fun hl1=> ?_) (fun hl1=> ?_)
 ·
  have hbd:=Big.one_digit (by omega:(yd b).length=1)
  have hbl:b<1000000000:=by omega
  have hokt:yr [((a%b:Nat):Int)]:=Big.okL_cons.2 ⟨by omega,Big.okL_nil⟩
  have hz3:=Big.made_nat hokt (show yh [((a%b:Nat):Int)]=((a%b:Nat):Int) by simp only [yh];omega)
  refine zg<|za<|e_mv rfl<|e_mv rfl<|zP (x0:=((yd b).getD 0 0)) 1 0 rfl yf sz121 rfl rfl rfl (by first|rfl|assumption|(simp;done)|(simp;omega)|omega) rfl rfl (gD (d:=0) om) (fun b1 o2 hok3=> ?_)
  replace hok3:=zG.1 hok3
  refine e_ru (zx (j:=0) 0 ty121 rfl rfl rfl rfl)<|e_p (zK (z:=((yd b).getD 0 0)) rfl (by rw [yj];rfl) yi (wu64 om)) ?_
  have e4:(((yd b).getD 0 0):Int)=((b:Nat):Int):=by exact hbd
  rw [e4]
  refine zE rfl rfl (.c rfl (.c rfl .n)) ce144 (zod (a:=a) (mm:=b) (p:=p1) (cap:=c1) (hb:=by first|rfl|assumption|omega|(simp;done)) (hm0:=ass) (hm1:=by first|rfl|assumption|omega|(simp;done))) (.c (j:=1) rfl .n) ?_
  rintro ⟨p25,c26⟩ -
  dsimp only [aq,nq,cq]
  refine e_mv rfl<|e_p (zr rfl rfl)<|e_p (zr rfl rfl)<|e_p (zb rfl)<|e_p (zb rfl)<|zh<|zd<|zg<|za<|e_mv rfl<|e_mv rfl<|e_p (zK (z:=(((a%b):Nat):Int)) rfl (by rw [yi];rfl) yj (wu32 om))<|zFa rfl rfl (zV (enc:=fun z:Int=>[.int .u32 z]) (ok:=InK .u32) (h1:=fun _=>rfl) (h2:=fun _=>rfl) (k:=1) yf inf121 rfl dd dd dd (.c (x:=(((a%b):Nat):Int)) rfl rfl (fun _ _=>by exact zG.2 om) .n)) (fun b7 _=> ?_)
  refine zma 0 rfl .z<|zE rfl rfl (.c rfl (.c rfl .n)) ce112 (zKa (s:=false) (p:=some ⟨b7,0,none⟩) (n:=1) (cap:=1) (l:=[(((a%b):Nat):Int)]) (hn:=by first|rfl|omega|(simp;done)|(simp;omega)) (ho:=by exact hokt) (hln:=by first|rfl|omega|(simp;done)|(simp;omega))) (.c (j:=0) rfl .n) ?_
  rintro ⟨p28,c29⟩ -
  dsimp only [aq,nq,cq]
  refine e_p (zBa yg rfl ty39 rfl rfl)<|e_p (zb rfl)<|e_p (zb rfl)<|zh<|zd<|zH<|zi ?_
  exact zra Tryz.results131 (p25,c26,p28,c29) trivial (zl rfl) (zl rfl) (by rw [hz3]) (ho:=(.n:PickO _ _ _)) ((.c (j:=2) rfl (.e (j:=0) rfl (by rw [hz3]) .n)):SelR _ _ _)
 ·
  refine zA<|zd<|zg<|zg<|za<|e_mv rfl<|e_mv rfl<|zL rfl rfl (.c rfl (.c rfl .n)) ce129 (zcd (a:=a) (b:=b) (p1:=p1) (c1:=c1) (p2:=p2) (c2:=c2)) (.c (j:=0) rfl (.c (j:=1) rfl .n))<|e_p (zY rfl rfl)<|zh<|zd<|zC rfl (fun hlt=> ?_) (fun hlt=> ?_)
  ·
   have hab9:¬(b:Int)≤a:=fun h=>by have:=yE.2 h;omega
   have hab:a<b:=by omega
   refine zg<|za<|zFa rfl rfl (zva (rI .u32) yf inf121) (fun b10 _=> ?_)
   refine e_mv rfl<|e_p (zb rfl)<|e_p (zb rfl)<|zh<|zd<|zH<|zi ?_
   have hz1:a / b=0:=Nat.div_eq_of_lt hab
   have hz2:a%b=a:=Nat.mod_eq_of_lt hab
   refine zUb 0 rfl .z ?_
   exact zra Tryz.results131 (some ⟨b10,0,none⟩,0,p1,c1) trivial (zl rfl) (zl rfl) (by rw [hz1,hz2];rfl) (ho:=(.n:PickO _ _ _)) ((.e (j:=0) rfl (by rw [hz1];rfl) (.e (j:=1) rfl (by rw [hz2]) .n)):SelR _ _ _)
  ·
   have hab:b≤a:=by have h9:=yE.1 (by omega:0≤Big.cmp (a:Int) (b:Int));omega
   have hab2:=yu hab
   have hq1:0≤1000000000 / ((yd b).getD ((yd b).length - 1) 0+1):=Int.ediv_nonneg om om
   have hdt:=Big.digs_top (b:=b) (n:=(yd b).length - 1) om
   have hq2:1000000000 / ((yd b).getD ((yd b).length - 1) 0+1)≤500000000:=Int.ediv_le_of_le_mul om om
   refine zA<|zd<|zg<|za<|e_mv rfl<|e_mv rfl<|e_p (zla (z:=((((yd b).length - 1):Nat):Int)) rfl rfl (w64 om))<|zP (x0:=((yd b).getD ((yd b).length - 1) 0)) 1 ((yd b).length - 1) rfl yf sz121 rfl rfl rfl (by first|rfl|assumption|(simp;done)|(simp;omega)|omega) rfl rfl (gD (d:=0) om) (fun b11 o12 hok13=> ?_)
   replace hok13:=zG.1 hok13
   refine e_ru (zx (j:=0) 0 ty121 rfl rfl rfl rfl)<|e_p (zK (z:=((yd b).getD ((yd b).length - 1) 0)) rfl (by rw [yj];rfl) yi (wu64 om))<|e_p (zI (z:=(((yd b).getD ((yd b).length - 1) 0)+1)) rfl rfl (wu64 om))<|e_p (zhb (z:=(1000000000 / (((yd b).getD ((yd b).length - 1) 0)+1))) rfl rfl om (by rw [quoN (z:=(1000000000 / (((yd b).getD ((yd b).length - 1) 0)+1))) om om];exact wu64 om))<|e_p (zb rfl)<|zh<|zd<|zg ?_
   obtain ⟨s,hs⟩:∃s:Nat,s=(1000000000 / ((yd b).getD ((yd b).length - 1) 0+1)).toNat:=⟨_,rfl⟩
   obtain ⟨hs1,hs2,hs3⟩:=Big.scale_len (n:=(yd b).length - 1) om hs
   have hsd:=Big.digs_one hs1 (by omega:s<1000000000)
   have hsl:(yd s).length=1:=by rw [hsd];rfl
   have e14:((1000000000 / (((yd b).getD ((yd b).length - 1) 0)+1)):Int)=((s:Nat):Int):=by omega
   rw [e14]
   refine za<|e_mv rfl<|e_mv rfl<|zE rfl rfl (.c rfl (.c rfl .n)) ce145 (zfc (a:=a) (d:=s) (p0:=p1) (cap:=c1) (hb:=by first|rfl|assumption|omega|(simp;done)) (hd:=by first|rfl|assumption|omega|(simp;done))) (.c (j:=1) rfl .n) ?_
   rintro ⟨p315,c316⟩ -
   dsimp only [aq,nq,cq]
   refine e_mv rfl<|e_mv rfl<|zE rfl rfl (.c rfl (.c rfl .n)) ce145 (zfc (a:=b) (d:=s) (p0:=p2) (cap:=c2) (hb:=by first|rfl|assumption|omega|(simp;done)) (hd:=by first|rfl|assumption|omega|(simp;done))) (.c (j:=3) rfl .n) ?_
   rintro ⟨p317,c318⟩ -
   dsimp only [aq,nq,cq]
   refine e_p (zb rfl)<|e_p (zb rfl)<|zh<|zd<|zg ?_
   obtain ⟨A,hA⟩:∃z,z=a*s:=⟨_,rfl⟩
   rw [← hA]
   obtain ⟨V,hV⟩:∃z,z=b*s:=⟨_,rfl⟩
   rw [← hV]
   refine zba 1 rfl (fun hcA=> ?_)
   have hAl:(yd a).length≤(yd A).length:=by rw [hA];exact Big.len_mul_ge hs1
   have hAl2:(yd A).length≤(yd a).length+1:=by have h8:=Big.len_mul_le a s;rw [hsl] at h8;rw [hA];exact h8
   obtain ⟨m,hm⟩:∃z,(yd V).length=z+1:=⟨(yd b).length - 1,by rw [hV,hs3]⟩
   have hmb:(yd b).length=m+1:=by rw [hV,hs3] at hm;omega
   have e19:((((yd b).length:Nat):Int):Int)=(((m+1):Nat):Int):=by omega
   rw [e19]
   refine za<|e_mv rfl<|e_mv rfl<|e_p (zN yf rfl)<|e_mv rfl<|e_p (zla (z:=((((yd A).length - (m+1)):Nat):Int)) rfl rfl (w64 om))<|e_p (zI (z:=((((yd A).length - m):Nat):Int)) rfl rfl (w64 om))<|e_p (zze (lo:=((yd A).length - m)) (hi:=(yd A).length) yf sz121 rfl (.s rfl) .n (.inr ⟨_,rfl⟩) (.inl ⟨rfl,rfl⟩) om om)<|zEc (zUf 1 rfl ((yd A).length - m) ((yd A).length) om om) (fun _ _=> ?_)
   refine zE rfl rfl (.c rfl (.c rfl .n)) ce112 (zKa (s:=false) (p:=(newP p315 c316 ((yd A).length - m) 1)) (n:=((yd A).length) - ((yd A).length - m)) (cap:=(c316 - ((yd A).length - m))) (l:=(((yd A).take ((yd A).length)).drop ((yd A).length - m))) (hn:=by first|rfl|omega|(simp;done)|(simp;omega)) (ho:=by exact Big.okL_drop (Big.okL_take (yn _) _) _) (hln:=by first|rfl|omega|(simp;done)|(simp;omega))) (.c (j:=0) rfl .n) ?_
   rintro ⟨p220,c221⟩ -
   dsimp only [aq,nq,cq]
   refine e_p (zBa yg rfl ty39 rfl rfl)<|e_p (zb rfl)<|zh<|zd<|zg ?_
   obtain ⟨R0,hR0⟩:∃z,z=(yt false (yh (((yd A).take ((yd A).length)).drop ((yd A).length - m)))).natAbs:=⟨_,rfl⟩
   rw [← hR0]
   have hpt:Big.PtI A V ((yd A).length - m) [] R0:=Big.PtI.start hm om (by rw [hR0,List.take_length];have:=yx (Big.okL_drop (yn A) ((yd A).length - m));simp only [yt];omega)
   refine za<|e_mv rfl<|e_p (zN yf rfl)<|e_mv rfl<|e_p (zla (z:=((((yd A).length - (m+1)):Nat):Int)) rfl rfl (w64 om))<|e_p (zI (z:=((((yd A).length - m):Nat):Int)) rfl rfl (w64 om))<|zFa rfl rfl (zqb (r:=rI .u32) (k:=((yd A).length - m)) (x0:=0) (γ0:=()) yf inf121 rfl rfl rfl rfl om om rfl (fun g _=>by exact zG.2 dd) dd) (fun b22 _=> ?_)
   refine e_p (zb rfl)<|zh<|zd<|zg<|zg<|za<|e_mv rfl<|e_p (zN yf rfl)<|e_mv rfl<|e_p (zla (z:=((((yd A).length:Nat):Int) - (((m+1):Nat):Int))) rfl rfl (w64 om))<|e_p (zb rfl)<|zh<|zd<|zB<|zka (X:=Nat×(List Int)×Nat×(Option Addr)×Nat) (fun x:Nat×(List Int)×Nat×(Option Addr)×Nat=>Big.PtI A V x.1 x.2.1 x.2.2.1∧x.1+x.2.1.length=(yd A).length - m) (fun x=>[(10,.slice (x.2.2.2.1) ((yd (x.2.2.1)).length) (x.2.2.2.2)),(12,ya yb (((x.1:Nat):Int) - 1)),(11,.slice (some ⟨b22,0,none⟩) ((yd A).length - m) ((yd A).length - m)),(1,.slice p317 ((yd V).length) c318),(0,.slice p315 ((yd A).length) c316),(9,.int .u64 ((s:Nat):Int)),(6,ya yb (((m+1):Nat):Int)),(5,.slice none 0 0),(4,.slice none 0 0)]) (fun x=>[rowA 121 (rI .u32) (some ⟨b22,0,none⟩) ((yd A).length - m) (List.replicate x.1 0++x.2.1)]) (fun x=>[slF (rI .u32) (x.2.2.2.1) (x.2.2.2.2) (yd (x.2.2.1)),slF (rI .u32) p220 c221 (yd R0),slF (rI .u32) (newP p315 c316 ((yd A).length - m) 1) (c316 - ((yd A).length - m)) (((yd A).take ((yd A).length)).drop ((yd A).length - m)),slF (rI .u32) p317 c318 (yd V),slF (rI .u32) p315 c316 (yd A),atF b11 o12 [.int .u32 ((yd b).getD ((yd b).length - 1) 0)],slF (rI .u32) p1 c1 (yd a),slF (rI .u32) p2 c2 (yd b)]) (fun x:Nat×(List Int)×Nat×(Option Addr)×Nat=>x.1) (((yd A).length - m),([]:List Int),R0,p220,c221) (show Big.PtI A V ((yd A).length - m) ([]:List Int) R0∧((yd A).length - m)+([]:List Int).length=(yd A).length - m from by exact ⟨hpt,rfl⟩) ((.e rfl (by first|rfl|(congr 1;omega)|simp_all) (.e rfl (congrArg (Value.int .i64) om) (.of rfl))):SubM _ _) (ho:=((.e (i:=0) rfl (by simp) .n):PickO _ _ _)) ((.e (j:=0) rfl (by first|rfl|simp_all) (.of [0,1,2,3,4,5,6] rfl)):SelR _ _ _) ?_
   rintro ⟨jj,qs,R,pr,cr⟩ hI
   replace hI:Big.PtI A V jj qs R∧jj+qs.length=(yd A).length - m:=hI
   try dsimp only
   obtain ⟨hP,hql⟩:=hI
   refine zg<|zg<|za<|e_mv rfl<|e_p (zJa rfl rfl)<|zh<|zd<|zC rfl (fun hj=> ?_) (fun hj=> ?_)
   ·
    obtain ⟨j,rfl⟩:∃j,jj=j+1:=⟨jj - 1,by omega⟩
    have e23:(((((j+1):Nat):Int) - 1):Int)=((j:Nat):Int):=by omega
    rw [e23]
    have hjle:=hP.le
    have hRV:=hP.lt
    have hdn:=yo (yn A) j
    obtain ⟨d,hd⟩:∃d:Nat,(yd A).getD j 0=(d:Int):=⟨_,(Int.toNat_of_nonneg hdn.1).symm⟩
    have hd9:d<1000000000:=by omega
    have hWlt9:=Big.pt_lim hRV hd9
    have hRl:=yu (Nat.le_of_lt hRV)
    refine zA<|zd<|zg<|zB<|zg<|za<|e_mv rfl<|e_mv rfl<|e_mv rfl<|zP (x0:=((yd A).getD j 0)) 4 j rfl yf sz121 rfl rfl rfl (by first|rfl|assumption|(simp;done)|(simp;omega)|omega) rfl rfl (gD (d:=0) om) (fun b24 o25 hok26=> ?_)
    replace hok26:=zG.1 hok26
    refine e_ru (zx (j:=0) 0 ty121 rfl rfl rfl rfl) ?_
    have e27:(((yd A).getD j 0):Int)=((d:Nat):Int):=by exact hd
    rw [e27]
    refine zE rfl rfl (.c rfl (.c rfl .n)) ce146 (zWd (a:=R) (d:=d) (p0:=pr) (cap:=cr) (hb:=by first|rfl|assumption|omega|(simp;done)) (hd:=by first|rfl|assumption|omega|(simp;done))) (.c (j:=1) rfl .n) ?_
    rintro ⟨p328,c329⟩ -
    dsimp only [aq,nq,cq]
    refine e_p (zb rfl)<|zh<|zd<|zg ?_
    obtain ⟨W,hW⟩:∃z,z=(R*1000000000+d):=⟨_,rfl⟩
    rw [← hW]
    have hWlt:W<V*1000000000:=by rw [hW];exact hWlt9
    have hWl:=Big.pt_wlen hWlt hm
    have hw1:=yo (yn W) (m+1)
    have hw0:=yo (yn W) m
    have hv0:=yo (yn V) m
    have hg0:0≤(((yd W).getD (m+1) 0*1000000000+(yd W).getD m 0) / ((yd V).getD m 0+1)):=Int.ediv_nonneg om om
    have hg1:(((yd W).getD (m+1) 0*1000000000+(yd W).getD m 0) / ((yd V).getD m 0+1))≤1000000000000000000:=Int.le_trans (Int.ediv_le_self _ om) om
    refine zW (OW:=[]) (O:=[rowA 121 (rI .u32) (some ⟨b22,0,none⟩) ((yd A).length - m) (List.replicate (j+1) 0++qs)]) 100000 mixed (.then (.block (.then (.then (.block (.then .ret)))))) kr<|e_dm 0 rfl rfl rfl<|e_dm 1 rfl rfl rfl<|e_dm 4 rfl rfl rfl<|e_dm 5 rfl rfl rfl<|e_pv 6 rfl rfl (zla (z:=((m:Nat):Int)) rfl rfl (w64 om))<|e_dm 9 rfl rfl rfl<|e_dm 10 rfl rfl rfl<|e_pv 11 rfl rfl (zla (z:=((m:Nat):Int)) rfl rfl (w64 om))<|zZ (x0:=((yd V).getD m 0)) 12 rfl rfl kr kr 5 m rfl yf sz121 rfl rfl rfl (by first|rfl|assumption|(simp;done)|(simp;omega)|omega) rfl rfl (gD (d:=0) om) (fun b30 o31 hok32=> ?_)
    replace hok32:=zG.1 hok32
    refine e_u 13 rfl rfl (zx (j:=0) 0 ty121 rfl rfl rfl rfl)<|e_pv 14 rfl rfl (zK (z:=((yd V).getD m 0)) rfl (by rw [yj];rfl) yi (wu64 om))<|e_pv 15 rfl rfl (zI (z:=(((yd V).getD m 0)+1)) rfl rfl (wu64 om))<|e_one 2 (zpa rfl rfl rfl rfl (.c rfl (.c rfl .n)) ce143 (zWa (p:=p328) (n:=(yd W).length) (cap:=c329) (l:=yd W) (i:=(m+1)) (hn:=by first|rfl|assumption|omega|(simp;done)) (hi:=by first|rfl|assumption|omega|(simp;done))) (.c (j:=1) rfl .n) ?_)
    refine e_pv 3 rfl rfl (zya (z:=((yd W).getD (m+1) 0*1000000000)) rfl rfl (wu64 om))<|e_one 7 (zpa rfl rfl rfl rfl (.c rfl (.c rfl .n)) ce143 (zWa (p:=p328) (n:=(yd W).length) (cap:=c329) (l:=yd W) (i:=m) (hn:=by first|rfl|assumption|omega|(simp;done)) (hi:=by first|rfl|assumption|omega|(simp;done))) (.c (j:=1) rfl .n) ?_)
    refine e_pv 8 rfl rfl (zI (z:=(((yd W).getD (m+1) 0*1000000000)+(yd W).getD m 0)) rfl rfl (wu64 om))<|e_pv 16 rfl rfl (zhb (z:=((((yd W).getD (m+1) 0*1000000000)+(yd W).getD m 0) / (((yd V).getD m 0)+1))) rfl rfl om (by rw [quoN (z:=((((yd W).getD (m+1) 0*1000000000)+(yd W).getD m 0) / (((yd V).getD m 0)+1))) om om];exact wu64 om))<|e_pv 17 rfl rfl (zb rfl)<|zT kr<|zd<|zg ?_
    obtain ⟨g0,hg9⟩:∃g:Nat,(g:Int)=(((yd W).getD (m+1) 0*1000000000+(yd W).getD m 0) / ((yd V).getD m 0+1)):=⟨_,Int.toNat_of_nonneg hg0⟩
    obtain ⟨hgm,hgl⟩:=Big.pt_guess hWlt hm hg9
    have hVg:=yu hgm
    have e33:(((((yd W).getD (m+1) 0*1000000000)+(yd W).getD m 0) / (((yd V).getD m 0)+1)):Int)=((g0:Nat):Int):=by exact hg9.symm
    rw [e33]
    refine za<|e_mv rfl<|e_mv rfl<|e_mv rfl<|zE rfl rfl (.c rfl (.c rfl .n)) ce145 (zfc (a:=V) (d:=g0) (p0:=p317) (cap:=c318) (hb:=by first|rfl|assumption|omega|(simp;done)) (hd:=by first|rfl|assumption|omega|(simp;done))) (.c (j:=6) rfl .n) ?_
    rintro ⟨p334,c335⟩ -
    dsimp only [aq,nq,cq]
    refine zE rfl rfl (.c rfl (.c rfl .n)) ce130 (zWb (a:=W) (b:=V*g0) (p1:=p328) (c1:=c329) (p2:=p334) (c2:=c335) (hb1:=by first|rfl|assumption|omega|(simp;done)) (hb2:=by first|rfl|assumption|omega|(simp;done)) (hab:=by first|rfl|assumption|omega|(simp;done))) (.c (j:=2) rfl (.c (j:=0) rfl .n)) ?_
    rintro ⟨p336,c337⟩ -
    dsimp only [aq,nq,cq]
    refine e_p (zb rfl)<|zh<|zd<|zg<|zB<|zka (X:=Nat×Nat×(Option Addr)×Nat) (fun x:Nat×Nat×(Option Addr)×Nat=>x.2.1+V*x.1=W) (fun x=>[(10,.slice (x.2.2.1) ((yd (x.2.1)).length) (x.2.2.2)),(13,.int .u64 ((x.1:Nat):Int)),(12,ya yb ((j:Nat):Int)),(11,.slice (some ⟨b22,0,none⟩) ((yd A).length - m) ((yd A).length - m)),(1,.slice p317 ((yd V).length) c318),(0,.slice p315 ((yd A).length) c316),(9,.int .u64 ((s:Nat):Int)),(6,ya yb (((m+1):Nat):Int)),(5,.slice none 0 0),(4,.slice none 0 0)]) (fun x=>[rowA 121 (rI .u32) (some ⟨b22,0,none⟩) ((yd A).length - m) (List.replicate (j+1) 0++qs)]) (fun x=>[slF (rI .u32) (x.2.2.1) (x.2.2.2) (yd (x.2.1)),slF (rI .u32) p336 c337 (yd (W - (V*g0))),slF (rI .u32) p334 c335 (yd (V*g0)),atF b30 o31 [.int .u32 ((yd V).getD m 0)],slF (rI .u32) p328 c329 (yd W),atF b24 o25 [.int .u32 ((d:Nat):Int)],slF (rI .u32) pr cr (yd R),slF (rI .u32) p220 c221 (yd R0),slF (rI .u32) (newP p315 c316 ((yd A).length - m) 1) (c316 - ((yd A).length - m)) (((yd A).take ((yd A).length)).drop ((yd A).length - m)),slF (rI .u32) p317 c318 (yd V),slF (rI .u32) p315 c316 (yd A),atF b11 o12 [.int .u32 ((yd b).getD ((yd b).length - 1) 0)],slF (rI .u32) p1 c1 (yd a),slF (rI .u32) p2 c2 (yd b)]) (fun x:Nat×Nat×(Option Addr)×Nat=>x.2.1) (g0,(W - V*g0),p336,c337) (show (W - V*g0)+V*g0=W from by exact Nat.sub_add_cancel hgm) ((.e rfl (by first|rfl|(congr 1;omega)|simp_all) (.of rfl)):SubM _ _) (ho:=((.c (i:=0) rfl .n):PickO _ _ _)) ((.e (j:=0) rfl (by first|rfl|simp_all) (.of [0,1,2,3,4,5,6,7,8,9,10,11,12] rfl)):SelR _ _ _) ?_
    rintro ⟨g,r,p9,c9⟩ hJ
    replace hJ:r+V*g=W:=hJ
    try dsimp only
    have hgb:g<1000000000:=Nat.lt_of_mul_lt_mul_left (a:=V) om
    have hrl:=yu (show r≤W by omega)
    refine zg<|zg<|za<|e_mv rfl<|e_mv rfl<|zL rfl rfl (.c rfl (.c rfl .n)) ce129 (zcd (a:=r) (b:=V) (p1:=p9) (c1:=c9) (p2:=p317) (c2:=c318)) (.c (j:=0) rfl (.c (j:=9) rfl .n))<|e_p (zJa rfl rfl)<|zh<|zd<|zC rfl (fun hge=> ?_) (fun hge=> ?_)
    ·
     have hrV:V≤r:=by have h9:=yE.1 hge;omega
     refine zA<|zd<|zB<|zg<|za<|e_mv rfl<|e_mv rfl<|zE rfl rfl (.c rfl (.c rfl .n)) ce130 (zWb (a:=r) (b:=V) (p1:=p9) (c1:=c9) (p2:=p317) (c2:=c318) (hb1:=by first|rfl|assumption|omega|(simp;done)) (hb2:=by first|rfl|assumption|omega|(simp;done)) (hab:=by first|rfl|assumption|omega|(simp;done))) (.c (j:=0) rfl (.c (j:=9) rfl .n)) ?_
     rintro ⟨p338,c339⟩ -
     dsimp only [aq,nq,cq]
     refine e_p (zb rfl)<|zh<|zd<|za<|e_mv rfl<|e_p (zI (z:=(((g+1):Nat):Int)) rfl rfl (wu64 om))<|e_p (zb rfl)<|zh<|zO<|zda ((g+1),(r - V),p338,c339) (show (r - V)+V*(g+1)=W from by rw [Nat.mul_succ];omega) (by show r - V<r;omega) ((.e rfl (by first|rfl|(congr 1;omega)|simp_all) (.of rfl)):SubM _ _) (ho:=((.c (i:=0) rfl .n):PickO _ _ _)) ((.e (j:=0) rfl (by first|rfl|simp_all) (.of [2,3,4,5,6,7,8,9,10,11,12,13,14] rfl)):SelR _ _ _)
    ·
     have hrV:r<V:=by have h9:¬(V:Int)≤r:=fun h=>hge (yE.2 h);omega
     have hst:=hP.step hd (by rw [← hW];exact hJ) hrV
     refine zja<|zj<|zj<|zt<|zd<|za<|e_mv rfl<|e_mv rfl<|e_mv rfl<|e_p (zK (z:=((g:Nat):Int)) rfl (by rw [yi];rfl) yj (wu32 om))<|e_p (zia (j:=j) yf sz121 rfl rfl rfl om)<|zIa 0 rfl rfl rfl (zea (j:=j) (x0:=((g:Nat):Int)) (γ0:=()) rfl rfl (by first|omega|(rw [List.length_map];omega)|(simp only [List.length_set];omega)|(simp;done)|(simp;omega)) rfl rfl sz121 (fun _ _=>by exact zG.2 om)) (fun _=> .z) (fun _ _=> ?_)
     refine zh<|zO<|zd<|za<|e_mv rfl<|e_p (zla (z:=(((j:Nat):Int) - 1)) rfl rfl (w64 om))<|e_p (zb rfl)<|zh<|zda (j,(((g:Nat):Int) :: qs),r,p9,c9) (show Big.PtI A V j (((g:Nat):Int) :: qs) r∧j+(((g:Nat):Int) :: qs).length=(yd A).length - m from by exact ⟨hst,by rw [List.length_cons];omega⟩) (by show j<j+1;omega) ((.of rfl):SubM _ _) (ho:=((.e (i:=0) rfl (by rw [Big.pad_set]) .n):PickO _ _ _)) ((.of [0,7,8,9,10,11,12,13] rfl):SelR _ _ _)
   ·
    have hj0:jj=0:=by omega
    have hI0:Big.PtI A V 0 qs R:=hj0 ▸ hP
    obtain ⟨hf1,hf2⟩:=hI0.fin
    have hsc:=Big.scale_div (a:=a) (b:=b) hs1
    have hRV:=hI0.lt
    have hRl:=yu (Nat.le_of_lt hRV)
    have hz4:=Big.made_nat hI0.ok hf1
    have hok5:=hI0.ok
    refine zja<|zj<|zj<|zt<|zd<|zg<|za<|e_mv rfl<|e_mv rfl<|zE rfl rfl (.c rfl (.c rfl .n)) ce144 (zod (a:=R) (mm:=s) (p:=pr) (cap:=cr) (hb:=by first|rfl|assumption|omega|(simp;done)) (hm0:=by first|rfl|assumption|omega|(simp;done)) (hm1:=by first|rfl|assumption|omega|(simp;done))) (.c (j:=0) rfl .n) ?_
    rintro ⟨p240,c241⟩ -
    dsimp only [aq,nq,cq]
    refine e_mv rfl<|e_p (zr rfl rfl)<|e_p (zr rfl rfl)<|e_p (zb rfl)<|e_p (zb rfl)<|zh<|zd<|zg ?_
    have e42:List.replicate jj 0++qs=qs:=by rw [hj0];rfl
    rw [e42]
    refine za<|e_mv rfl<|zma 0 rfl .z<|zE rfl rfl (.c rfl (.c rfl .n)) ce112 (zKa (s:=false) (p:=some ⟨b22,0,none⟩) (n:=((yd A).length - m)) (cap:=((yd A).length - m)) (l:=qs) (hn:=by first|rfl|omega|(simp;done)|(simp;omega)) (ho:=by exact hok5) (hln:=by first|rfl|omega|(simp;done)|(simp;omega))) (.c (j:=0) rfl .n) ?_
    rintro ⟨p243,c244⟩ -
    dsimp only [aq,nq,cq]
    refine e_p (zBa yg rfl ty39 rfl rfl)<|e_mv rfl<|e_p (zb rfl)<|e_p (zb rfl)<|zh<|zd<|zH ?_
    have hr9:R / s=a%b:=by rw [hf2,hA,hV,hsc.2]
    have hz5:(yt false (yh qs)).natAbs=a / b:=by rw [hz4,hA,hV,hsc.1]
    exact zra Tryz.results131 (p243,c244,p240,c241) trivial (zl rfl) (zl rfl) (by rw [hz5,hr9]) (ho:=(.n:PickO _ _ _)) ((.e (j:=0) rfl (by rw [hz5]) (.e (j:=2) rfl (by rw [hr9]) .n)):SelR _ _ _)
end Go.Proofs.YtjcpbhlijoigfaaGreat.Sp
namespace Go.Proofs.YtjcpbhlijoigfaaGreat.Sp
open Go
set_option linter.unusedVariables false
set_option maxRecDepth 100000
set_option maxHeartbeats 8000000
theorem zJe {s:Bool} {p1:Option Addr} {n1:Nat} {c1:Nat} {l1:List Int} {t:Bool} {p2:Option Addr} {n2:Nat} {c2:Nat} {l2:List Int} (hn1:l1.length=n1) (hn2:l2.length=n2) (hm1:n1≤549755813888) (hm2:n2≤549755813888):Con ym 109 [.agg #[.bool s,.slice p1 n1 c1],.agg #[.bool t,.slice p2 n2 c2]] [] [slF (rI .u32) p1 c1 l1,slF (rI .u32) p2 c2 l2] (Y:=(Option Addr)×Nat) (fun y=>True) (fun y=> .agg #[.bool (decide (((Nat.gcd (ye s l1).natAbs (ye t l2).natAbs:Nat):Int)<0)),.slice (y.1) ((yd (((Nat.gcd (ye s l1).natAbs (ye t l2).natAbs:Nat):Int).natAbs)).length) (y.2)]) (fun y=>[]) (fun y=>[slF (rI .u32) (y.1) (y.2) (yd (((Nat.gcd (ye s l1).natAbs (ye t l2).natAbs:Nat):Int).natAbs))]):=by
 refine zm Tryz.func109 rfl rfl rfl (fun c=> ?_)
 show RunC _ _ _ _ _ [(0,.agg #[.bool s,.slice p1 n1 c1]),(1,.agg #[.bool t,.slice p2 n2 c2])] [] [slF (rI .u32) p1 c1 l1,slF (rI .u32) p2 c2 l2]
 refine zba 0 rfl (fun hL0=> ?_)
 refine zSa 0 rfl (fun hE0=> ?_)
 refine zba 1 rfl (fun hL1=> ?_)
 refine zSa 1 rfl (fun hE1=> ?_)
 have hnn1:yF l1:=fun g hg=>(zG.1 (hE0 g hg)).1
 have hnn2:yF l2:=fun g hg=>(zG.1 (hE1 g hg)).1
 have hb1:yl (ye s l1)≤n1:=by have:=yD (s:=s) hnn1;omega
 have hb2:yl (ye t l2)≤n2:=by have:=yD (s:=t) hnn2;omega
 unfold yl at hb1 hb2
 refine zg<|za<|zM rfl rfl (zR rfl rfl) (fun b1=> ?_)
 refine zM rfl rfl (zR rfl rfl) (fun b2=> ?_)
 refine zM rfl rfl (zn zr41 rfl) (fun b3=> ?_)
 refine zh<|zd<|zg<|zW (OW:=[]) (O:=[boxA b3 41 [wz.b,wz.l],boxA b2 41 [.bool t,.slice p2 n2 c2],boxA b1 41 [.bool s,.slice p1 n1 c1]]) 100000 mixed (.then .ret) kr<|e_u 0 rfl rfl (zc 2 ty41 rfl rfl (.t2 .nil))<|e_u 3 rfl rfl (zc 1 ty41 rfl rfl (.t2 .nil))<|e_one 1 (zw rfl rfl rfl rfl (.c rfl .n) ce111 (zPa (s:=s) (p:=p1) (n:=n1) (cap:=c1) (l:=l1) (hn:=ass) (hln:=cbo)) (.c (j:=0) rfl .n) ?_)
 rintro ⟨p24,c25⟩ -
 dsimp only [aq,nq,cq]
 refine e_pv 2 rfl rfl (zBa yg rfl ty39 rfl rfl)<|e_one 4 (zw rfl rfl rfl rfl (.c rfl .n) ce111 (zPa (s:=t) (p:=p2) (n:=n2) (cap:=c2) (l:=l2) (hn:=ass) (hln:=cbo)) (.c (j:=2) rfl .n) ?_)
 rintro ⟨p26,c27⟩ -
 dsimp only [aq,nq,cq]
 refine e_pv 5 rfl rfl (zBa yg rfl ty39 rfl rfl)<|e_pv 6 rfl rfl (zb rfl)<|e_pv 7 rfl rfl (zb rfl)<|zT kr<|zd<|zg<|zB<|zka (X:=Nat×Nat×(Option Addr)×Nat×(Option Addr)×Nat) (fun x:Nat×Nat×(Option Addr)×Nat×(Option Addr)×Nat=>Nat.gcd x.1 x.2.1=Nat.gcd (ye s l1).natAbs (ye t l2).natAbs∧(yd x.1).length≤549755813888∧(yd x.2.1).length≤549755813888) (fun x=>[(6,.slice (x.2.2.2.2.1) ((yd (x.2.1)).length) (x.2.2.2.2.2)),(5,.slice (x.2.2.1) ((yd (x.1)).length) (x.2.2.2.1)),(4,yc (some ⟨b3,0,none⟩))]) (fun x=>[boxA b3 41 [wz.b,wz.l],boxA b2 41 [.bool t,.slice p2 n2 c2],boxA b1 41 [.bool s,.slice p1 n1 c1]]) (fun x=>[slF (rI .u32) (x.2.2.1) (x.2.2.2.1) (yd (x.1)),slF (rI .u32) (x.2.2.2.2.1) (x.2.2.2.2.2) (yd (x.2.1)),slF (rI .u32) p26 c27 (yd ((ye t l2).natAbs)),slF (rI .u32) p24 c25 (yd ((ye s l1).natAbs)),slF (rI .u32) p1 c1 l1,slF (rI .u32) p2 c2 l2]) (fun x:Nat×Nat×(Option Addr)×Nat×(Option Addr)×Nat=>x.2.1) ((ye s l1).natAbs,(ye t l2).natAbs,p24,c25,p26,c27) (show Nat.gcd ((ye s l1).natAbs) ((ye t l2).natAbs)=Nat.gcd (ye s l1).natAbs (ye t l2).natAbs∧(yd ((ye s l1).natAbs)).length≤549755813888∧(yd ((ye t l2).natAbs)).length≤549755813888 from by exact ⟨rfl,by omega,by omega⟩) ((.of rfl):SubM _ _) (ho:=((.of [0,0,0] rfl):PickO _ _ _)) ((.of [1,0,0,1,2,3] rfl):SelR _ _ _) ?_
 rintro ⟨a,b,pa,ca,pb,cb⟩ hI
 replace hI:Nat.gcd a b=Nat.gcd (ye s l1).natAbs (ye t l2).natAbs∧(yd a).length≤549755813888∧(yd b).length≤549755813888:=hI
 try dsimp only
 obtain ⟨hgc,hba,hbb⟩:=hI
 refine zg<|zEa (X:=Unit) (fun x=>True) (fun x=>[(29,.bool (decide (0<(yd b).length∧(2<(yd a).length∨2<(yd b).length)))),(6,.slice pb ((yd b).length) cb),(5,.slice pa ((yd a).length) ca),(4,yc (some ⟨b3,0,none⟩))]) (fun x=>[boxA b3 41 [wz.b,wz.l],boxA b2 41 [.bool t,.slice p2 n2 c2],boxA b1 41 [.bool s,.slice p1 n1 c1]]) (fun x=>[slF (rI .u32) pa ca (yd a),slF (rI .u32) pb cb (yd b),slF (rI .u32) p26 c27 (yd ((ye t l2).natAbs)),slF (rI .u32) p24 c25 (yd ((ye s l1).natAbs)),slF (rI .u32) p1 c1 l1,slF (rI .u32) p2 c2 l2]) ?_ ?_
 ·
  refine za<|e_mv rfl<|e_p (zN yf rfl)<|e_p (zAa rfl rfl)<|zaa rfl rfl (zX rfl) (fun h8=> ?_) (fun h8=> ?_)
  ·
   refine e_mv rfl<|e_p (zN yf rfl)<|e_p (zAa rfl rfl)<|zaa rfl rfl (zX rfl) (fun h9=> ?_) (fun h9=> ?_)
   ·
    refine e_no<|e_no<|e_no<|e_p (zo rfl rfl)<|e_p (zo rfl rfl)<|zh ?_
    exact zga () (show True from by first|trivial|omega|simp_all) ((.e rfl (congrArg Value.bool (by first|(simp;omega)|exact decide_eq_decide.2 ⟨fun h=>⟨by omega,.inr om⟩,fun h=>by omega⟩)) (.of rfl)):SubM _ _) (ho:=((.of [0,0,0] rfl):PickO _ _ _)) ((.of [0,1,2,3,4,5] rfl):SelR _ _ _)
   ·
    refine e_mv rfl<|e_p (zN yf rfl)<|e_p (zAa rfl rfl)<|e_p (zo rfl rfl)<|e_p (zo rfl rfl)<|zh ?_
    exact zga () (show True from by first|trivial|omega|simp_all) ((.e rfl (congrArg Value.bool (by first|(simp;omega)|exact decide_eq_decide.2 ⟨fun h=>⟨by omega,.inr om⟩,fun h=>by omega⟩)) (.of rfl)):SubM _ _) (ho:=((.of [0,0,0] rfl):PickO _ _ _)) ((.of [0,1,2,3,4,5] rfl):SelR _ _ _)
  ·
   refine e_no<|e_no<|e_no<|e_no<|e_no<|e_no<|e_no<|e_no<|e_p (zo rfl rfl)<|zh ?_
   exact zga () (show True from by first|trivial|omega|simp_all) ((.e rfl (congrArg Value.bool (by first|(simp;omega)|exact decide_eq_decide.2 ⟨fun h=>⟨by omega,.inr om⟩,fun h=>by omega⟩)) (.of rfl)):SubM _ _) (ho:=((.of [0,0,0] rfl):PickO _ _ _)) ((.of [0,1,2,3,4,5] rfl):SelR _ _ _)
 ·
  rintro ⟨⟩ -
  try dsimp only
  refine zC rfl (fun hw=> ?_) (fun hw=> ?_)
  ·
   have hb0:0<b:=Nat.pos_of_ne_zero (fun e=>by rw [e] at hw;simp [Big.digs_zero] at hw)
   refine zA<|zd<|zB<|zg<|za<|e_mv rfl<|e_mv rfl<|zE rfl rfl (.c rfl (.c rfl .n)) ce131 (zpd (a:=a) (b:=b) (p1:=pa) (c1:=ca) (p2:=pb) (c2:=cb) (hb1:=cbo) (hb2:=cbo) (hb0:=cbo)) (.c (j:=0) rfl (.c (j:=1) rfl .n)) ?_
   rintro ⟨p310,c311,p412,c413⟩ -
   dsimp only [aq,nq,cq]
   refine e_mv rfl<|e_p (zr rfl rfl)<|e_p (zr rfl rfl)<|e_p (zb rfl)<|e_p (zb rfl)<|zh<|zd<|za<|e_mv rfl<|e_mv rfl<|e_p (zb rfl)<|e_p (zb rfl)<|zh<|zO<|zda (b,(a%b),pb,cb,p412,c413) (show Nat.gcd b (a%b)=Nat.gcd (ye s l1).natAbs (ye t l2).natAbs∧(yd b).length≤549755813888∧(yd (a%b)).length≤549755813888 from by exact ⟨by rw [Big.gcd_rest,hgc],hbb,Nat.le_trans (yu (Nat.le_of_lt (Nat.mod_lt a hb0))) hbb⟩) (by exact Nat.mod_lt a hb0) ((.e rfl (by first|rfl|(congr 1;omega)|simp_all) (.c rfl (.c rfl .n))):SubM _ _) (ho:=((.of [0,0,0] rfl):PickO _ _ _)) ((.c (j:=3) rfl (.e (j:=1) rfl (by first|rfl|simp_all) (.of [4,5,6,7] rfl))):SelR _ _ _)
  ·
   refine zja<|zj<|zj<|zt<|zd<|zg<|zg<|za<|e_mv rfl<|e_p (zN yf rfl)<|e_p (zua rfl rfl)<|zh<|zd<|zC rfl (fun hbz=> ?_) (fun hbz=> ?_)
   ·
    have hbz0:b=0:=yA.1 om
    have hfin:a=Nat.gcd (ye s l1).natAbs (ye t l2).natAbs:=by rw [← hgc,hbz0,Nat.gcd_zero_right]
    refine zg<|za<|e_mv rfl<|zE rfl rfl (.c rfl (.c rfl .n)) ce112 (znb (s:=false) (a:=a) (p:=pa) (cap:=ca) (hln:=cbo)) (.c (j:=0) rfl .n) ?_
    rintro ⟨p214,c215⟩ -
    dsimp only [aq,nq,cq]
    refine zk 0 rfl rfl rfl rfl rfl sz41 rfl (.t2 .nil) .z<|zh<|zd<|zH<|zi ?_
    exact zy Tryz.results109 (p214,c215) trivial (zu 0 ty41 rfl rfl (.t2 .nil)) (by rw [← hfin];rfl) (ho:=(.n:PickO _ _ _)) ((.e (j:=0) rfl (by rw [← hfin];rfl) .n):SelR _ _ _)
   ·
    have ha2:(yd a).length≤2:=by omega
    have hb2:(yd b).length≤2:=by omega
    have ha18:=Big.two_lt ha2
    have hb18:=Big.two_lt hb2
    refine zA<|zd<|zg<|za<|e_mv rfl<|zL rfl rfl (.c rfl .n) ce132 (zXd (a:=a) (p:=pa) (cap:=ca) (hb:=cbo)) (.c (j:=0) rfl .n)<|e_mv rfl<|zL rfl rfl (.c rfl .n) ce132 (zXd (a:=b) (p:=pb) (cap:=cb) (hb:=cbo)) (.c (j:=1) rfl .n)<|e_p (zb rfl)<|e_p (zb rfl)<|zh<|zd<|zg<|zB<|zka (X:=Nat×Nat) (fun x:Nat×Nat=>Nat.gcd x.1 x.2=Nat.gcd a b∧x.1<1000000000000000000∧x.2<1000000000000000000) (fun x=>[(10,.int .u64 ((x.2:Nat):Int)),(9,.int .u64 ((x.1:Nat):Int)),(4,yc (some ⟨b3,0,none⟩))]) (fun x=>[boxA b3 41 [wz.b,wz.l],boxA b2 41 [.bool t,.slice p2 n2 c2],boxA b1 41 [.bool s,.slice p1 n1 c1]]) (fun x=>[slF (rI .u32) pa ca (yd a),slF (rI .u32) pb cb (yd b),slF (rI .u32) p26 c27 (yd ((ye t l2).natAbs)),slF (rI .u32) p24 c25 (yd ((ye s l1).natAbs)),slF (rI .u32) p1 c1 l1,slF (rI .u32) p2 c2 l2]) (fun x:Nat×Nat=>x.2) (a,b) (show Nat.gcd a b=Nat.gcd a b∧a<1000000000000000000∧b<1000000000000000000 from by exact ⟨rfl,ha18,hb18⟩) ((.of rfl):SubM _ _) (ho:=((.of [0,0,0] rfl):PickO _ _ _)) ((.of [0,1,2,3,4,5] rfl):SelR _ _ _) ?_
    rintro ⟨q,r⟩ hJ
    replace hJ:Nat.gcd q r=Nat.gcd a b∧q<1000000000000000000∧r<1000000000000000000:=hJ
    try dsimp only
    obtain ⟨hgq,hq18,hr18⟩:=hJ
    have hmr:=Nat.mod_le q r
    refine zg<|zg<|za<|e_mv rfl<|e_p (zAa rfl rfl)<|zh<|zd<|zC rfl (fun hy=> ?_) (fun hy=> ?_)
    ·
     refine zA<|zd<|zB<|zW (OW:=[]) (O:=[boxA b3 41 [wz.b,wz.l],boxA b2 41 [.bool t,.slice p2 n2 c2],boxA b1 41 [.bool s,.slice p1 n1 c1]]) 100000 mixed (.block (.then (.block (.then .ret)))) kr<|e_dm 0 rfl rfl rfl<|e_dm 1 rfl rfl rfl<|e_dm 2 rfl rfl rfl<|e_pv 3 rfl rfl (zwa (z:=(((q%r):Nat):Int)) rfl rfl om (remN om om))<|e_pv 4 rfl rfl (zb rfl)<|e_pv 5 rfl rfl (zb rfl)<|zT kr<|zO<|zda (r,(q%r)) (show Nat.gcd r (q%r)=Nat.gcd a b∧r<1000000000000000000∧(q%r)<1000000000000000000 from by exact ⟨by rw [Big.gcd_rest,hgq],hr18,by omega⟩) (by exact Nat.mod_lt q om) ((.of rfl):SubM _ _) (ho:=((.of [0,0,0] rfl):PickO _ _ _)) ((.of [0,1,2,3,4,5] rfl):SelR _ _ _)
    ·
     have hrz:r=0:=by omega
     have hfin:q=Nat.gcd (ye s l1).natAbs (ye t l2).natAbs:=by rw [← hgc,←hgq,hrz,Nat.gcd_zero_right]
     obtain ⟨ht1,ht2⟩:=Big.two_val hq18
     refine zja<|zj<|zj<|zt<|zd<|zg<|za<|e_mv rfl<|e_p (zwa (z:=(((q%1000000000):Nat):Int)) rfl rfl om (remN om om))<|e_p (zK (z:=(((q%1000000000):Nat):Int)) rfl (by rw [yi];rfl) yj (wu32 om))<|e_mv rfl<|e_p (zhb (z:=(((q / 1000000000):Nat):Int)) rfl rfl om (by rw [quoN (z:=(((q / 1000000000):Nat):Int)) om om];exact wu64 om))<|e_p (zK (z:=(((q / 1000000000):Nat):Int)) rfl (by rw [yi];rfl) yj (wu32 om))<|zFa rfl rfl (zV (enc:=fun z:Int=>[.int .u32 z]) (ok:=InK .u32) (h1:=fun _=>rfl) (h2:=fun _=>rfl) (k:=2) yf inf121 rfl dd dd dd (.c (x:=(((q%1000000000):Nat):Int)) rfl rfl (fun _ _=>by exact zG.2 om) (.c (x:=(((q / 1000000000):Nat):Int)) rfl rfl (fun _ _=>by exact zG.2 om) .n))) (fun b16 _=> ?_)
     refine zma 0 rfl .z<|zE rfl rfl (.c rfl (.c rfl .n)) ce112 (zKa (s:=false) (p:=some ⟨b16,0,none⟩) (n:=2) (cap:=2) (l:=[(((q%1000000000):Nat):Int),(((q / 1000000000):Nat):Int)]) (hn:=by first|rfl|omega|(simp;done)|(simp;omega)) (ho:=by exact ht1) (hln:=by first|rfl|omega|(simp;done)|(simp;omega))) (.c (j:=0) rfl .n) ?_
     rintro ⟨p217,c218⟩ -
     dsimp only [aq,nq,cq]
     refine zk 1 rfl rfl rfl rfl rfl sz41 rfl (.t2 .nil) (.s .z)<|zh<|zd<|zH ?_
     exact zy Tryz.results109 (p217,c218) trivial (zu 1 ty41 rfl rfl (.t2 .nil)) (by rw [ht2,←hfin];rfl) (ho:=(.n:PickO _ _ _)) ((.e (j:=0) rfl (by rw [ht2,←hfin];rfl) .n):SelR _ _ _)
theorem zOf {x1:Int} {x2:Int} {p1:Option Addr} {c1:Nat} {p2:Option Addr} {c2:Nat} (hb1:yl x1≤549755813888) (hb2:yl x2≤549755813888):Con ym 109 [.agg #[.bool (decide ((x1)<0)),.slice (p1) ((yd ((x1).natAbs)).length) (c1)],.agg #[.bool (decide ((x2)<0)),.slice (p2) ((yd ((x2).natAbs)).length) (c2)]] [] [slF (rI .u32) (p1) (c1) (yd ((x1).natAbs)),slF (rI .u32) (p2) (c2) (yd ((x2).natAbs))] (Y:=(Option Addr)×(Nat)) (fun y=>True) (fun y=> .agg #[.bool (decide ((((Nat.gcd x1.natAbs x2.natAbs:Nat):Int))<0)),.slice (y.1) ((yd ((((Nat.gcd x1.natAbs x2.natAbs:Nat):Int)).natAbs)).length) (y.2)]) (fun y=>[]) (fun y=>[slF (rI .u32) (y.1) (y.2) (yd ((((Nat.gcd x1.natAbs x2.natAbs:Nat):Int)).natAbs))]):=by
  have h:= @zJe (decide ((x1)<0)) p1 (yd (x1).natAbs).length c1 (yd (x1).natAbs) (decide ((x2)<0)) p2 (yd (x2).natAbs).length c2 (yd (x2).natAbs) rfl rfl hb1 hb2
  rw [yq,yq] at h
  exact h
theorem zPf {w1:Wd} {w2:Wd} {x1:Int} {x2:Int} (hb1:yl x1≤549755813888) (hb2:yl x2≤549755813888):Con ym 109 [.agg #[w1.b,w1.l],.agg #[w2.b,w2.l]] [] [zF w1 (x1),zF w2 (x2)] (Y:=(Wd)) (fun y=>True) (fun y=> .agg #[y.b,y.l]) (fun y=>[]) (fun y=>[zF y (((Nat.gcd x1.natAbs x2.natAbs:Nat):Int))]):=by
  exact zYb (zIc (fun p1 c1 p2 c2=>zOf hb1 hb2))
theorem zYd {s:Bool} {p1:Option Addr} {n1:Nat} {c1:Nat} {l1:List Int} {t:Bool} {p2:Option Addr} {n2:Nat} {c2:Nat} {l2:List Int} (hn1:l1.length=n1) (hn2:l2.length=n2) (hm1:n1≤549755813888) (hm2:n2≤549755813888):Con ym 123 [.agg #[.bool s,.slice p1 n1 c1],.agg #[.bool t,.slice p2 n2 c2]] [] [slF (rI .u32) p1 c1 l1,slF (rI .u32) p2 c2 l2] (Y:=Unit) (fun y=>True) (fun y=> ya yb ((ye s l1 - ye t l2).sign)) (fun y=>[]) (fun y=>[]):=by
 refine zm Tryz.func123 rfl rfl rfl (fun c=> ?_)
 show RunC _ _ _ _ _ [(0,.agg #[.bool s,.slice p1 n1 c1]),(1,.agg #[.bool t,.slice p2 n2 c2])] [] [slF (rI .u32) p1 c1 l1,slF (rI .u32) p2 c2 l2]
 refine zba 0 rfl (fun hL0=> ?_)
 refine zSa 0 rfl (fun hE0=> ?_)
 refine zba 1 rfl (fun hL1=> ?_)
 refine zSa 1 rfl (fun hE1=> ?_)
 have hnn1:yF l1:=fun g hg=>(zG.1 (hE0 g hg)).1
 have hnn2:yF l2:=fun g hg=>(zG.1 (hE1 g hg)).1
 have hb1:yl (ye s l1)≤n1:=by have:=yD (s:=s) hnn1;omega
 have hb2:yl (ye t l2)≤n2:=by have:=yD (s:=t) hnn2;omega
 unfold yl at hb1 hb2
 have hls:=Big.ln_sub (ye s l1) (ye t l2)
 unfold yl at hls
 refine zg<|za<|zM rfl rfl (zR rfl rfl) (fun b1=> ?_)
 refine zM rfl rfl (zR rfl rfl) (fun b2=> ?_)
 refine e_p (zb rfl)<|zh<|zd<|zg<|za<|e_ru (zc 1 ty41 rfl rfl (.t2 .nil))<|e_ru (zc 0 ty41 rfl rfl (.t2 .nil))<|zE rfl rfl (.c rfl (.c rfl .n)) ce133 (zIe (s:=s) (p1:=p1) (n1:=n1) (c1:=c1) (l1:=l1) (t:=t) (p2:=p2) (n2:=n2) (c2:=c2) (l2:=l2) (hn1:=ass) (hn2:=ass) (hm1:=by first|rfl|assumption|omega|(unfold yl;omega)) (hm2:=by first|rfl|assumption|omega|(unfold yl;omega))) (.c (j:=0) rfl (.c (j:=1) rfl .n)) ?_
 rintro ⟨p33,c34⟩ -
 dsimp only [aq,nq,cq]
 refine zL rfl rfl (.c rfl .n) ce105 (znd (z:=ye s l1 - ye t l2) (p:=p33) (cap:=c34) (hln:=by first|rfl|assumption|omega|(unfold yl;omega))) (.c (j:=0) rfl .n)<|e_p (zb rfl)<|zh<|zd<|zH ?_
 exact zy Tryz.results123 () trivial (zl rfl) rfl (ho:=(.n:PickO _ _ _)) (.n:SelR _ _ _)
theorem zCd {x1:Int} {x2:Int} {p1:Option Addr} {c1:Nat} {p2:Option Addr} {c2:Nat} (hb1:yl x1≤549755813888) (hb2:yl x2≤549755813888):Con ym 123 [.agg #[.bool (decide ((x1)<0)),.slice (p1) ((yd ((x1).natAbs)).length) (c1)],.agg #[.bool (decide ((x2)<0)),.slice (p2) ((yd ((x2).natAbs)).length) (c2)]] [] [slF (rI .u32) (p1) (c1) (yd ((x1).natAbs)),slF (rI .u32) (p2) (c2) (yd ((x2).natAbs))] (Y:=Unit) (fun y=>True) (fun y=> ya yb ((x1 - x2).sign)) (fun y=>[]) (fun y=>[]):=by
  have h:= @zYd (decide ((x1)<0)) p1 (yd (x1).natAbs).length c1 (yd (x1).natAbs) (decide ((x2)<0)) p2 (yd (x2).natAbs).length c2 (yd (x2).natAbs) rfl rfl hb1 hb2
  rw [yq,yq] at h
  exact h
theorem zZd {x1:Int} {x2:Int} {p1:Option Addr} {c1:Nat} {p2:Option Addr} {c2:Nat} (hb1:yl x1≤274877906944) (hb2:yl x2≤274877906944) (hy:x2≠0):Con ym 110 [.agg #[.bool (decide (x1<0)),.slice p1 ((yd ((x1).natAbs)).length) c1],.agg #[.bool (decide (x2<0)),.slice p2 ((yd ((x2).natAbs)).length) c2]] [] [slF (rI .u32) p1 c1 (yd ((x1).natAbs)),slF (rI .u32) p2 c2 (yd ((x2).natAbs))] (Y:=(Option Addr)×Nat×(Option Addr)×Nat) (fun y=>True) (fun y=> .tuple #[.agg #[.bool (decide ((yv x1 x2)<0)),.slice (y.1) ((yd ((yv x1 x2).natAbs)).length) (y.2.1)],.agg #[.bool (decide ((yH x1 x2)<0)),.slice (y.2.2.1) ((yd ((yH x1 x2).natAbs)).length) (y.2.2.2)],ya yb 0]) (fun y=>[]) (fun y=>[slF (rI .u32) (y.1) (y.2.1) (yd ((yv x1 x2).natAbs)),slF (rI .u32) (y.2.2.1) (y.2.2.2) (yd ((yH x1 x2).natAbs))]):=by
 refine zm Tryz.func110 rfl rfl rfl (fun c=> ?_)
 show RunC _ _ _ _ _ [(0,.agg #[.bool (decide (x1<0)),.slice p1 ((yd ((x1).natAbs)).length) c1]),(1,.agg #[.bool (decide (x2<0)),.slice p2 ((yd ((x2).natAbs)).length) c2])] [] [slF (rI .u32) p1 c1 (yd ((x1).natAbs)),slF (rI .u32) p2 c2 (yd ((x2).natAbs))]
 refine zba 0 rfl (fun hL0=> ?_)
 refine zba 1 rfl (fun hL1=> ?_)
 have hfl:=Big.ln_fq (x:=x1) hy
 have hml:=Big.zHa (yv x1 x2) x2
 unfold yl at hb1 hb2 hfl hml
 have hd1:=Nat.div_le_self x1.natAbs x2.natAbs
 have hd2:=Nat.mod_lt x1.natAbs (show 0<x2.natAbs by omega)
 have hl1:=yu hd1
 have hl2:=yu (Nat.le_of_lt hd2)
 refine zg<|za<|zM rfl rfl (zR rfl rfl) (fun b1=> ?_)
 refine zM rfl rfl (zR rfl rfl) (fun b2=> ?_)
 refine zM rfl rfl (zn zr41 rfl) (fun b3=> ?_)
 refine zM rfl rfl (zn zr41 rfl) (fun b4=> ?_)
 refine e_p (zb rfl)<|zh<|zd<|zg<|zqa (.c (i:=3) rfl (.c (i:=2) rfl (.c (i:=0) rfl (.c (i:=0) rfl .n))))<|zW (OW:=[boxA b1 41 [.bool (decide (x1<0)),.slice p1 ((yd ((x1).natAbs)).length) c1],boxA b2 41 [.bool (decide (x2<0)),.slice p2 ((yd ((x2).natAbs)).length) c2]]) (O:=[boxA b4 41 [wz.b,wz.l],boxA b3 41 [wz.b,wz.l]]) 4 mixed (.then .ret) kr<|e_uw 0 rfl rfl (zc 0 ty41 rfl rfl (.t2 .nil))<|e_uw 2 rfl rfl (zc 1 ty41 rfl rfl (.t2 .nil))<|e_one 1 (zw rfl rfl rfl rfl (.c rfl .n) ce111 (zbd (z:=x1) (p:=p1) (cap:=c1) (hln:=by first|rfl|assumption|omega|(unfold yl;omega)|(unfold yl;rw [hsq];omega)|(decide +kernel))) (.c (j:=0) rfl .n) ?_)
 rintro ⟨p25,c26⟩ -
 dsimp only [aq,nq,cq]
 refine e_one 3 (zw rfl rfl rfl rfl (.c rfl .n) ce111 (zbd (z:=x2) (p:=p2) (cap:=c2) (hln:=by first|rfl|assumption|omega|(unfold yl;omega)|(unfold yl;rw [hsq];omega)|(decide +kernel))) (.c (j:=2) rfl .n) ?_)
 rintro ⟨p27,c28⟩ -
 dsimp only [aq,nq,cq]
 refine e_one 4 (zv kr rfl rfl rfl rfl rfl sz41 rfl (.t2 .nil) ?_)
 refine zQa (zca (i:=1) rfl)<|e_one 5 (zv kr rfl rfl rfl rfl rfl sz41 rfl (.t2 .nil) ?_)
 refine zT kr<|zd<|zg<|zg<|za<|e_p (ze yg rfl sz39 rfl rfl)<|e_ru (zf 0 ty39 rfl rfl rfl)<|e_p (zN yf rfl)<|e_p (zua rfl rfl)<|zh<|zd<|zC rfl (fun h9=> ?_) (fun h9=> ?_)
 ·
  exact absurd (yA.1 (show (yd x2.natAbs).length=0 by omega)) om
 ·
  refine zA<|zd<|zg<|za<|e_p (ze yg rfl sz39 rfl rfl)<|e_ru (zf 1 ty39 rfl rfl rfl)<|e_p (ze yg rfl sz39 rfl rfl)<|e_ru (zf 0 ty39 rfl rfl rfl)<|zE rfl rfl (.c rfl (.c rfl .n)) ce131 (zpd (a:=(x1).natAbs) (b:=(x2).natAbs) (p1:=p25) (c1:=c26) (p2:=p27) (c2:=c28) (hb1:=by first|rfl|assumption|omega|(unfold yl;omega)|(unfold yl;rw [hsq];omega)|(decide +kernel)) (hb2:=by first|rfl|assumption|omega|(unfold yl;omega)|(unfold yl;rw [hsq];omega)|(decide +kernel)) (hb0:=by first|rfl|assumption|omega|(unfold yl;omega)|(unfold yl;rw [hsq];omega)|(decide +kernel))) (.c (j:=1) rfl (.c (j:=0) rfl .n)) ?_
  rintro ⟨p310,c311,p412,c413⟩ -
  dsimp only [aq,nq,cq]
  refine e_mv rfl<|e_p (zr rfl rfl)<|e_p (zr rfl rfl)<|e_p (zb rfl)<|e_p (zb rfl)<|zh<|zd<|zg ?_
  obtain ⟨Q,hQ⟩:∃z,z=((x1).natAbs) / ((x2).natAbs):=⟨_,rfl⟩
  rw [← hQ]
  obtain ⟨R0,hR0⟩:∃z,z=((x1).natAbs)%((x2).natAbs):=⟨_,rfl⟩
  rw [← hR0]
  rw [← hQ] at hl1
  rw [← hR0] at hl2
  have hsq:(yt (decide (decide (x1<0)≠decide (x2<0))) (Q:Int)).natAbs=Q:=by rw [yG om];exact Int.toNat_natCast _
  refine za<|e_p (ze yg rfl sz4 rfl rfl)<|e_ru (zf 1 ty4 rfl rfl rfl)<|e_p (ze yg rfl sz4 rfl rfl)<|e_ru (zf 0 ty4 rfl rfl rfl)<|e_p (zNa yB rfl rfl)<|e_mv rfl<|zE rfl rfl (.c rfl (.c rfl .n)) ce112 (znb (s:=decide (decide (x1<0)≠decide (x2<0))) (a:=Q) (p:=p310) (cap:=c311) (hln:=by first|rfl|assumption|omega|(unfold yl;omega)|(unfold yl;rw [hsq];omega)|(decide +kernel))) (.c (j:=0) rfl .n) ?_
  rintro ⟨p214,c215⟩ -
  dsimp only [aq,nq,cq]
  refine zM rfl rfl (zn zr41 rfl) (fun b16=> ?_)
  refine zk 0 rfl rfl rfl rfl rfl sz41 rfl (.t2 .nil) .z<|zh<|zd<|zg<|zg<|za<|e_p (ze yg rfl sz4 rfl rfl)<|e_ru (zf 2 ty4 rfl rfl rfl)<|e_p (ze yg rfl sz4 rfl rfl)<|e_ru (zf 1 ty4 rfl rfl rfl)<|e_p (zNa yB rfl rfl)<|zaa rfl rfl (zX rfl) (fun hsd=> ?_) (fun hsd=> ?_)
  ·
   refine e_mv rfl<|e_p (zN yf rfl)<|e_p (zAa rfl rfl)<|e_p (zo rfl rfl)<|zh<|zd<|zC rfl (fun hadj=> ?_) (fun hadj=> ?_)
   ·
    have hr0:x1.natAbs%x2.natAbs≠0:=fun e=>by rw [hR0,e,Big.digs_zero] at hadj;exact absurd hadj dd
    have hqz:yt (decide (decide (x1<0)≠decide (x2<0))) (Q:Int) - 1=yv x1 x2:=by have h9:=(Big.fq_odd hy hsd hr0).1;rw [← h9,decide_eq_true hsd,hQ,Big.sg_t,Big.sg_t];omega
    refine zW (OW:=[boxA b16 41 [.bool (decide ((yt (decide (decide (x1<0)≠decide (x2<0))) (Q:Int))<0)),.slice p214 ((yd ((yt (decide (decide (x1<0)≠decide (x2<0))) (Q:Int)).natAbs)).length) c215]]) (O:=[boxA b2 41 [.bool (decide (x2<0)),.slice p27 ((yd ((x2).natAbs)).length) c28],boxA b1 41 [.bool (decide (x1<0)),.slice p25 ((yd ((x1).natAbs)).length) c26],boxA b4 41 [wz.b,wz.l],boxA b3 41 [wz.b,wz.l]]) 3 mixed (.then .ret) kr<|e_uw 0 rfl rfl (zc 0 ty41 rfl rfl (.t2 .nil))<|e_one 1 (zw rfl rfl rfl rfl (.c rfl .n) ce113 (zJf (z:=1) (hz:=by first|rfl|assumption|omega|(unfold yl;omega)|(unfold yl;rw [hsq];omega)|(decide +kernel))) (.n) ?_)
    rintro ⟨p217,c218⟩ -
    dsimp only [aq,nq,cq]
    refine e_one 2 (zw rfl rfl rfl rfl (.c rfl (.c rfl .n)) ce133 (ztc (x1:=yt (decide (decide (x1<0)≠decide (x2<0))) (Q:Int)) (x2:=1) (p1:=p214) (c1:=c215) (p2:=p217) (c2:=c218) (hb1:=by first|rfl|assumption|omega|(unfold yl;omega)|(unfold yl;rw [hsq];omega)|(decide +kernel)) (hb2:=by first|rfl|assumption|omega|(unfold yl;omega)|(unfold yl;rw [hsq];omega)|(decide +kernel))) (.c (j:=1) rfl (.c (j:=0) rfl .n)) ?_)
    rintro ⟨p319,c320⟩ -
    dsimp only [aq,nq,cq]
    refine e_one 3 (zv kr rfl rfl rfl rfl rfl sz41 rfl (.t2 .nil) ?_)
    refine zT kr<|zd<|zg ?_
    have e21:(yt (decide (decide (x1<0)≠decide (x2<0))) (Q:Int)) - 1=yv x1 x2:=by exact hqz
    rw [e21]
    refine zqa (.c (i:=4) rfl (.c (i:=3) rfl (.c (i:=0) rfl (.c (i:=0) rfl (.c (i:=0) rfl .n)))))<|zW (OW:=[boxA b3 41 [wz.b,wz.l],boxA b4 41 [wz.b,wz.l]]) (O:=[boxA b16 41 [.bool (decide ((yv x1 x2)<0)),.slice p319 ((yd ((yv x1 x2).natAbs)).length) c320],boxA b2 41 [.bool (decide (x2<0)),.slice p27 ((yd ((x2).natAbs)).length) c28],boxA b1 41 [.bool (decide (x1<0)),.slice p25 ((yd ((x1).natAbs)).length) c26]]) 6 mixed (.then .ret) kr<|e_uw 0 rfl rfl (zc 2 ty41 rfl rfl (.t2 .nil))<|e_uw 1 rfl rfl (zc 4 ty41 rfl rfl (.t2 .nil))<|e_uw 2 rfl rfl (zc 2 ty41 rfl rfl (.t2 .nil))<|e_uw 3 rfl rfl (zc 3 ty41 rfl rfl (.t2 .nil))<|e_one 4 (zw rfl rfl rfl rfl (.c rfl (.c rfl .n)) ce73 (zuc (x1:=yv x1 x2) (x2:=x2) (p1:=p319) (c1:=c320) (p2:=p27) (c2:=c28) (hb1:=by first|rfl|assumption|omega|(unfold yl;omega)|(unfold yl;rw [hsq];omega)|(decide +kernel)) (hb2:=by first|rfl|assumption|omega|(unfold yl;omega)|(unfold yl;rw [hsq];omega)|(decide +kernel))) (.c (j:=0) rfl (.c (j:=5) rfl .n)) ?_)
    rintro ⟨p322,c323⟩ -
    dsimp only [aq,nq,cq]
    refine e_one 5 (zw rfl rfl rfl rfl (.c rfl (.c rfl .n)) ce133 (ztc (x1:=x1) (x2:=(yv x1 x2)*x2) (p1:=p25) (c1:=c26) (p2:=p322) (c2:=c323) (hb1:=by first|rfl|assumption|omega|(unfold yl;omega)|(unfold yl;rw [hsq];omega)|(decide +kernel)) (hb2:=by first|rfl|assumption|omega|(unfold yl;omega)|(unfold yl;rw [hsq];omega)|(decide +kernel))) (.c (j:=7) rfl (.c (j:=0) rfl .n)) ?_)
    rintro ⟨p324,c325⟩ -
    dsimp only [aq,nq,cq]
    refine e_one 6 (zv kr rfl rfl rfl rfl rfl sz41 rfl (.t2 .nil) ?_)
    refine zQa (zca (i:=1) rfl)<|e_one 7 (zv kr rfl rfl rfl rfl rfl sz41 rfl (.t2 .nil) ?_)
    refine e_pv 8 rfl rfl (zb rfl)<|zT kr<|zd<|zH ?_
    have hz2:x1 - yv x1 x2*x2=yH x1 x2:=by unfold yH;rw [Int.mul_comm]
    exact zgd Tryz.results110 (p319,c320,p324,c325) trivial (zu 1 ty41 rfl rfl (.t2 .nil)) (zu 0 ty41 rfl rfl (.t2 .nil)) (zl rfl) (by rw [hz2]) (ho:=(.n:PickO _ _ _)) ((.c (j:=2) rfl (.e (j:=0) rfl (by rw [hz2]) .n)):SelR _ _ _)
   ·
    have hr0:x1.natAbs%x2.natAbs=0:=yA.1 (by rw [← hR0];omega)
    have hqz:yt (decide (decide (x1<0)≠decide (x2<0))) (Q:Int)=yv x1 x2:=by rw [decide_eq_true hsd,hQ];exact (Big.fq_even hy hsd hr0).1
    refine zA<|zd<|zg ?_
    have e26:yt (decide (decide (x1<0)≠decide (x2<0))) (Q:Int)=yv x1 x2:=by exact hqz
    rw [e26]
    refine zqa (.c (i:=4) rfl (.c (i:=3) rfl (.c (i:=0) rfl (.c (i:=0) rfl (.c (i:=0) rfl .n)))))<|zW (OW:=[boxA b3 41 [wz.b,wz.l],boxA b4 41 [wz.b,wz.l]]) (O:=[boxA b16 41 [.bool (decide ((yv x1 x2)<0)),.slice p214 ((yd ((yv x1 x2).natAbs)).length) c215],boxA b2 41 [.bool (decide (x2<0)),.slice p27 ((yd ((x2).natAbs)).length) c28],boxA b1 41 [.bool (decide (x1<0)),.slice p25 ((yd ((x1).natAbs)).length) c26]]) 6 mixed (.then .ret) kr<|e_uw 0 rfl rfl (zc 2 ty41 rfl rfl (.t2 .nil))<|e_uw 1 rfl rfl (zc 4 ty41 rfl rfl (.t2 .nil))<|e_uw 2 rfl rfl (zc 2 ty41 rfl rfl (.t2 .nil))<|e_uw 3 rfl rfl (zc 3 ty41 rfl rfl (.t2 .nil))<|e_one 4 (zw rfl rfl rfl rfl (.c rfl (.c rfl .n)) ce73 (zuc (x1:=yv x1 x2) (x2:=x2) (p1:=p214) (c1:=c215) (p2:=p27) (c2:=c28) (hb1:=by first|rfl|assumption|omega|(unfold yl;omega)|(unfold yl;rw [hsq];omega)|(decide +kernel)) (hb2:=by first|rfl|assumption|omega|(unfold yl;omega)|(unfold yl;rw [hsq];omega)|(decide +kernel))) (.c (j:=0) rfl (.c (j:=3) rfl .n)) ?_)
    rintro ⟨p327,c328⟩ -
    dsimp only [aq,nq,cq]
    refine e_one 5 (zw rfl rfl rfl rfl (.c rfl (.c rfl .n)) ce133 (ztc (x1:=x1) (x2:=(yv x1 x2)*x2) (p1:=p25) (c1:=c26) (p2:=p327) (c2:=c328) (hb1:=by first|rfl|assumption|omega|(unfold yl;omega)|(unfold yl;rw [hsq];omega)|(decide +kernel)) (hb2:=by first|rfl|assumption|omega|(unfold yl;omega)|(unfold yl;rw [hsq];omega)|(decide +kernel))) (.c (j:=5) rfl (.c (j:=0) rfl .n)) ?_)
    rintro ⟨p329,c330⟩ -
    dsimp only [aq,nq,cq]
    refine e_one 6 (zv kr rfl rfl rfl rfl rfl sz41 rfl (.t2 .nil) ?_)
    refine zQa (zca (i:=1) rfl)<|e_one 7 (zv kr rfl rfl rfl rfl rfl sz41 rfl (.t2 .nil) ?_)
    refine e_pv 8 rfl rfl (zb rfl)<|zT kr<|zd<|zH ?_
    have hz2:x1 - yv x1 x2*x2=yH x1 x2:=by unfold yH;rw [Int.mul_comm]
    exact zgd Tryz.results110 (p214,c215,p329,c330) trivial (zu 1 ty41 rfl rfl (.t2 .nil)) (zu 0 ty41 rfl rfl (.t2 .nil)) (zl rfl) (by rw [hz2]) (ho:=(.n:PickO _ _ _)) ((.c (j:=2) rfl (.e (j:=0) rfl (by rw [hz2]) .n)):SelR _ _ _)
  ·
   have hs9:=Decidable.not_not.1 hsd
   have hqz:yt (decide (decide (x1<0)≠decide (x2<0))) (Q:Int)=yv x1 x2:=by rw [decide_eq_false hsd,hQ];exact (Big.fq_same hy hs9).1
   refine e_no<|e_no<|e_no<|e_p (zo rfl rfl)<|zh<|zd<|zgb rfl rfl<|zA<|zd<|zg ?_
   have e31:yt (decide (decide (x1<0)≠decide (x2<0))) (Q:Int)=yv x1 x2:=by exact hqz
   rw [e31]
   refine zqa (.c (i:=4) rfl (.c (i:=3) rfl (.c (i:=0) rfl (.c (i:=0) rfl (.c (i:=0) rfl .n)))))<|zW (OW:=[boxA b3 41 [wz.b,wz.l],boxA b4 41 [wz.b,wz.l]]) (O:=[boxA b16 41 [.bool (decide ((yv x1 x2)<0)),.slice p214 ((yd ((yv x1 x2).natAbs)).length) c215],boxA b2 41 [.bool (decide (x2<0)),.slice p27 ((yd ((x2).natAbs)).length) c28],boxA b1 41 [.bool (decide (x1<0)),.slice p25 ((yd ((x1).natAbs)).length) c26]]) 6 mixed (.then .ret) kr<|e_uw 0 rfl rfl (zc 2 ty41 rfl rfl (.t2 .nil))<|e_uw 1 rfl rfl (zc 4 ty41 rfl rfl (.t2 .nil))<|e_uw 2 rfl rfl (zc 2 ty41 rfl rfl (.t2 .nil))<|e_uw 3 rfl rfl (zc 3 ty41 rfl rfl (.t2 .nil))<|e_one 4 (zw rfl rfl rfl rfl (.c rfl (.c rfl .n)) ce73 (zuc (x1:=yv x1 x2) (x2:=x2) (p1:=p214) (c1:=c215) (p2:=p27) (c2:=c28) (hb1:=by first|rfl|assumption|omega|(unfold yl;omega)|(unfold yl;rw [hsq];omega)|(decide +kernel)) (hb2:=by first|rfl|assumption|omega|(unfold yl;omega)|(unfold yl;rw [hsq];omega)|(decide +kernel))) (.c (j:=0) rfl (.c (j:=3) rfl .n)) ?_)
   rintro ⟨p332,c333⟩ -
   dsimp only [aq,nq,cq]
   refine e_one 5 (zw rfl rfl rfl rfl (.c rfl (.c rfl .n)) ce133 (ztc (x1:=x1) (x2:=(yv x1 x2)*x2) (p1:=p25) (c1:=c26) (p2:=p332) (c2:=c333) (hb1:=by first|rfl|assumption|omega|(unfold yl;omega)|(unfold yl;rw [hsq];omega)|(decide +kernel)) (hb2:=by first|rfl|assumption|omega|(unfold yl;omega)|(unfold yl;rw [hsq];omega)|(decide +kernel))) (.c (j:=5) rfl (.c (j:=0) rfl .n)) ?_)
   rintro ⟨p334,c335⟩ -
   dsimp only [aq,nq,cq]
   refine e_one 6 (zv kr rfl rfl rfl rfl rfl sz41 rfl (.t2 .nil) ?_)
   refine zQa (zca (i:=1) rfl)<|e_one 7 (zv kr rfl rfl rfl rfl rfl sz41 rfl (.t2 .nil) ?_)
   refine e_pv 8 rfl rfl (zb rfl)<|zT kr<|zd<|zH ?_
   have hz2:x1 - yv x1 x2*x2=yH x1 x2:=by unfold yH;rw [Int.mul_comm]
   exact zgd Tryz.results110 (p214,c215,p334,c335) trivial (zu 1 ty41 rfl rfl (.t2 .nil)) (zu 0 ty41 rfl rfl (.t2 .nil)) (zl rfl) (by rw [hz2]) (ho:=(.n:PickO _ _ _)) ((.c (j:=2) rfl (.e (j:=0) rfl (by rw [hz2]) .n)):SelR _ _ _)
theorem zvb {w1:Wd} {w2:Wd} {x1:Int} {x2:Int} (hb1:yl x1≤274877906944) (hb2:yl x2≤274877906944) (hy:x2≠0):Con ym 110 [.agg #[w1.b,w1.l],.agg #[w2.b,w2.l]] [] [zF w1 (x1),zF w2 (x2)] (Y:=(Wd)×(Wd)) (fun y=>True) (fun y=> .tuple #[.agg #[y.1.b,y.1.l],.agg #[y.2.b,y.2.l],ya yb (0)]) (fun y=>[]) (fun y=>[zF y.1 (yv x1 x2),zF y.2 (yH x1 x2)]):=by
  exact zuf (zIc (fun p1 c1 p2 c2=>zZd hb1 hb2 hy))
end Go.Proofs.YtjcpbhlijoigfaaGreat.Sp
