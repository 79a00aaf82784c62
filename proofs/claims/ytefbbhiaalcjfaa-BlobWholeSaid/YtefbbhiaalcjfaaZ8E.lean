/- Lemmas on the walk and plain lemmas that the claim of this folder uses; each states its own conditions. Lines were printed by a program of ours. -/
import Derived.Test.YtefbbhiaalcjfaaZ8D
set_option linter.unusedVariables false
set_option linter.unusedSimpArgs false
set_option linter.unusedSectionVars false
namespace Go.Proofs.Ytefbbhiaalcjfaa.Sp
open Go
set_option linter.unusedVariables false
set_option maxRecDepth 100000
set_option maxHeartbeats 1000000
theorem zYe:Con Try.prog 9 [] [] [] (Y:=Unit) (fun y=>True) (fun y=> .bool true) (fun y=>[]) (fun y=>[]):=by
 refine zr Try.func9 rfl rfl rfl (fun c=> ?_)
 show RunC _ _ _ _ _ [] [] []
 refine zi<|zc<|r_pv rfl rfl (zd rfl)<|zj<|zf<|zi<|zc<|zxa rfl rfl (zL (enc:=fun z:Int=>[.int .i64 z]) (ok:=InK .i64) (h1:=fun _=>rfl) (h2:=fun _=>rfl) (k:=12) Try.underlying22 inf3 rfl (by decide) (by decide) (by decide) (.c (x:=9) rfl rfl (fun _ _=>by exact zk.2 (by omega)) (.c (x:=9) rfl rfl (fun _ _=>by exact zk.2 (by omega)) (.c (x:=0) rfl rfl (fun _ _=>by exact zk.2 (by omega)) (.c (x:=0) rfl rfl (fun _ _=>by exact zk.2 (by omega)) (.c (x:=0) rfl rfl (fun _ _=>by exact zk.2 (by omega)) (.c (x:=9) rfl rfl (fun _ _=>by exact zk.2 (by omega)) (.c (x:=0) rfl rfl (fun _ _=>by exact zk.2 (by omega)) (.c (x:=5) rfl rfl (fun _ _=>by exact zk.2 (by omega)) (.c (x:=0) rfl rfl (fun _ _=>by exact zk.2 (by omega)) (.c (x:=0) rfl rfl (fun _ _=>by exact zk.2 (by omega)) (.c (x:=0) rfl rfl (fun _ _=>by exact zk.2 (by omega)) (.c (x:=5) rfl rfl (fun _ _=>by exact zk.2 (by omega)) .n))))))))))))) (fun b1 _=> ?_)
 refine r_pv rfl rfl (zG zr24 rfl Try.underlying24 (.c sz3 (.c sz3 (.c sz3 (.c sz22 .n)))) (.c rfl (.c rfl (.c rfl (.c rfl .n)))) (.c rfl rfl rfl (.take .nil) (.c rfl rfl rfl (.skip (.take .nil)) (.c rfl rfl rfl (.skip (.skip (.take .nil))) (.c rfl rfl rfl (.skip (.skip (.skip (.take .nil)))) .n)))))<|zQ rfl rfl (zE zr24 rfl) (fun b2=> ?_)
 refine zo 0 rfl rfl rfl rfl rfl sz24 rfl (.take (.take (.take (.take .nil)))) .z<|zj<|zf<|zi<|zc<|r_u rfl rfl (zh 0 ty24 rfl rfl (.take (.take (.take (.take .nil)))))<|zja 1 rfl (.s .z)<|zA rfl rfl (.c rfl (.c rfl .n)) ce11 (zVe (w:=4) (h:=3) (m:=9) (p:=some ⟨b1,0,none⟩) (n:=12) (cap:=12) (l:=[9,9,0,0,0,9,0,5,0,0,0,5]) (th:=5) (hn:=by first|rfl|assumption|omega|decide|(decide +kernel))) (.c (j:=0) rfl .n) ?_
 rintro ⟨p33,c34,oL⟩ hL
 dsimp only [List.append_eq,List.nil_append,List.cons_append]
 replace hL:Fl.LabR 4 3 9 ([9,9,0,0,0,9,0,5,0,0,0,5]) 5 oL:=hL
 have e5:oL=Fl.labK:=by exact hL.uniq Fl.labrK
 subst e5
 have e6:=Fl.ask0.2 (show Bl.rok 4 3 9 ([9,9,0,0,0,9,0,5,0,0,0,5])∧(0:Int)≤5∧(5:Int)≤65536 by decide +kernel)
 rw [e6]
 refine r_pv rfl rfl (zb rfl)<|r_pv rfl rfl (zp rfl rfl)<|r_pv rfl rfl (zp rfl rfl)<|r_pv rfl rfl (zd rfl)<|r_pv rfl rfl (zd rfl)<|zj<|zf<|zi<|zc<|r_u rfl rfl (zh 0 ty24 rfl rfl (.take (.take (.take (.take .nil)))))<|zA rfl rfl (.c rfl (.c rfl .n)) ce17 (zXe (w:=4) (h:=3) (m:=9) (p:=some ⟨b1,0,none⟩) (n:=12) (cap:=12) (l:=[9,9,0,0,0,9,0,5,0,0,0,5]) (th:=5) (hn:=by first|rfl|assumption|omega|decide|(decide +kernel))) (.c (j:=1) rfl .n) ?_
 rintro ⟨p37,c38,aB⟩ hB
 dsimp only [List.append_eq,List.nil_append,List.cons_append]
 replace hB:Fl.BlsR 4 3 9 ([9,9,0,0,0,9,0,5,0,0,0,5]) 5 aB:=hB
 have e9:aB=Fl.blK:=by exact hB.uniq Fl.blsK
 subst e9
 have e10:=Fl.ask0.2 (show Bl.rok 4 3 9 ([9,9,0,0,0,9,0,5,0,0,0,5])∧(0:Int)≤5∧(5:Int)≤65536 by decide +kernel)
 rw [e10]
 refine r_pv rfl rfl (zb rfl)<|r_pv rfl rfl (zp rfl rfl)<|r_pv rfl rfl (zp rfl rfl)<|r_pv rfl rfl (zd rfl)<|r_pv rfl rfl (zd rfl)<|zj<|zf<|zi<|zi<|zc<|r_pv rfl rfl (zb rfl)<|r_pv rfl rfl (zb rfl)<|r_pv rfl rfl (zz (z:=0) rfl rfl (w64 (by decide)))<|r_pv rfl rfl (zCa rfl rfl) ?_
 rw [show false=false from by decide]
 refine r_pv rfl rfl (zb rfl)<|r_pv rfl rfl (zb rfl)<|zxa rfl rfl (zL (enc:=fun z:Int=>[.int .i64 z]) (ok:=InK .i64) (h1:=fun _=>rfl) (h2:=fun _=>rfl) (k:=12) Try.underlying22 inf3 rfl (by decide) (by decide) (by decide) (.c (x:=0) rfl rfl (fun _ _=>by exact zk.2 (by omega)) (.c (x:=0) rfl rfl (fun _ _=>by exact zk.2 (by omega)) (.c (x:=(-1)) rfl rfl (fun _ _=>by exact zk.2 (by omega)) (.c (x:=(-1)) rfl rfl (fun _ _=>by exact zk.2 (by omega)) (.c (x:=(-1)) rfl rfl (fun _ _=>by exact zk.2 (by omega)) (.c (x:=0) rfl rfl (fun _ _=>by exact zk.2 (by omega)) (.c (x:=(-1)) rfl rfl (fun _ _=>by exact zk.2 (by omega)) (.c (x:=1) rfl rfl (fun _ _=>by exact zk.2 (by omega)) (.c (x:=(-1)) rfl rfl (fun _ _=>by exact zk.2 (by omega)) (.c (x:=(-1)) rfl rfl (fun _ _=>by exact zk.2 (by omega)) (.c (x:=(-1)) rfl rfl (fun _ _=>by exact zk.2 (by omega)) (.c (x:=1) rfl rfl (fun _ _=>by exact zk.2 (by omega)) .n))))))))))))) (fun b11 _=> ?_)
 refine zja 0 rfl .z<|zM rfl rfl (.c rfl (.c rfl .n)) ce13 (zUe (p1:=p33) (n1:=(Fl.labK.length)) (c1:=c34) (l1:=Fl.labK) (p2:=some ⟨b11,0,none⟩) (n2:=12) (c2:=12) (l2:=[0,0,(-1),(-1),(-1),0,(-1),1,(-1),(-1),(-1),1]) (hn1:=by first|rfl|assumption|omega|decide|(decide +kernel)) (hn2:=by first|rfl|assumption|omega|decide|(decide +kernel))) (.c (j:=2) rfl (.c (j:=0) rfl .n)) ?_
 rw [show (decide (Fl.labK=([0,0,(-1),(-1),(-1),0,(-1),1,(-1),(-1),(-1),1])))=true from by decide +kernel]
 refine r_pv rfl rfl (zDb rfl)<|r_pv rfl rfl (zl rfl rfl)<|r_pv rfl rfl (zb rfl)<|r_pv rfl rfl (zb rfl)<|r_pv rfl rfl (zK Try.underlying35 rfl)<|r_pv rfl rfl (zCa rfl rfl) ?_
 rw [show (decide ((((Fl.blK.length):Nat):Int)≠2))=false from by decide +kernel]
 refine r_pv rfl rfl (zl rfl rfl)<|zj<|zf<|zUa rfl rfl<|zy<|zf<|zi<|zc<|r_pv rfl rfl (zb rfl)<|zO (x0:=(Fl.blK.getD 0 b0)) 1 0 rfl Try.underlying35 sz51 rfl rfl rfl (by first|rfl|assumption|(simp_all;done)|omega) rfl rfl (gD (d:=b0) (by first|omega|decide)) (fun b12 o13 hok14=> ?_)
 obtain ⟨hok140,hok141,hok142,hok143,hok144,hok145,hok146,hok147,hok148,hok149,hok1410,hok1411,hok1412⟩:=hok14
 replace hok140:=zk.1 hok140
 replace hok141:=zk.1 hok141
 replace hok142:=zk.1 hok142
 replace hok143:=zk.1 hok143
 replace hok144:=zk.1 hok144
 replace hok145:=zk.1 hok145
 replace hok146:=zk.1 hok146
 replace hok147:=zk.1 hok147
 replace hok148:=zk.1 hok148
 replace hok149:=zk.1 hok149
 replace hok1410:=zk.1 hok1410
 replace hok1411:=zk.1 hok1411
 replace hok1412:=zk.1 hok1412
 refine r_u rfl rfl (zLa (j:=0) 0 ty51 rfl rfl rfl (.take (.take (.take (.take (.take (.take (.take (.take (.take (.take (.take (.take (.take .nil))))))))))))))<|zA rfl rfl (.c rfl .n) ce19 (zkd (ar:=(Fl.blK.getD 0 b0).ar) (le:=(Fl.blK.getD 0 b0).le) (tp:=(Fl.blK.getD 0 b0).tp) (rt:=(Fl.blK.getD 0 b0).rt) (bt:=(Fl.blK.getD 0 b0).bt) (sx:=(Fl.blK.getD 0 b0).sx) (sy:=(Fl.blK.getD 0 b0).sy) (xx:=(Fl.blK.getD 0 b0).xx) (xy:=(Fl.blK.getD 0 b0).xy) (yy:=(Fl.blK.getD 0 b0).yy) (ms:=(Fl.blK.getD 0 b0).ms) (mx:=(Fl.blK.getD 0 b0).mx) (my:=(Fl.blK.getD 0 b0).my) (hok:=by first|rfl|assumption|omega|decide|(decide +kernel)) (hm:=by first|rfl|assumption|omega|decide|(decide +kernel))) (.n) ?_
 rintro ⟨w315,w416,w517,w618⟩ -
 dsimp only [List.append_eq,List.nil_append,List.cons_append]
 refine r_pv rfl rfl (zb rfl)<|r_pv rfl rfl (zp rfl rfl)<|r_pv rfl rfl (zp rfl rfl)<|zQ rfl rfl (zE zr47 rfl) (fun b19=> ?_)
 refine zo 0 rfl rfl rfl rfl rfl sz47 rfl (.take (.take (.take (.take (.take (.take (.take (.take .nil)))))))) .z<|r_pv rfl rfl (zd rfl)<|zj<|zf<|zi<|zc<|r_pv rfl rfl (zb rfl)<|zO (x0:=(Fl.blK.getD 0 b0)) 4 0 rfl Try.underlying35 sz51 rfl rfl rfl (by first|rfl|assumption|(simp_all;done)|omega) rfl rfl (gD (d:=b0) (by first|omega|decide)) (fun b20 o21 hok22=> ?_)
 obtain ⟨hok220,hok221,hok222,hok223,hok224,hok225,hok226,hok227,hok228,hok229,hok2210,hok2211,hok2212⟩:=hok22
 replace hok220:=zk.1 hok220
 replace hok221:=zk.1 hok221
 replace hok222:=zk.1 hok222
 replace hok223:=zk.1 hok223
 replace hok224:=zk.1 hok224
 replace hok225:=zk.1 hok225
 replace hok226:=zk.1 hok226
 replace hok227:=zk.1 hok227
 replace hok228:=zk.1 hok228
 replace hok229:=zk.1 hok229
 replace hok2210:=zk.1 hok2210
 replace hok2211:=zk.1 hok2211
 replace hok2212:=zk.1 hok2212
 refine r_u rfl rfl (zLa (j:=0) 0 ty51 rfl rfl rfl (.take (.take (.take (.take (.take (.take (.take (.take (.take (.take (.take (.take (.take .nil))))))))))))))<|zA rfl rfl (.c rfl .n) ce23 (zQc (ar:=(Fl.blK.getD 0 b0).ar) (le:=(Fl.blK.getD 0 b0).le) (tp:=(Fl.blK.getD 0 b0).tp) (rt:=(Fl.blK.getD 0 b0).rt) (bt:=(Fl.blK.getD 0 b0).bt) (sx:=(Fl.blK.getD 0 b0).sx) (sy:=(Fl.blK.getD 0 b0).sy) (xx:=(Fl.blK.getD 0 b0).xx) (xy:=(Fl.blK.getD 0 b0).xy) (yy:=(Fl.blK.getD 0 b0).yy) (ms:=(Fl.blK.getD 0 b0).ms) (mx:=(Fl.blK.getD 0 b0).mx) (my:=(Fl.blK.getD 0 b0).my) (hok:=by first|rfl|assumption|omega|decide|(decide +kernel))) (.n) ?_
 rintro ⟨w323,w424,w525,w626,w727,w828⟩ -
 dsimp only [List.append_eq,List.nil_append,List.cons_append]
 refine r_pv rfl rfl (zb rfl)<|r_pv rfl rfl (zp rfl rfl)<|r_pv rfl rfl (zp rfl rfl)<|r_pv rfl rfl (zp rfl rfl)<|r_pv rfl rfl (zp rfl rfl)<|zQ rfl rfl (zE zr45 rfl) (fun b29=> ?_)
 refine zQ rfl rfl (zE zr45 rfl) (fun b30=> ?_)
 refine zQ rfl rfl (zE zr45 rfl) (fun b31=> ?_)
 refine zo 2 rfl rfl rfl rfl rfl sz45 rfl (.take (.take (.take (.take .nil)))) (.s (.s .z))<|zo 1 rfl rfl rfl rfl rfl sz45 rfl (.take (.take (.take (.take .nil)))) (.s .z)<|zo 0 rfl rfl rfl rfl rfl sz45 rfl (.take (.take (.take (.take .nil)))) .z<|r_pv rfl rfl (zd rfl)<|zj<|zf<|zi<|zc<|zxa rfl rfl (zL (enc:=fun z:Int=>[.int .i64 z]) (ok:=InK .i64) (h1:=fun _=>rfl) (h2:=fun _=>rfl) (k:=9) Try.underlying22 inf3 rfl (by decide) (by decide) (by decide) (.c (x:=1) rfl rfl (fun _ _=>by exact zk.2 (by omega)) (.c (x:=1) rfl rfl (fun _ _=>by exact zk.2 (by omega)) (.c (x:=1) rfl rfl (fun _ _=>by exact zk.2 (by omega)) (.c (x:=1) rfl rfl (fun _ _=>by exact zk.2 (by omega)) (.c (x:=0) rfl rfl (fun _ _=>by exact zk.2 (by omega)) (.c (x:=1) rfl rfl (fun _ _=>by exact zk.2 (by omega)) (.c (x:=1) rfl rfl (fun _ _=>by exact zk.2 (by omega)) (.c (x:=1) rfl rfl (fun _ _=>by exact zk.2 (by omega)) (.c (x:=1) rfl rfl (fun _ _=>by exact zk.2 (by omega)) .n)))))))))) (fun b32 _=> ?_)
 refine r_pv rfl rfl (zG zr24 rfl Try.underlying24 (.c sz3 (.c sz3 (.c sz3 (.c sz22 .n)))) (.c rfl (.c rfl (.c rfl (.c rfl .n)))) (.c rfl rfl rfl (.take .nil) (.c rfl rfl rfl (.skip (.take .nil)) (.c rfl rfl rfl (.skip (.skip (.take .nil))) (.c rfl rfl rfl (.skip (.skip (.skip (.take .nil)))) .n)))))<|zja 0 rfl .z<|zA rfl rfl (.c rfl (.c rfl .n)) ce14 (zWe (w:=3) (h:=3) (m:=1) (p:=some ⟨b32,0,none⟩) (n:=9) (cap:=9) (l:=[1,1,1,1,0,1,1,1,1]) (th:=1) (hn:=by first|rfl|assumption|omega|decide|(decide +kernel))) (.c (j:=0) rfl .n) ?_
 rintro zH hH
 dsimp only [List.append_eq,List.nil_append,List.cons_append]
 replace hH:Fl.HolR 3 3 1 ([1,1,1,1,0,1,1,1,1]) 1 zH:=hH
 have e33:zH=1:=by exact hH.uniq Fl.holK
 subst e33
 have e34:=Fl.ask0.2 (show Bl.rok 3 3 1 ([1,1,1,1,0,1,1,1,1])∧(0:Int)≤1∧(1:Int)≤65536 by decide +kernel)
 rw [e34]
 refine r_pv rfl rfl (zb rfl)<|r_pv rfl rfl (zp rfl rfl)<|r_pv rfl rfl (zp rfl rfl)<|r_pv rfl rfl (zd rfl)<|r_pv rfl rfl (zd rfl)<|zj<|zf<|zi<|zc<|zA rfl rfl (.c rfl (.c rfl .n)) ce32 (zGc (z1:=7) (z2:=6) (hz1:=by first|rfl|assumption|omega|decide|(decide +kernel)) (hz2:=by first|rfl|assumption|omega|decide|(decide +kernel)) (hy:=by first|rfl|assumption|omega|decide|(decide +kernel))) (.n) ?_
 rintro ⟨w335,w436⟩ -
 dsimp only [List.append_eq,List.nil_append,List.cons_append]
 refine r_pv rfl rfl (zb rfl)<|r_pv rfl rfl (zp rfl rfl)<|r_pv rfl rfl (zp rfl rfl)<|zQ rfl rfl (zE zr45 rfl) (fun b37=> ?_)
 refine zo 0 rfl rfl rfl rfl rfl sz45 rfl (.take (.take (.take (.take .nil)))) .z<|r_pv rfl rfl (zd rfl)<|zj<|zf<|zi<|zc<|zA rfl rfl (.c rfl (.c rfl .n)) ce32 (zGc (z1:=2) (z2:=9) (hz1:=by first|rfl|assumption|omega|decide|(decide +kernel)) (hz2:=by first|rfl|assumption|omega|decide|(decide +kernel)) (hy:=by first|rfl|assumption|omega|decide|(decide +kernel))) (.n) ?_
 rintro ⟨w338,w439⟩ -
 dsimp only [List.append_eq,List.nil_append,List.cons_append]
 refine r_pv rfl rfl (zb rfl)<|r_pv rfl rfl (zp rfl rfl)<|r_pv rfl rfl (zp rfl rfl)<|zQ rfl rfl (zE zr45 rfl) (fun b40=> ?_)
 refine zo 0 rfl rfl rfl rfl rfl sz45 rfl (.take (.take (.take (.take .nil)))) .z<|r_pv rfl rfl (zd rfl)<|zj<|zf<|zi<|zc<|r_pv rfl rfl (zb rfl)<|r_pv rfl rfl (zb rfl)<|r_pv rfl rfl (zz (z:=0) rfl rfl (w64 (by decide)))<|r_pv rfl rfl (zb rfl)<|r_pv rfl rfl (zz (z:=0) rfl rfl (w64 (by decide)))<|r_pv rfl rfl (zAa rfl rfl) ?_
 rw [show true=true from by decide]
 refine r_pv rfl rfl (zb rfl)<|r_pv rfl rfl (zb rfl)<|r_pv rfl rfl (zAa rfl rfl) ?_
 rw [show true=true from by decide]
 refine r_pv rfl rfl (zl rfl rfl)<|r_pv rfl rfl (zb rfl)<|r_pv rfl rfl (zg Try.underlying47 rfl sz45 rfl rfl)<|r_u rfl rfl (zh 6 ty45 rfl rfl (.take (.take (.take (.take .nil)))))<|r_u rfl rfl (zh 1 ty45 rfl rfl (.take (.take (.take (.take .nil)))))<|zM rfl rfl (.c rfl (.c rfl .n)) ce20 (zpb (u1:=w315) (v1:=w416) (q1:=Rat.divInt (2*((Fl.blK.getD 0 b0).mx)+((Fl.blK.getD 0 b0).ms)) (2*((Fl.blK.getD 0 b0).ms))) (u2:=w335) (v2:=w436) (q2:=Rat.divInt 7 6) (hl:=by first|rfl|assumption|omega|decide|(decide +kernel))) (.c (j:=7) rfl (.c (j:=1) rfl .n)) ?_
 rw [show (decide ((Rat.divInt (2*((Fl.blK.getD 0 b0).mx)+((Fl.blK.getD 0 b0).ms)) (2*((Fl.blK.getD 0 b0).ms)))=(Rat.divInt 7 6)))=true from by decide +kernel]
 refine r_pv rfl rfl (zl rfl rfl)<|r_pv rfl rfl (zb rfl)<|r_u rfl rfl (zh 5 ty45 rfl rfl (.take (.take (.take (.take .nil)))))<|r_u rfl rfl (zh 0 ty45 rfl rfl (.take (.take (.take (.take .nil)))))<|zM rfl rfl (.c rfl (.c rfl .n)) ce20 (zpb (u1:=w323) (v1:=w424) (q1:=Rat.divInt (((Fl.blK.getD 0 b0).xx)*((Fl.blK.getD 0 b0).ar) - ((Fl.blK.getD 0 b0).sx)*((Fl.blK.getD 0 b0).sx)) (((Fl.blK.getD 0 b0).ar)*((Fl.blK.getD 0 b0).ar))) (u2:=w338) (v2:=w439) (q2:=Rat.divInt 2 9) (hl:=by first|rfl|assumption|omega|decide|(decide +kernel))) (.c (j:=3) rfl (.c (j:=0) rfl .n)) ?_
 rw [show (decide ((Rat.divInt (((Fl.blK.getD 0 b0).xx)*((Fl.blK.getD 0 b0).ar) - ((Fl.blK.getD 0 b0).sx)*((Fl.blK.getD 0 b0).sx)) (((Fl.blK.getD 0 b0).ar)*((Fl.blK.getD 0 b0).ar)))=(Rat.divInt 2 9)))=true from by decide +kernel]
 refine r_pv rfl rfl (zl rfl rfl)<|r_pv rfl rfl (zb rfl)<|r_u rfl rfl (zh 3 ty45 rfl rfl (.take (.take (.take (.take .nil)))))<|r_u rfl rfl (zh 0 ty45 rfl rfl (.take (.take (.take (.take .nil)))))<|zM rfl rfl (.c rfl (.c rfl .n)) ce20 (zpb (u1:=w727) (v1:=w828) (q1:=Rat.divInt (((Fl.blK.getD 0 b0).yy)*((Fl.blK.getD 0 b0).ar) - ((Fl.blK.getD 0 b0).sy)*((Fl.blK.getD 0 b0).sy)) (((Fl.blK.getD 0 b0).ar)*((Fl.blK.getD 0 b0).ar))) (u2:=w338) (v2:=w439) (q2:=Rat.divInt 2 9) (hl:=by first|rfl|assumption|omega|decide|(decide +kernel))) (.c (j:=5) rfl (.c (j:=0) rfl .n)) ?_
 rw [show (decide ((Rat.divInt (((Fl.blK.getD 0 b0).yy)*((Fl.blK.getD 0 b0).ar) - ((Fl.blK.getD 0 b0).sy)*((Fl.blK.getD 0 b0).sy)) (((Fl.blK.getD 0 b0).ar)*((Fl.blK.getD 0 b0).ar)))=(Rat.divInt 2 9)))=true from by decide +kernel]
 refine r_pv rfl rfl (zl rfl rfl)<|r_pv rfl rfl (zb rfl)<|r_pv rfl rfl (zb rfl)<|zO (x0:=(Fl.blK.getD 0 b0)) 11 0 rfl Try.underlying35 sz51 rfl rfl rfl (by first|rfl|assumption|(simp_all;done)|omega) rfl rfl (gD (d:=b0) (by first|omega|decide)) (fun b41 o42 hok43=> ?_)
 obtain ⟨hok430,hok431,hok432,hok433,hok434,hok435,hok436,hok437,hok438,hok439,hok4310,hok4311,hok4312⟩:=hok43
 replace hok430:=zk.1 hok430
 replace hok431:=zk.1 hok431
 replace hok432:=zk.1 hok432
 replace hok433:=zk.1 hok433
 replace hok434:=zk.1 hok434
 replace hok435:=zk.1 hok435
 replace hok436:=zk.1 hok436
 replace hok437:=zk.1 hok437
 replace hok438:=zk.1 hok438
 replace hok439:=zk.1 hok439
 replace hok4310:=zk.1 hok4310
 replace hok4311:=zk.1 hok4311
 replace hok4312:=zk.1 hok4312
 refine r_u rfl rfl (zLa (j:=0) 0 ty51 rfl rfl rfl (.take (.take (.take (.take (.take (.take (.take (.take (.take (.take (.take (.take (.take .nil))))))))))))))<|r_pv rfl rfl (zG zr51 rfl Try.underlying51 (.c sz3 (.c sz3 (.c sz3 (.c sz3 (.c sz3 (.c sz3 (.c sz3 (.c sz3 (.c sz3 (.c sz3 (.c sz3 (.c sz3 (.c sz3 .n))))))))))))) (.c rfl (.c rfl (.c rfl (.c rfl (.c rfl (.c rfl (.c rfl (.c rfl (.c rfl (.c rfl (.c rfl .n))))))))))) (.c rfl rfl rfl (.take .nil) (.c rfl rfl rfl (.skip (.skip (.skip (.take .nil)))) (.c rfl rfl rfl (.skip (.skip (.skip (.skip (.take .nil))))) (.c rfl rfl rfl (.skip (.skip (.skip (.skip (.skip (.take .nil)))))) (.c rfl rfl rfl (.skip (.skip (.skip (.skip (.skip (.skip (.take .nil))))))) (.c rfl rfl rfl (.skip (.skip (.skip (.skip (.skip (.skip (.skip (.take .nil)))))))) (.c rfl rfl rfl (.skip (.skip (.skip (.skip (.skip (.skip (.skip (.skip (.take .nil))))))))) (.c rfl rfl rfl (.skip (.skip (.skip (.skip (.skip (.skip (.skip (.skip (.skip (.take .nil)))))))))) (.c rfl rfl rfl (.skip (.skip (.skip (.skip (.skip (.skip (.skip (.skip (.skip (.skip (.take .nil))))))))))) (.c rfl rfl rfl (.skip (.skip (.skip (.skip (.skip (.skip (.skip (.skip (.skip (.skip (.skip (.take .nil)))))))))))) (.c rfl rfl rfl (.skip (.skip (.skip (.skip (.skip (.skip (.skip (.skip (.skip (.skip (.skip (.skip (.take .nil))))))))))))) .n))))))))))))<|r_pv rfl rfl (zzc (p:=(Fl.blK.getD 0 b0).ar=3∧(Fl.blK.getD 0 b0).le=0∧(Fl.blK.getD 0 b0).tp=0∧(Fl.blK.getD 0 b0).rt=1∧(Fl.blK.getD 0 b0).bt=1∧(Fl.blK.getD 0 b0).sx=2∧(Fl.blK.getD 0 b0).sy=1∧(Fl.blK.getD 0 b0).xx=2∧(Fl.blK.getD 0 b0).xy=1∧(Fl.blK.getD 0 b0).yy=1∧(Fl.blK.getD 0 b0).ms=27∧(Fl.blK.getD 0 b0).mx=18∧(Fl.blK.getD 0 b0).my=9) (by kernel_rfl) rfl rfl (zNb Try.underlying51 (by kernel_rfl) (zla (by decide) ty3 rfl rfl (zka Try.underlying3) (zla (by decide) ty3 rfl rfl (zka Try.underlying3) (zla (by decide) ty3 rfl rfl (zka Try.underlying3) (zla (by decide) ty3 rfl rfl (zka Try.underlying3) (zla (by decide) ty3 rfl rfl (zka Try.underlying3) (zla (by decide) ty3 rfl rfl (zka Try.underlying3) (zla (by decide) ty3 rfl rfl (zka Try.underlying3) (zla (by decide) ty3 rfl rfl (zka Try.underlying3) (zla (by decide) ty3 rfl rfl (zka Try.underlying3) (zla (by decide) ty3 rfl rfl (zka Try.underlying3) (zla (by decide) ty3 rfl rfl (zka Try.underlying3) (zla (by decide) ty3 rfl rfl (zka Try.underlying3) (zla (by decide) ty3 rfl rfl (zka Try.underlying3) zsd)))))))))))))) (by simp [Bool.decide_and])) ?_
 rw [show (decide ((Fl.blK.getD 0 b0).ar=3∧(Fl.blK.getD 0 b0).le=0∧(Fl.blK.getD 0 b0).tp=0∧(Fl.blK.getD 0 b0).rt=1∧(Fl.blK.getD 0 b0).bt=1∧(Fl.blK.getD 0 b0).sx=2∧(Fl.blK.getD 0 b0).sy=1∧(Fl.blK.getD 0 b0).xx=2∧(Fl.blK.getD 0 b0).xy=1∧(Fl.blK.getD 0 b0).yy=1∧(Fl.blK.getD 0 b0).ms=27∧(Fl.blK.getD 0 b0).mx=18∧(Fl.blK.getD 0 b0).my=9))=true from by decide +kernel]
 refine r_pv rfl rfl (zl rfl rfl)<|r_pv rfl rfl (zd rfl)<|zj<|zf<|zI ?_
 exact zD Try.results9 () trivial (zq rfl) rfl (ho:=(.n:PickO _ _ _)) (.n:SelR _ _ _)
end Go.Proofs.Ytefbbhiaalcjfaa.Sp
namespace Go.Proofs.Ytefbbhiaalcjfaa.Sp
open Go
set_option linter.unusedVariables false
set_option maxRecDepth 100000
set_option maxHeartbeats 1000000
theorem zIf {w:Int} {h:Int} {m:Int} {p:Option Addr} {n:Nat} {cap:Nat} {l:List Int} (hn:l.length=n):Con Try.prog 10 [.agg #[.int .i64 w,.int .i64 h,.int .i64 m,.slice p n cap]] [] [slF (rI .i64) p cap l] (Y:=Unit) (fun y=>True) (fun y=> .bool (decide (((n:Nat):Int)≤200))) (fun y=>[]) (fun y=>[]):=by
 refine zr Try.func10 rfl rfl rfl (fun c=> ?_)
 show RunC _ _ _ _ _ [(0,.agg #[.int .i64 w,.int .i64 h,.int .i64 m,.slice p n cap])] [] [slF (rI .i64) p cap l]
 refine zea 0 rfl (fun hL0=> ?_)
 refine zi<|zc<|zQ rfl rfl (zV rfl rfl) (fun b1=> ?_)
 refine r_pv rfl rfl (zd rfl)<|zj<|zf<|zi<|zc<|r_pv rfl rfl (zg Try.underlying24 rfl sz22 rfl rfl)<|r_u rfl rfl (ze 0 ty22 rfl rfl rfl)<|r_pv rfl rfl (zK Try.underlying22 rfl)<|r_pv rfl rfl (zxc rfl rfl)<|r_pv rfl rfl (zd rfl)<|zj<|zf<|zI ?_
 exact zD Try.results10 () trivial (zq rfl) rfl (ho:=(.n:PickO _ _ _)) (.n:SelR _ _ _)
end Go.Proofs.Ytefbbhiaalcjfaa.Sp
namespace Go.Proofs.Ytefbbhiaalcjfaa.Fl
open Sp (Bb b0)
theorem tog_comm (a b:Bb):tog a b=tog b a:=by unfold tog;simp only [Bb.mk.injEq];omega
theorem tog_assoc (a b c:Bb):tog (tog a b) c=tog a (tog b c):=by unfold tog;simp only [Bb.mk.injEq];omega
def om:Option Bb→Option Bb→Option Bb
  |none,b=>b
  |some a,none=>some a
  |some a,some b=>some (tog a b)
theorem om_none (a:Option Bb):om a none=a:=by cases a <;> rfl
theorem om_comm (a b:Option Bb):om a b=om b a:=by
  cases a <;> cases b <;> simp only [om]
  rw [tog_comm]
theorem om_assoc (a b c:Option Bb):om (om a b) c=om a (om b c):=by
  cases a <;> cases b <;> cases c <;> simp only [om]
  rw [tog_assoc]
def sumP:List (Option Bb)→Option Bb
  |[]=>none
  |a :: t=>om a (sumP t)
def sumO (l:List Bb):Option Bb:=sumP (l.map some)
theorem sumP_append (A B:List (Option Bb)):sumP (A++B)=om (sumP A) (sumP B):=by
  induction A with
  |nil=>rfl
  |cons a t ih=>rw [List.cons_append,sumP,ih,sumP,om_assoc]
theorem sumO_append (A B:List Bb):sumO (A++B)=om (sumO A) (sumO B):=by unfold sumO;rw [List.map_append,sumP_append]
theorem sumO_cons (x:Bb) (B:List Bb):sumO (x :: B)=om (some x) (sumO B):=rfl
theorem sumP_nones {α:Type} (l:List α):sumP (l.map (fun _=>none))=none:=by
  induction l with
  |nil=>rfl
  |cons a t ih=>rw [List.map_cons,sumP,ih];rfl
theorem sumP_one {g g':Nat→Option Bb} {k:Nat} {x:Option Bb} (hk:g' k=om (g k) x) (ho:∀j,j≠k→g' j=g j):∀N,k<N→sumP ((List.range N).map g')=om (sumP ((List.range N).map g)) x:=by
  intro N
  induction N with
  |zero=>intro h;omega
  |succ N ih=>
    intro h
    rw [List.range_succ,List.map_append,List.map_append,sumP_append,sumP_append,List.map_cons,List.map_cons,List.map_nil,List.map_nil]
    by_cases e:k=N
    · subst e
      have h1:(List.range k).map g'=(List.range k).map g:=List.map_congr_left fun j hj=>ho j (by have:=List.mem_range.1 hj;omega)
      rw [h1,hk];simp only [sumP,om_none];rw [om_assoc]
    · rw [ih (by omega), ho N (by omega)]; simp only [sumP, om_none]
      rw [om_assoc,om_comm x,←om_assoc]
def oW (f:Nat→Bool) (n:Nat):List Int:=(List.range n).map (fun j=>if f j then 0 else -1)
theorem oW_get {f:Nat→Bool} {n i:Nat} (h:i<n):(oW f n).getD i 0=if f i then 0 else -1:=by
  unfold oW;rw [List.getD_eq_getElem?_getD,List.getElem?_map,List.getElem?_range h];rfl
theorem acc_om {w:Nat} {l o:List Int} {k:Int} {i:Nat} (hx:o.getD i 0=k):acc w l o k (i+1)=om (acc w l o k i) (some (one w l i)):=by
  rw [acc_next hx];cases acc w l o k i <;> rfl
section
variable {w n : Nat} {f : Nat → Bool} {adj : Nat → Nat → Prop} {c : Nat → Nat} {l o : List Int}
theorem whole_step (hc:Lst (fun j=>f j=true) adj c) (hn:∀j,f j=true→j<n) (h:LabC n f c o):∀i,i≤n→sumP ((List.range (cnt (ldr f c) n)).map (fun k:Nat=>acc w l o (k:Int) i))=acc w l (oW f n) 0 i:=by
  intro i
  induction i with
  |zero=>intro _;exact sumP_nones _
  |succ i ih=>
    intro hi
    have hw:=oW_get (f:=f) (show i<n by omega)
    by_cases e:f i=true
    · rw [if_pos e] at hw
      rw [acc_om hw,←ih (by omega)]
      have hl:=h.lt hc hn (show i<n by omega) e
      refine sumP_one (k:=(o.getD i 0).toNat) ?_ (fun j hj=> ?_) _ (by omega)
      · rw [acc_om (by omega)]
      · rw [acc_keep (by omega)]
    · rw [if_neg e] at hw
      rw [acc_keep (show ¬(oW f n).getD i 0=0 by omega),←ih (by omega)]
      refine congrArg sumP (List.map_congr_left fun k _=>acc_keep ?_)
      rw [h.not i (by omega) e];omega
theorem cnt_surj (q:Nat→Bool):∀n k,k<cnt q n→∃j,j<n∧q j=true∧cnt q j=k:=by
  intro n
  induction n with
  |zero=>intro k h;exact absurd h (by simp [cnt])
  |succ n ih=>
    intro k h
    rw [cnt_succ] at h
    by_cases e:k<cnt q n
    · obtain ⟨j,a,b,d⟩:=ih k e;exact ⟨j,by omega,b,d⟩
    · by_cases x : q n = true
      · rw [if_pos x] at h;exact ⟨n,by omega,x,by omega⟩
      · rw [if_neg x] at h;omega
theorem acc_all (h:LabC n f c o) {k:Nat} (hk:k<cnt (ldr f c) n):acc w l o (k:Int) n≠none:=by
  obtain ⟨j,a,b,d⟩:=cnt_surj _ _ _ hk
  refine acc_some n ⟨j,a,?_⟩
  rw [h.yes j a (ldr_iff.1 b).1,(ldr_iff.1 b).2,d]
theorem whole_sum (hc:Lst (fun j=>f j=true) adj c) (hn:∀j,f j=true→j<n) (h:LabC n f c o):sumO (bls w l o (cnt (ldr f c) n) n)=acc w l (oW f n) 0 n:=by
  rw [← whole_step (w:=w) (l:=l) hc hn h n (Nat.le_refl _)]
  unfold sumO bls
  rw [List.map_map]
  refine congrArg sumP (List.map_congr_left fun k hk=> ?_)
  have:=acc_all (w:=w) (l:=l) h (List.mem_range.1 hk)
  show some (gb _)=_
  cases e:acc w l o (k:Int) n with
  |none=>exact absurd e this
  |some a=>rfl
end
theorem BlsR.ok {w h m th:Int} {l:List Int} {A:List Bb} (a:BlsR w h m l th A):∀g∈A,okb g:=by
  intro g hg
  by_cases e:Bl.rok w h m l∧0≤th∧th≤65536
  · obtain ⟨c, o, h1, h2, h3⟩ := a.1 e
    obtain ⟨u,v,rfl,rfl,hw,hh,hn,hb⟩:=rok_n e.1 rfl
    rw [h3] at hg
    obtain ⟨k,hk,rfl⟩:=List.mem_map.1 hg
    exact gb_okn (acc_all h2 (List.mem_range.1 hk)) (acc_ok hw hh.2 hn hb (rok_g e.1 rfl) _ (Nat.le_refl _))
  · rw [a.2 e] at hg;cases hg
def tar:List Bb→Int
  |[]=>0
  |a :: t=>a.ar+tar t
theorem tar_append (A B:List Bb):tar (A++B)=tar A+tar B:=by
  induction A with
  |nil=>simp [tar]
  |cons a t ih=>rw [List.cons_append,tar,ih,tar];omega
theorem tar_sum:∀A:List Bb,(∀s,sumO A=some s→s.ar=tar A)
  |[]=>fun s h=>by cases h
  |a :: t=>fun s h=>by
    rw [sumO_cons] at h
    cases e:sumO t with
    |none=>
      rw [e] at h;cases h
      cases t with
      |nil=>simp [tar]
      |cons b t=>rw [sumO_cons] at e;cases h2:sumO t <;> rw [h2] at e <;> cases e
    |some b=>rw [e] at h;cases h;have:=tar_sum t b e;show a.ar+b.ar=_;rw [this];rfl
theorem tar_pos {A:List Bb} (h:∀x∈A,okb x):0≤tar A:=by
  induction A with
  |nil=>exact Int.le_refl _
  |cons a t ih=>have h1:=(h a (by simp)).1;have h2:=ih fun x hx=>h x (by simp [hx]);rw [tar];omega
theorem split2 {A:List Bb} {i:Nat} (h:i+1<A.length):∃P x Q y,A=P++x :: (Q++[y])∧P.length=i∧A.getD i b0=x∧A.getD (A.length - 1) b0=y∧∀v,(A.set i v).take (A.length - 1)=P++v :: Q:=by
  have hne:A.drop (i+1)≠[]:=fun e=>by have:=congrArg List.length e;rw [List.length_drop] at this;simp at this;omega
  have e1:A=A.take i++A[i] :: ((A.drop (i+1)).dropLast++[(A.drop (i+1)).getLast hne]):=by
    rw [List.dropLast_concat_getLast hne,←List.drop_eq_getElem_cons (show i<A.length by omega),List.take_append_drop]
  obtain ⟨P,hP⟩:∃P,P=A.take i:=⟨_,rfl⟩
  obtain ⟨Q,hQ⟩:∃Q,Q=(A.drop (i+1)).dropLast:=⟨_,rfl⟩
  obtain ⟨x,hx⟩:∃x,x=A[i]:=⟨_,rfl⟩
  obtain ⟨y,hy⟩:∃y,y=(A.drop (i+1)).getLast hne:=⟨_,rfl⟩
  rw [← hP,←hQ,←hx,←hy] at e1
  have hl:P.length=i:=by rw [hP,List.length_take];omega
  refine ⟨P,x,Q,y,e1,hl,?_,?_,fun v=> ?_⟩
  · rw [List.getD_eq_getElem?_getD,List.getElem?_eq_getElem (by omega),hx];rfl
  · rw [e1, List.getD_eq_getElem?_getD]
    have e2:(P++x :: (Q++[y])).length - 1=P.length+(Q.length+1):=by simp
    rw [e2,List.getElem?_append_right (by omega),Nat.add_sub_cancel_left,List.getElem?_cons_succ,List.getElem?_append_right (Nat.le_refl _)];simp
  · have e2 : A.length - 1 = P.length + (Q.length + 1) := by rw [e1]; simp
    rw [e2,e1,←hl,List.set_append_right _ _ (Nat.le_refl _),Nat.sub_self,List.set_cons_zero,List.take_append,List.take_of_length_le (by omega),Nat.add_sub_cancel_left,List.take_succ_cons,List.take_append,List.take_of_length_le (Nat.le_refl _),Nat.sub_self]
    simp
structure WhI (T:Option Bb) (N k:Nat) (A:List Bb):Prop where
  sum:sumO A=T
  ok:∀x∈A,okb x
  len:k+A.length=N
theorem WhI.step {T:Option Bb} {N k i:Nat} {A:List Bb} (h:WhI T N k A) (hT:∀s,T=some s→s.ar≤4096) (hi:i+1<A.length):
    okb (A.getD i b0)∧okb (A.getD (A.length - 1) b0)∧(A.getD i b0).ar+(A.getD (A.length - 1) b0).ar≤4096∧WhI T N (k+1) ((A.set i (tog (A.getD i b0) (A.getD (A.length - 1) b0))).take (A.length - 1)):=by
  obtain ⟨P,x,Q,y,e1,e2,e3,e4,e5⟩:=split2 hi
  rw [e5,e3,e4]
  have hx:okb x:=h.ok x (by rw [e1];simp)
  have hy:okb y:=h.ok y (by rw [e1];simp)
  have hP:=tar_pos (A:=P) fun z hz=>h.ok z (by rw [e1];simp [hz])
  have hQ:=tar_pos (A:=Q) fun z hz=>h.ok z (by rw [e1];simp [hz])
  have hs:x.ar+y.ar≤4096:=by
    cases e:T with
    |none=>
      have:=h.sum;rw [e1,e,sumO_append,sumO_cons] at this
      cases h1:sumO P <;> cases h2:sumO (Q++[y]) <;> rw [h1,h2] at this <;> cases this
    |some s=>
      have h1:=tar_sum A s (by rw [h.sum,e])
      rw [e1,tar_append,tar,tar_append,tar,tar] at h1
      have:=hT s e;omega
  refine ⟨hx,hy,hs,?_,fun z hz=> ?_,?_⟩
  · rw [← h.sum, e1, sumO_append, sumO_append, sumO_cons, sumO_cons, sumO_append, sumO_cons]
    have:sumO ([]:List Bb)=none:=rfl
    rw [this,om_none]
    congr 1
    rw [om_comm (sumO Q),←om_assoc];rfl
  · rcases List.mem_append.1 hz with a | a
    · exact h.ok z (by rw [e1];simp [a])
    · rcases List.mem_cons.1 a with a | a
      · rw [a];exact tog_ok hx hy hs
      · exact h.ok z (by rw [e1];simp [a])
  · have:=h.len;rw [e1] at this;simp only [List.length_append,List.length_cons,List.length_nil] at this ⊢;omega
theorem WhI.nil {T:Option Bb} {N k:Nat} {A:List Bb} (h:WhI T N k A) (hl:A.length=0):T=none:=by
  rw [← h.sum,List.length_eq_zero_iff.1 hl];rfl
theorem WhI.one {T:Option Bb} {N k:Nat} {A:List Bb} (h:WhI T N k A) (hl:A.length=1):A.getD 0 b0=gb T:=by
  obtain ⟨x,rfl⟩:=List.length_eq_one_iff.1 hl
  rw [← h.sum];rfl
end Go.Proofs.Ytefbbhiaalcjfaa.Fl
namespace Go.Proofs.Ytefbbhiaalcjfaa.Sp
open Go
set_option linter.unusedVariables false
set_option maxRecDepth 100000
set_option maxHeartbeats 1000000
theorem zhe {w:Int} {h:Int} {m:Int} {p:Option Addr} {n:Nat} {cap:Nat} {l:List Int} {th:Int} (hn:l.length=n) (hok9:Bl.rok w h m l∧0≤th∧th≤65536):Con Try.prog 17 [.agg #[.int .i64 w,.int .i64 h,.int .i64 m,.slice p n cap],.int .i64 th] [] [slF (rI .i64) p cap l] (Y:=(Option Addr)×Nat×(List Bb)) (fun y=>Fl.BlsR w h m l th y.2.2) (fun y=> .tuple #[.slice (y.1) (y.2.2.length) (y.2.1),.int .i64 0]) (fun y=>[rowA 51 (rI13 .i64) (y.1) (y.2.1) (y.2.2)]) (fun y=>[]):=by
 refine zr Try.func17 rfl rfl rfl (fun c=> ?_)
 show RunC _ _ _ _ _ [(0,.agg #[.int .i64 w,.int .i64 h,.int .i64 m,.slice p n cap]),(1,.int .i64 th)] [] [slF (rI .i64) p cap l]
 refine zea 0 rfl (fun hL0=> ?_)
 refine zi<|zc<|zQ rfl rfl (zV rfl rfl) (fun b1=> ?_)
 refine r_pv rfl rfl (zd rfl)<|r_pv rfl rfl (zd rfl)<|zj<|zf<|zi<|zi<|zc<|r_u rfl rfl (zh 0 ty24 rfl rfl (.take (.take (.take (.take .nil)))))<|r_pv rfl rfl (zb rfl)<|zM rfl rfl (.c rfl (.c rfl .n)) ce33 (zqb (w:=w) (h:=h) (m:=m) (p:=p) (n:=n) (cap:=cap) (l:=l) (th:=th) (hn:=by assumption)) (.c (j:=0) rfl .n)<|r_pv rfl rfl (zd rfl)<|zj<|zf<|zi<|zc<|r_pv rfl rfl (zb rfl)<|r_pv rfl rfl (zCa rfl rfl)<|zj<|zf<|zC rfl (fun hc=> ?_) (fun hc=> ?_)
 ·
  exact absurd (Fl.ask0.2 hok9) hc
 ·
  have hok:=Fl.ask0.1 (Decidable.not_not.1 hc)
  obtain ⟨wn,hn9,rfl,rfl,hw9,hh9,hwh,hb9⟩:=Fl.rok_n hok.1 hn
  refine zy<|zf<|zi<|zc<|r_u rfl rfl (zh 0 ty24 rfl rfl (.take (.take (.take (.take .nil)))))<|r_pv rfl rfl (zb rfl)<|zA rfl rfl (.c rfl (.c rfl .n)) ce34 (zBb (w:=wn) (h:=hn9) (m:=m) (p:=p) (n:=n) (cap:=cap) (l:=l) (th:=th) (hn:=by assumption) (hw:=by first|rfl|assumption|omega) (hh:=by first|rfl|assumption|omega) (hwh:=by first|rfl|assumption|omega) (hb:=by first|rfl|assumption|omega)) (.c (j:=0) rfl .n) ?_
  rintro ⟨p32,c33,o,cc⟩ hcl
  dsimp only [List.append_eq,List.nil_append,List.cons_append]
  replace hcl:Fl.Lst (fun j=>Fl.ge l th j=true) (Fl.nb false wn n) cc∧Fl.OutI n (Fl.ge l th) cc n o:=hcl
  refine r_pv rfl rfl (zb rfl)<|r_pv rfl rfl (zp rfl rfl)<|r_pv rfl rfl (zp rfl rfl)<|r_pv rfl rfl (zd rfl)<|r_pv rfl rfl (zd rfl)<|zj<|zf<|zi ?_
  have hin:∀j,(Fl.ge l th) j=true→j<n:=fun j hj=>by have:=Fl.ge_lt hj;omega
  have hLC:=hcl.2.labc hcl.1 hin
  have hol:=hLC.len
  have hcn:=Fl.cnt_le (Fl.ldr (Fl.ge l th) cc) n
  refine zc<|r_pv rfl rfl (zb rfl)<|zxa rfl rfl (zWa (r:=rI13 .i64) (k:=(Fl.cnt (Fl.ldr (Fl.ge l th) cc) n)) (x0:=b0) (γ0:=()) Try.underlying35 inf51 rfl rfl rfl rfl (by omega) (by omega) rfl (fun _ _=>by exact okB_0) (by decide)) (fun b4 _=> ?_)
  refine r_pv rfl rfl (zd rfl)<|zj<|zf<|zi<|zi<|zc<|r_pv rfl rfl (zb rfl)<|r_pv rfl rfl (zK Try.underlying22 rfl)<|r_pv rfl rfl (zb rfl)<|zj<|zf<|zB<|zna (X:=Nat×(List Bb)) (fun x:Nat×(List Bb)=>x.1≤n∧Fl.TbI wn l o (Fl.cnt (Fl.ldr (Fl.ge l th) cc) n) x.1 x.2) (fun x=>[(32,.int .i64 ((x.1:Nat):Int)),(31,.int .i64 ((n:Nat):Int)),(30,.slice p32 n c33),(9,.slice (some ⟨b4,0,none⟩) (Fl.cnt (Fl.ldr (Fl.ge l th) cc) n) (Fl.cnt (Fl.ldr (Fl.ge l th) cc) n)),(5,.int .i64 0),(4,.slice none 0 0),(2,.pointer (some ⟨b1,0,none⟩))]) (fun x=>[rowA 51 (rI13 .i64) (some ⟨b4,0,none⟩) (Fl.cnt (Fl.ldr (Fl.ge l th) cc) n) (x.2),boxA b1 24 [.int .i64 ((wn:Nat):Int),.int .i64 ((hn9:Nat):Int),.int .i64 m,.slice p n cap]]) (fun x=>[slF (rI .i64) p32 c33 o,slF (rI .i64) p cap l]) (fun x:Nat×(List Bb)=>n - x.1) (0,List.replicate (Fl.cnt (Fl.ldr (Fl.ge l th) cc) n) b0) (show 0≤n∧Fl.TbI wn l o (Fl.cnt (Fl.ldr (Fl.ge l th) cc) n) 0 (List.replicate (Fl.cnt (Fl.ldr (Fl.ge l th) cc) n) b0) from by exact ⟨Nat.zero_le _,Fl.TbI.start⟩) ((.e rfl (by first|rfl|(congr 1;omega)|simp_all) (.of rfl)):SubM _ _) (ho:=((.of [0,0] rfl):PickO _ _ _)) ((.of [0,1] rfl):SelR _ _ _) ?_
  rintro ⟨i,A⟩ hI
  replace hI:i≤n∧Fl.TbI wn l o (Fl.cnt (Fl.ldr (Fl.ge l th) cc) n) i A:=hI
  try dsimp only
  obtain ⟨hi,hT⟩:=hI
  have hAl:=hT.len
  refine zi<|zc<|r_pv rfl rfl (zW rfl rfl)<|zj<|zf<|zi<|zC rfl (fun h5=> ?_) (fun h5=> ?_)
  ·
   refine zy<|zf<|zi<|zB<|zi<|zc<|r_pv rfl rfl (zb rfl)<|zO (x0:=(o.getD i 0)) 0 i rfl Try.underlying22 sz3 rfl rfl rfl (by first|rfl|assumption|(simp_all;done)|omega) rfl rfl (gD (d:=0) (by omega)) (fun b6 o7 hok8=> ?_)
   replace hok8:=zk.1 hok8
   refine r_u rfl rfl (zn (j:=0) 0 ty3 rfl rfl rfl rfl)<|r_pv rfl rfl (zd rfl)<|r_pv rfl rfl (zd rfl)<|zj<|zf<|zi<|zi<|zc<|r_pv rfl rfl (zb rfl)<|r_pv rfl rfl (zW rfl rfl)<|zj<|zf<|zC rfl (fun hneg=> ?_) (fun hneg=> ?_)
   ·
    refine zha<|zm<|zv<|zf<|zc<|r_pv rfl rfl (zz (z:=(((i+1):Nat):Int)) rfl rfl (w64 (by omega)))<|r_pv rfl rfl (zb rfl)<|zj<|zZ ((i+1),A) (show (i+1)≤n∧Fl.TbI wn l o (Fl.cnt (Fl.ldr (Fl.ge l th) cc) n) (i+1) A from by exact ⟨by omega,hT.skip hneg⟩) (by show n - (i+1)<n - i;omega) ((.of rfl):SubM _ _) (ho:=((.of [0,0] rfl):PickO _ _ _)) ((.of [1,2] rfl):SelR _ _ _)
   ·
    have hqd:=Nat.div_le_self i wn
    have hq0:=Int.natCast_nonneg (i / wn)
    have hm0:=Int.natCast_nonneg (i%wn)
    have hfi:(Fl.ge l th) i=true:=(hLC.pos (by omega)).1 (by omega)
    obtain ⟨hlt9,hge9⟩:=hLC.lt hcl.1 hin (show i<n by omega) hfi
    obtain ⟨kk,hkk⟩:∃kk:Nat,o.getD i 0=(kk:Int):=⟨(o.getD i 0).toNat,by omega⟩
    have e9:((o.getD i 0):Int)=((kk:Nat):Int):=by exact hkk
    rw [e9]
    have hkN:kk<(Fl.cnt (Fl.ldr (Fl.ge l th) cc) n):=by omega
    have hget:=hT.get kk hkN
    have hacc:=Fl.acc_ok (l:=l) (o:=o) (k:=(kk:Int)) hw9 hh9.2 hwh hb9 (Fl.rok_g hok.1 hn) i (by omega)
    refine zy<|zf<|zi<|zia (OW:=[]) (O:=[rowA 51 (rI13 .i64) (some ⟨b4,0,none⟩) (Fl.cnt (Fl.ldr (Fl.ge l th) cc) n) A,boxA b1 24 [.int .i64 ((wn:Nat):Int),.int .i64 ((hn9:Nat):Int),.int .i64 m,.slice p n cap]]) 100000 mixed (.then (.block (.then (.then (.block (.then .ret)))))) (by kernel_rfl)<|d_pv 0 rfl rfl (by kernel_rfl) (by kernel_rfl) rfl rfl (zb rfl)<|d_pv 1 rfl rfl (by kernel_rfl) (by kernel_rfl) rfl rfl (zg Try.underlying24 rfl sz3 rfl rfl)<|d_u 2 rfl rfl (by kernel_rfl) (by kernel_rfl) rfl rfl (ze 1 ty3 rfl rfl rfl)<|d_pv 3 rfl rfl (by kernel_rfl) (by kernel_rfl) rfl rfl (zFa (z:=(((i%wn):Nat):Int)) rfl rfl (by omega) (remN (by omega) (by omega)))<|d_pv 4 rfl rfl (by kernel_rfl) (by kernel_rfl) rfl rfl (zb rfl)<|d_pv 5 rfl rfl (by kernel_rfl) (by kernel_rfl) rfl rfl (zg Try.underlying24 rfl sz3 rfl rfl)<|d_u 6 rfl rfl (by kernel_rfl) (by kernel_rfl) rfl rfl (ze 1 ty3 rfl rfl rfl)<|d_pv 7 rfl rfl (by kernel_rfl) (by kernel_rfl) rfl rfl (zHa (z:=(((i / wn):Nat):Int)) rfl rfl (by omega) (by rw [quoN (z:=(((i / wn):Nat):Int)) (by omega) (by omega)];exact w64 (by omega)))<|d_pv 8 rfl rfl (by kernel_rfl) (by kernel_rfl) rfl rfl (zg Try.underlying24 rfl sz22 rfl rfl)<|d_u 9 rfl rfl (by kernel_rfl) (by kernel_rfl) rfl rfl (ze 1 ty22 rfl rfl rfl)<|d_pv 10 rfl rfl (by kernel_rfl) (by kernel_rfl) rfl rfl (zb rfl)<|zqa (x0:=(l.getD i 0)) 11 rfl rfl (by kernel_rfl) (by kernel_rfl) 2 i rfl Try.underlying22 sz3 rfl rfl rfl (by first|rfl|assumption|(simp_all;done)|omega) rfl rfl (gD (d:=0) (by omega)) (fun b10 o11 hok12=> ?_)
    replace hok12:=zk.1 hok12
    refine d_u 12 rfl rfl (by kernel_rfl) (by kernel_rfl) rfl rfl (zn (j:=0) 0 ty3 rfl rfl rfl rfl)<|d_pv 13 rfl rfl (by kernel_rfl) (by kernel_rfl) rfl rfl (zd rfl)<|d_pv 14 rfl rfl (by kernel_rfl) (by kernel_rfl) rfl rfl (zd rfl)<|d_pv 15 rfl rfl (by kernel_rfl) (by kernel_rfl) rfl rfl (zd rfl)<|zfa (by kernel_rfl)<|zf<|zi ?_
    obtain ⟨kx,hkx⟩:∃z,z=(i%wn):=⟨_,rfl⟩
    rw [← hkx]
    obtain ⟨ky,hky⟩:∃z,z=(i / wn):=⟨_,rfl⟩
    rw [← hky]
    obtain ⟨kg,hkg⟩:∃z,z=(l.getD i 0):=⟨_,rfl⟩
    rw [← hkg]
    have hkxb:kx≤63:=by rw [hkx];have:=Nat.mod_lt i (show 0<wn by omega);omega
    have hkyb:ky≤63:=by rw [hky];have:=Nat.div_lt_of_lt_mul (show i<wn*hn9 by omega);omega
    have hkgb:0≤kg∧kg≤65535:=by rw [hkg];exact Fl.rok_g hok.1 hn i (by omega)
    have hp1:kx*kx≤63*63:=Nat.mul_le_mul hkxb hkxb
    have hp2:kx*ky≤63*63:=Nat.mul_le_mul hkxb hkyb
    have hp3:ky*ky≤63*63:=Nat.mul_le_mul hkyb hkyb
    have hp4:=Bl.mul_b (x:=kg) (y:=(kx:Int)) (m:=65535) (n:=63) hkgb (by omega)
    have hp5:=Bl.mul_b (x:=kg) (y:=(ky:Int)) (m:=65535) (n:=63) hkgb (by omega)
    have hO1:Fl.okb (Fl.one wn l i):=Fl.one_ok hw9 hh9.2 hwh (by omega) (Fl.rok_g hok.1 hn i (by omega))
    refine zc<|r_pv rfl rfl (zb rfl)<|r_pv rfl rfl (zb rfl)<|r_pv rfl rfl (zb rfl)<|r_pv rfl rfl (zb rfl)<|r_pv rfl rfl (zb rfl)<|r_pv rfl rfl (zb rfl)<|r_pv rfl rfl (zb rfl)<|r_pv rfl rfl (zb rfl)<|r_pv rfl rfl (zga (z:=(((kx*kx):Nat):Int)) rfl rfl (w64 (by omega)))<|r_pv rfl rfl (zb rfl)<|r_pv rfl rfl (zb rfl)<|r_pv rfl rfl (zga (z:=(((kx*ky):Nat):Int)) rfl rfl (w64 (by omega)))<|r_pv rfl rfl (zb rfl)<|r_pv rfl rfl (zb rfl)<|r_pv rfl rfl (zga (z:=(((ky*ky):Nat):Int)) rfl rfl (w64 (by omega)))<|r_pv rfl rfl (zb rfl)<|r_pv rfl rfl (zb rfl)<|r_pv rfl rfl (zb rfl)<|r_pv rfl rfl (zga (z:=(kg*((kx:Nat):Int))) rfl rfl (w64 (by omega)))<|r_pv rfl rfl (zb rfl)<|r_pv rfl rfl (zb rfl)<|r_pv rfl rfl (zga (z:=(kg*((ky:Nat):Int))) rfl rfl (w64 (by omega)))<|r_pv rfl rfl (zG zr51 rfl Try.underlying51 (.c sz3 (.c sz3 (.c sz3 (.c sz3 (.c sz3 (.c sz3 (.c sz3 (.c sz3 (.c sz3 (.c sz3 (.c sz3 (.c sz3 (.c sz3 .n))))))))))))) (.c rfl (.c rfl (.c rfl (.c rfl (.c rfl (.c rfl (.c rfl (.c rfl (.c rfl (.c rfl (.c rfl (.c rfl (.c rfl .n))))))))))))) (.c rfl rfl rfl (.take .nil) (.c rfl rfl rfl (.skip (.take .nil)) (.c rfl rfl rfl (.skip (.skip (.skip (.take .nil)))) (.c rfl rfl rfl (.skip (.skip (.take .nil))) (.c rfl rfl rfl (.skip (.skip (.skip (.skip (.take .nil))))) (.c rfl rfl rfl (.skip (.skip (.skip (.skip (.skip (.take .nil)))))) (.c rfl rfl rfl (.skip (.skip (.skip (.skip (.skip (.skip (.take .nil))))))) (.c rfl rfl rfl (.skip (.skip (.skip (.skip (.skip (.skip (.skip (.take .nil)))))))) (.c rfl rfl rfl (.skip (.skip (.skip (.skip (.skip (.skip (.skip (.skip (.take .nil))))))))) (.c rfl rfl rfl (.skip (.skip (.skip (.skip (.skip (.skip (.skip (.skip (.skip (.take .nil)))))))))) (.c rfl rfl rfl (.skip (.skip (.skip (.skip (.skip (.skip (.skip (.skip (.skip (.skip (.take .nil))))))))))) (.c rfl rfl rfl (.skip (.skip (.skip (.skip (.skip (.skip (.skip (.skip (.skip (.skip (.skip (.take .nil)))))))))))) (.c rfl rfl rfl (.skip (.skip (.skip (.skip (.skip (.skip (.skip (.skip (.skip (.skip (.skip (.skip (.take .nil))))))))))))) .n))))))))))))))<|zQ rfl rfl (zE zr51 rfl) (fun b13=> ?_)
    refine zo 0 rfl rfl rfl rfl rfl sz51 rfl (.take (.take (.take (.take (.take (.take (.take (.take (.take (.take (.take (.take (.take .nil))))))))))))) .z<|zj<|zf<|zi<|zc<|r_pv rfl rfl (zb rfl)<|r_pv rfl rfl (zb rfl)<|r_pv rfl rfl (zP (j:=kk) Try.underlying35 sz51 rfl rfl rfl (by omega))<|r_u rfl rfl (zUb 1 rfl Try.underlying51 rfl sz3 rfl (by omega) rfl)<|r_vl rfl rfl (zsb (x0:=(A.getD kk b0)) (v:= .int .i64 ((A.getD kk b0).ar)) 1 kk 0 rfl ty3 rfl rfl (gD (d:=b0) (by omega)) rfl) (fun _ hok14=> ?_)
    obtain ⟨hok140,hok141,hok142,hok143,hok144,hok145,hok146,hok147,hok148,hok149,hok1410,hok1411,hok1412⟩:=hok14
    replace hok140:=zk.1 hok140
    replace hok141:=zk.1 hok141
    replace hok142:=zk.1 hok142
    replace hok143:=zk.1 hok143
    replace hok144:=zk.1 hok144
    replace hok145:=zk.1 hok145
    replace hok146:=zk.1 hok146
    replace hok147:=zk.1 hok147
    replace hok148:=zk.1 hok148
    replace hok149:=zk.1 hok149
    replace hok1410:=zk.1 hok1410
    replace hok1411:=zk.1 hok1411
    replace hok1412:=zk.1 hok1412
    refine r_pv rfl rfl (zAa rfl rfl)<|zj<|zf<|zC rfl (fun hz=> ?_) (fun hz=> ?_)
    ·
     have hnew:=Fl.gb_new hkk (by rw [← hget];exact hz) (fun a ha=>(hacc a ha).1)
     refine zc<|r_pv rfl rfl (zb rfl)<|r_pv rfl rfl (zb rfl)<|r_u rfl rfl (zh 0 ty51 rfl rfl (.take (.take (.take (.take (.take (.take (.take (.take (.take (.take (.take (.take (.take .nil))))))))))))))<|r_pv rfl rfl (zP (j:=kk) Try.underlying35 sz51 rfl rfl rfl (by omega))<|zya 1 rfl rfl rfl (zN (j:=kk) (x0:=(⟨1,((kx:Nat):Int),((ky:Nat):Int),((kx:Nat):Int),((ky:Nat):Int),((kx:Nat):Int),((ky:Nat):Int),(((kx*kx):Nat):Int),(((kx*ky):Nat):Int),(((ky*ky):Nat):Int),kg,(kg*((kx:Nat):Int)),(kg*((ky:Nat):Int))⟩:Bb)) (γ0:=()) rfl rfl (by first|omega|(rw [List.length_map];omega)|(simp only [List.length_set];omega)|(simp;omega)) rfl rfl sz51 (fun _ _=>by exact ⟨zk.2 (by first|omega|decide|(dsimp only;omega)),zk.2 (by first|omega|decide|(dsimp only;omega)),zk.2 (by first|omega|decide|(dsimp only;omega)),zk.2 (by first|omega|decide|(dsimp only;omega)),zk.2 (by first|omega|decide|(dsimp only;omega)),zk.2 (by first|omega|decide|(dsimp only;omega)),zk.2 (by first|omega|decide|(dsimp only;omega)),zk.2 (by first|omega|decide|(dsimp only;omega)),zk.2 (by first|omega|decide|(dsimp only;omega)),zk.2 (by first|omega|decide|(dsimp only;omega)),zk.2 (by first|omega|decide|(dsimp only;omega)),zk.2 (by first|omega|decide|(dsimp only;omega)),zk.2 (by first|omega|decide|(dsimp only;omega))⟩)) (fun _=>(.s .z)) (fun _ _=> ?_)
     refine zj<|zS<|zf<|zc<|r_pv rfl rfl (zz (z:=(((i+1):Nat):Int)) rfl rfl (w64 (by omega)))<|r_pv rfl rfl (zb rfl)<|zj<|zZ ((i+1),(A.set kk (⟨1,((kx:Nat):Int),((ky:Nat):Int),((kx:Nat):Int),((ky:Nat):Int),((kx:Nat):Int),((ky:Nat):Int),(((kx*kx):Nat):Int),(((kx*ky):Nat):Int),(((ky*ky):Nat):Int),kg,(kg*((kx:Nat):Int)),(kg*((ky:Nat):Int))⟩:Bb))) (show (i+1)≤n∧Fl.TbI wn l o (Fl.cnt (Fl.ldr (Fl.ge l th) cc) n) (i+1) (A.set kk (⟨1,((kx:Nat):Int),((ky:Nat):Int),((kx:Nat):Int),((ky:Nat):Int),((kx:Nat):Int),((ky:Nat):Int),(((kx*kx):Nat):Int),(((kx*ky):Nat):Int),(((ky*ky):Nat):Int),kg,(kg*((kx:Nat):Int)),(kg*((ky:Nat):Int))⟩:Bb)) from by exact ⟨by omega,hT.put hkN hkk (by rw [← hnew,hkx,hky,hkg];rfl)⟩) (by show n - (i+1)<n - i;omega) ((.of rfl):SubM _ _) (ho:=((.of [1,1] rfl):PickO _ _ _)) ((.of [2,3] rfl):SelR _ _ _)
    ·
     have hold:=Fl.gb_old (w:=wn) (l:=l) hkk (by rw [← hget];exact hz)
     have hA1:Fl.okb (A.getD kk b0):=by rw [hget];exact (Fl.gb_ok (by rw [← hget];exact hz) hacc).1
     rw [← hget] at hold
     have hbd1:=Bl.ok_bd hA1
     unfold Bl.bd at hbd1
     refine zBa (.c (i:=1) rfl (.c (i:=0) rfl (.c (i:=0) rfl .n)))<|zia (OW:=[rowA 51 (rI13 .i64) (some ⟨b4,0,none⟩) (Fl.cnt (Fl.ldr (Fl.ge l th) cc) n) A]) (O:=[boxA b13 51 [.int .i64 1,.int .i64 ((kx:Nat):Int),.int .i64 ((ky:Nat):Int),.int .i64 ((kx:Nat):Int),.int .i64 ((ky:Nat):Int),.int .i64 ((kx:Nat):Int),.int .i64 ((ky:Nat):Int),.int .i64 (((kx*kx):Nat):Int),.int .i64 (((kx*ky):Nat):Int),.int .i64 (((ky*ky):Nat):Int),.int .i64 kg,.int .i64 (kg*((kx:Nat):Int)),.int .i64 (kg*((ky:Nat):Int))],boxA b1 24 [.int .i64 ((wn:Nat):Int),.int .i64 ((hn9:Nat):Int),.int .i64 m,.slice p n cap]]) 9 mixed (.block (.then (.then (.block (.then .ret))))) (by kernel_rfl)<|d_pv 0 rfl rfl (by kernel_rfl) (by kernel_rfl) rfl rfl (zb rfl)<|d_pv 1 rfl rfl (by kernel_rfl) (by kernel_rfl) rfl rfl (zb rfl)<|d_pv 2 rfl rfl (by kernel_rfl) (by kernel_rfl) rfl rfl (zb rfl)<|d_pv 3 rfl rfl (by kernel_rfl) (by kernel_rfl) rfl rfl (zb rfl)<|d_pv 4 rfl rfl (by kernel_rfl) (by kernel_rfl) rfl rfl (zP (j:=kk) Try.underlying35 sz51 rfl rfl rfl (by omega))<|zvf 5 rfl rfl (by kernel_rfl) (by kernel_rfl) (by kernel_rfl) rfl rfl (zza 0 kk rfl ty51 rfl rfl (gD (d:=b0) (by omega))) (fun _ hok15=> ?_)
     obtain ⟨hok150,hok151,hok152,hok153,hok154,hok155,hok156,hok157,hok158,hok159,hok1510,hok1511,hok1512⟩:=hok15
     replace hok150:=zk.1 hok150
     replace hok151:=zk.1 hok151
     replace hok152:=zk.1 hok152
     replace hok153:=zk.1 hok153
     replace hok154:=zk.1 hok154
     replace hok155:=zk.1 hok155
     replace hok156:=zk.1 hok156
     replace hok157:=zk.1 hok157
     replace hok158:=zk.1 hok158
     replace hok159:=zk.1 hok159
     replace hok1510:=zk.1 hok1510
     replace hok1511:=zk.1 hok1511
     replace hok1512:=zk.1 hok1512
     refine d_uw 6 rfl rfl (by kernel_rfl) (by kernel_rfl) (by kernel_rfl) rfl rfl (zh 1 ty51 rfl rfl (.take (.take (.take (.take (.take (.take (.take (.take (.take (.take (.take (.take (.take .nil))))))))))))))<|zT 7 (by kernel_rfl) (zVa rfl rfl rfl rfl (.c rfl (.c rfl .n)) ce40 (zOb (ar1:=(A.getD kk b0).ar) (le1:=(A.getD kk b0).le) (tp1:=(A.getD kk b0).tp) (rt1:=(A.getD kk b0).rt) (bt1:=(A.getD kk b0).bt) (sx1:=(A.getD kk b0).sx) (sy1:=(A.getD kk b0).sy) (xx1:=(A.getD kk b0).xx) (xy1:=(A.getD kk b0).xy) (yy1:=(A.getD kk b0).yy) (ms1:=(A.getD kk b0).ms) (mx1:=(A.getD kk b0).mx) (my1:=(A.getD kk b0).my) (ar2:=1) (le2:=((kx:Nat):Int)) (tp2:=((ky:Nat):Int)) (rt2:=((kx:Nat):Int)) (bt2:=((ky:Nat):Int)) (sx2:=((kx:Nat):Int)) (sy2:=((ky:Nat):Int)) (xx2:=(((kx*kx):Nat):Int)) (xy2:=(((kx*ky):Nat):Int)) (yy2:=(((ky*ky):Nat):Int)) (ms2:=kg) (mx2:=(kg*((kx:Nat):Int))) (my2:=(kg*((ky:Nat):Int))) (hb1:=by exact Bl.ok_bd hA1) (hb2:=by exact Bl.ok_bd (by rw [hkx,hky,hkg];exact hO1))) (.n) ?_)
     refine d_pv 8 rfl rfl (by kernel_rfl) (by kernel_rfl) rfl rfl (zP (j:=kk) Try.underlying35 sz51 rfl rfl rfl (by omega))<|zT 9 (by kernel_rfl) (zke (A':=fun _=>rowA 51 (rI13 .i64) (some ⟨b4,0,none⟩) (Fl.cnt (Fl.ldr (Fl.ge l th) cc) n) (A.set kk (⟨(((A.getD kk b0).ar)+1),(min ((A.getD kk b0).le) ((kx:Nat):Int)),(min ((A.getD kk b0).tp) ((ky:Nat):Int)),(max ((A.getD kk b0).rt) ((kx:Nat):Int)),(max ((A.getD kk b0).bt) ((ky:Nat):Int)),(((A.getD kk b0).sx)+((kx:Nat):Int)),(((A.getD kk b0).sy)+((ky:Nat):Int)),(((A.getD kk b0).xx)+(((kx*kx):Nat):Int)),(((A.getD kk b0).xy)+(((kx*ky):Nat):Int)),(((A.getD kk b0).yy)+(((ky*ky):Nat):Int)),(((A.getD kk b0).ms)+kg),(((A.getD kk b0).mx)+(kg*((kx:Nat):Int))),(((A.getD kk b0).my)+(kg*((ky:Nat):Int)))⟩:Bb))) (by kernel_rfl) rfl rfl rfl (zN (j:=kk) (x0:=(⟨(((A.getD kk b0).ar)+1),(min ((A.getD kk b0).le) ((kx:Nat):Int)),(min ((A.getD kk b0).tp) ((ky:Nat):Int)),(max ((A.getD kk b0).rt) ((kx:Nat):Int)),(max ((A.getD kk b0).bt) ((ky:Nat):Int)),(((A.getD kk b0).sx)+((kx:Nat):Int)),(((A.getD kk b0).sy)+((ky:Nat):Int)),(((A.getD kk b0).xx)+(((kx*kx):Nat):Int)),(((A.getD kk b0).xy)+(((kx*ky):Nat):Int)),(((A.getD kk b0).yy)+(((ky*ky):Nat):Int)),(((A.getD kk b0).ms)+kg),(((A.getD kk b0).mx)+(kg*((kx:Nat):Int))),(((A.getD kk b0).my)+(kg*((ky:Nat):Int)))⟩:Bb)) (γ0:=()) rfl rfl (by first|omega|(rw [List.length_map];omega)|(simp only [List.length_set];omega)|(simp;omega)) rfl rfl sz51 (fun _ _=>by exact ⟨zk.2 (by first|omega|decide|(dsimp only;omega)),zk.2 (by first|omega|decide|(dsimp only;omega)),zk.2 (by first|omega|decide|(dsimp only;omega)),zk.2 (by first|omega|decide|(dsimp only;omega)),zk.2 (by first|omega|decide|(dsimp only;omega)),zk.2 (by first|omega|decide|(dsimp only;omega)),zk.2 (by first|omega|decide|(dsimp only;omega)),zk.2 (by first|omega|decide|(dsimp only;omega)),zk.2 (by first|omega|decide|(dsimp only;omega)),zk.2 (by first|omega|decide|(dsimp only;omega)),zk.2 (by first|omega|decide|(dsimp only;omega)),zk.2 (by first|omega|decide|(dsimp only;omega)),zk.2 (by first|omega|decide|(dsimp only;omega))⟩)) (fun _ _=> ?_))
     refine zfa (by kernel_rfl)<|zS<|zf<|zc<|r_pv rfl rfl (zz (z:=(((i+1):Nat):Int)) rfl rfl (w64 (by omega)))<|r_pv rfl rfl (zb rfl)<|zj<|zZ ((i+1),(A.set kk (⟨(((A.getD kk b0).ar)+1),(min ((A.getD kk b0).le) ((kx:Nat):Int)),(min ((A.getD kk b0).tp) ((ky:Nat):Int)),(max ((A.getD kk b0).rt) ((kx:Nat):Int)),(max ((A.getD kk b0).bt) ((ky:Nat):Int)),(((A.getD kk b0).sx)+((kx:Nat):Int)),(((A.getD kk b0).sy)+((ky:Nat):Int)),(((A.getD kk b0).xx)+(((kx*kx):Nat):Int)),(((A.getD kk b0).xy)+(((kx*ky):Nat):Int)),(((A.getD kk b0).yy)+(((ky*ky):Nat):Int)),(((A.getD kk b0).ms)+kg),(((A.getD kk b0).mx)+(kg*((kx:Nat):Int))),(((A.getD kk b0).my)+(kg*((ky:Nat):Int)))⟩:Bb))) (show (i+1)≤n∧Fl.TbI wn l o (Fl.cnt (Fl.ldr (Fl.ge l th) cc) n) (i+1) (A.set kk (⟨(((A.getD kk b0).ar)+1),(min ((A.getD kk b0).le) ((kx:Nat):Int)),(min ((A.getD kk b0).tp) ((ky:Nat):Int)),(max ((A.getD kk b0).rt) ((kx:Nat):Int)),(max ((A.getD kk b0).bt) ((ky:Nat):Int)),(((A.getD kk b0).sx)+((kx:Nat):Int)),(((A.getD kk b0).sy)+((ky:Nat):Int)),(((A.getD kk b0).xx)+(((kx*kx):Nat):Int)),(((A.getD kk b0).xy)+(((kx*ky):Nat):Int)),(((A.getD kk b0).yy)+(((ky*ky):Nat):Int)),(((A.getD kk b0).ms)+kg),(((A.getD kk b0).mx)+(kg*((kx:Nat):Int))),(((A.getD kk b0).my)+(kg*((ky:Nat):Int)))⟩:Bb)) from by exact ⟨by omega,hT.put hkN hkk (by rw [← hold,hkx,hky,hkg];rfl)⟩) (by show n - (i+1)<n - i;omega) ((.of rfl):SubM _ _) (ho:=((.of [0,1] rfl):PickO _ _ _)) ((.of [2,3] rfl):SelR _ _ _)
  ·
   refine zha<|zm<|zm<|zv<|zf<|zi<|zc<|r_pv rfl rfl (zb rfl)<|r_pv rfl rfl (zd rfl)<|r_pv rfl rfl (zd rfl)<|zj<|zf<|zI ?_
   have hin8:i=n:=by omega
   rw [hin8] at hT
   exact zta Try.results17 (some ⟨b4,0,none⟩,(Fl.cnt (Fl.ldr (Fl.ge l th) cc) n),A) (Fl.BlsR.yes hok hn hcl.1 hLC hT.fin) (zq rfl) (zq rfl) (by rw [hAl]) (ho:=((.c (i:=0) rfl .n):PickO _ _ _)) (.n:SelR _ _ _)
end Go.Proofs.Ytefbbhiaalcjfaa.Sp
namespace Go.Proofs.Ytefbbhiaalcjfaa.Sp
open Go
set_option linter.unusedVariables false
set_option maxRecDepth 100000
set_option maxHeartbeats 1000000
theorem zRc {w:Int} {h:Int} {m:Int} {p:Option Addr} {n:Nat} {cap:Nat} {l:List Int} {th:Int} {po:Option Addr} {no:Nat} {co:Nat} {lq:List Int} (hn:l.length=n) (hno:lq.length=no):Con Try.prog 8 [.agg #[.int .i64 w,.int .i64 h,.int .i64 m,.slice p n cap],.int .i64 th,.slice po no co] [] [slF (rI .i64) p cap l,slF (rI .u8) po co lq] (Y:=Unit) (fun y=>True) (fun y=> .bool true) (fun y=>[]) (fun y=>[]):=by
 refine zr Try.func8 rfl rfl rfl (fun c=> ?_)
 show RunC _ _ _ _ _ [(0,.agg #[.int .i64 w,.int .i64 h,.int .i64 m,.slice p n cap]),(1,.int .i64 th),(2,.slice po no co)] [] [slF (rI .i64) p cap l,slF (rI .u8) po co lq]
 refine zea 0 rfl (fun hL0=> ?_)
 refine zea 1 rfl (fun hL1=> ?_)
 refine zi<|zc<|zQ rfl rfl (zV rfl rfl) (fun b1=> ?_)
 refine r_pv rfl rfl (zd rfl)<|zj<|zf<|zi<|zi<|zc<|zM rfl rfl (.n) ce9 (zYe) (.n)<|r_pv rfl rfl (zDb rfl)<|zj<|zf<|zUa rfl rfl<|zy<|zf<|zi<|zRa (X:=Unit) (fun x=>True) (fun x=>[(29,.bool (decide (¬(((n:Nat):Int)≤200∧(if Bl.rok w h m l then (if 0≤th∧th≤65536 then (0:Int) else 2) else 1)=0)))),(6,.bool false),(3,.pointer (some ⟨b1,0,none⟩)),(1,.int .i64 th),(2,.slice po no co)]) (fun x=>[boxA b1 24 [.int .i64 w,.int .i64 h,.int .i64 m,.slice p n cap]]) (fun x=>[slF (rI .i64) p cap l,slF (rI .u8) po co lq]) ?_ ?_
 ·
  refine zc<|r_u rfl rfl (zh 0 ty24 rfl rfl (.take (.take (.take (.take .nil)))))<|zM rfl rfl (.c rfl .n) ce10 (zIf (w:=w) (h:=h) (m:=m) (p:=p) (n:=n) (cap:=cap) (l:=l) (hn:=by assumption)) (.c (j:=0) rfl .n)<|r_pv rfl rfl (zkb rfl)<|zR rfl rfl (zb rfl) (fun h2=> ?_) (fun h2=> ?_)
  ·
   refine za rfl rfl<|za rfl rfl<|za rfl rfl<|za rfl rfl<|r_pv rfl rfl (zl rfl rfl)<|zj ?_
   exact zca () (show True from by first|trivial|omega|simp_all) ((.e rfl (congrArg Value.bool (by exact Eq.symm (decide_eq_true (fun h9=> ‹¬(((n:Nat):Int)≤200)› h9.1)))) (.of rfl)):SubM _ _) (ho:=((.c (i:=0) rfl .n):PickO _ _ _)) ((.of [0,1] rfl):SelR _ _ _)
  ·
   refine r_u rfl rfl (zh 0 ty24 rfl rfl (.take (.take (.take (.take .nil)))))<|r_pv rfl rfl (zb rfl)<|zM rfl rfl (.c rfl (.c rfl .n)) ce16 (zge (w:=w) (h:=h) (m:=m) (p:=p) (n:=n) (cap:=cap) (l:=l) (th:=th) (hn:=by assumption)) (.c (j:=0) rfl .n)<|r_pv rfl rfl (zCa rfl rfl)<|r_pv rfl rfl (zl rfl rfl)<|zj ?_
   exact zca () (show True from by first|trivial|omega|simp_all) ((.e rfl (congrArg Value.bool (by exact decide_eq_decide.2 ⟨fun h9 h8=>h9 h8.2,fun h9 h8=>h9 ⟨by omega,h8⟩⟩)) (.of rfl)):SubM _ _) (ho:=((.c (i:=0) rfl .n):PickO _ _ _)) ((.of [0,1] rfl):SelR _ _ _)
 ·
  rintro ⟨⟩ -
  try dsimp only
  refine zC rfl (fun hq=> ?_) (fun hq=> ?_)
  ·
   refine zi<|zc<|r_pv rfl rfl (zd rfl)<|zj<|zf<|zI<|zt ?_
   exact zD Try.results8 () trivial (zq rfl) rfl (ho:=(.n:PickO _ _ _)) (.n:SelR _ _ _)
  ·
   have hok9:=Fl.ask0.1 (Decidable.not_not.1 hq).2
   refine zy<|zf<|zi<|zc<|r_u rfl rfl (zh 0 ty24 rfl rfl (.take (.take (.take (.take .nil)))))<|r_pv rfl rfl (zb rfl)<|zA rfl rfl (.c rfl (.c rfl .n)) ce17 (zhe (w:=w) (h:=h) (m:=m) (p:=p) (n:=n) (cap:=cap) (l:=l) (th:=th) (hn:=by assumption) (hok9:=by first|rfl|assumption|omega)) (.c (j:=0) rfl .n) ?_
   rintro ⟨pA,cA,aA⟩ hB
   dsimp only [List.append_eq,List.nil_append,List.cons_append]
   replace hB:Fl.BlsR w h m l th aA:=hB
   refine r_pv rfl rfl (zb rfl)<|r_pv rfl rfl (zp rfl rfl)<|r_pv rfl rfl (zp rfl rfl)<|r_pv rfl rfl (zd rfl)<|r_pv rfl rfl (zd rfl)<|zj<|zf<|zi<|zi<|zc<|r_pv rfl rfl (zb rfl)<|r_pv rfl rfl (zCa rfl rfl)<|zj<|zf<|zUa rfl rfl<|zy<|zf<|zi ?_
   obtain ⟨wn,hn9,rfl,rfl,hw9,hh9,hwh,hb9⟩:=Fl.rok_n hok9.1 hn
   have hB9:=hB.1 hok9
   simp only [hn,Int.toNat_natCast] at hB9
   obtain ⟨cc,oo,hcl,hLC,hA⟩:=hB9
   have hin:∀j,(Fl.ge l th) j=true→j<n:=fun j hj=>by have:=Fl.ge_lt hj;omega
   have hsum:=Fl.whole_sum (w:=wn) (l:=l) hcl hin hLC
   rw [← hA] at hsum
   have hBok:=hB.ok
   have hT9:∀s,(Fl.acc wn l (Fl.oW (Fl.ge l th) n) 0 n)=some s→s.ar≤4096:=fun s hs=>by have:=(Fl.acc_ok hw9 hh9.2 hwh hb9 (Fl.rok_g hok9.1 hn) n (Nat.le_refl _) s hs).2;omega
   refine zc<|zQ rfl rfl (zE zr51 rfl) (fun b3=> ?_)
   refine zj<|zf<|zi<|zi<|zc<|r_pv rfl rfl (zg Try.underlying24 rfl sz22 rfl rfl)<|r_u rfl rfl (ze 2 ty22 rfl rfl rfl)<|r_pv rfl rfl (zK Try.underlying22 rfl)<|r_pv rfl rfl (zb rfl)<|zj<|zf<|zB<|zna (X:=Nat×Bb) (fun x:Nat×Bb=>x.1≤n∧x.2=Fl.gb (Fl.acc wn l (Fl.oW (Fl.ge l th) n) 0 x.1)) (fun x=>[(41,.int .i64 ((x.1:Nat):Int)),(40,.int .i64 ((n:Nat):Int)),(39,.slice p n cap),(9,.pointer (some ⟨b3,0,none⟩)),(7,.slice pA (aA.length) cA),(6,.bool false),(3,.pointer (some ⟨b1,0,none⟩)),(1,.int .i64 th),(2,.slice po no co)]) (fun x=>[boxA b3 51 [.int .i64 (x.2.ar),.int .i64 (x.2.le),.int .i64 (x.2.tp),.int .i64 (x.2.rt),.int .i64 (x.2.bt),.int .i64 (x.2.sx),.int .i64 (x.2.sy),.int .i64 (x.2.xx),.int .i64 (x.2.xy),.int .i64 (x.2.yy),.int .i64 (x.2.ms),.int .i64 (x.2.mx),.int .i64 (x.2.my)],rowA 51 (rI13 .i64) pA cA aA,boxA b1 24 [.int .i64 ((wn:Nat):Int),.int .i64 ((hn9:Nat):Int),.int .i64 m,.slice p n cap]]) (fun x=>[slF (rI .i64) p cap l,slF (rI .u8) po co lq]) (fun x:Nat×Bb=>n - x.1) (0,b0) (show 0≤n∧b0=Fl.gb (Fl.acc wn l (Fl.oW (Fl.ge l th) n) 0 0) from by exact ⟨Nat.zero_le _,rfl⟩) ((.e rfl (by first|rfl|(congr 1;omega)|simp_all) (.of rfl)):SubM _ _) (ho:=((.e (i:=0) rfl (by rfl) (.of [0,0] rfl)):PickO _ _ _)) ((.of [0,1] rfl):SelR _ _ _) ?_
   rintro ⟨i,W⟩ hI
   replace hI:i≤n∧W=Fl.gb (Fl.acc wn l (Fl.oW (Fl.ge l th) n) 0 i):=hI
   try dsimp only
   obtain ⟨hi,hW⟩:=hI
   refine zi<|zc<|r_pv rfl rfl (zW rfl rfl)<|zj<|zf<|zi<|zC rfl (fun h4=> ?_) (fun h4=> ?_)
   ·
    refine zy<|zf<|zi<|zB<|zi<|zc<|r_pv rfl rfl (zb rfl)<|zO (x0:=(l.getD i 0)) 0 i rfl Try.underlying22 sz3 rfl rfl rfl (by first|rfl|assumption|(simp_all;done)|omega) rfl rfl (gD (d:=0) (by omega)) (fun b5 o6 hok7=> ?_)
    replace hok7:=zk.1 hok7
    refine r_u rfl rfl (zn (j:=0) 0 ty3 rfl rfl rfl rfl)<|r_pv rfl rfl (zd rfl)<|r_pv rfl rfl (zd rfl)<|zj<|zf<|zi<|zi<|zc<|r_pv rfl rfl (zb rfl)<|r_pv rfl rfl (zb rfl)<|r_pv rfl rfl (zW rfl rfl)<|zj<|zf<|zC rfl (fun hlt=> ?_) (fun hlt=> ?_)
    ·
     have hfi:¬(Fl.ge l th) i=true:=fun h9=>by have:=(Fl.ge_iff (l:=l) (th:=th) (show i<l.length by omega)).1 h9;omega
     have how:¬(Fl.oW (Fl.ge l th) n).getD i 0=0:=by rw [Fl.oW_get (show i<n by omega),if_neg hfi];decide
     refine zha<|zm<|zv<|zf<|zc<|r_pv rfl rfl (zz (z:=(((i+1):Nat):Int)) rfl rfl (w64 (by omega)))<|r_pv rfl rfl (zb rfl)<|zj<|zZ ((i+1),W) (show (i+1)≤n∧W=Fl.gb (Fl.acc wn l (Fl.oW (Fl.ge l th) n) 0 (i+1)) from by exact ⟨by omega,by rw [Fl.acc_keep how];exact hW⟩) (by show n - (i+1)<n - i;omega) ((.of rfl):SubM _ _) (ho:=((.of [0,0,0] rfl):PickO _ _ _)) ((.of [1,2] rfl):SelR _ _ _)
    ·
     have hfi:(Fl.ge l th) i=true:=(Fl.ge_iff (by omega)).2 (by omega)
     have hO1:Fl.okb (Fl.one wn l i):=Fl.one_ok hw9 hh9.2 hwh (by omega) (Fl.rok_g hok9.1 hn i (by omega))
     have how:(Fl.oW (Fl.ge l th) n).getD i 0=0:=by rw [Fl.oW_get (show i<n by omega),if_pos hfi]
     have hqd:i / wn≤63:=by have:=Nat.div_lt_of_lt_mul (show i<wn*hn9 by omega);omega
     have hmd:i%wn≤63:=by have:=Nat.mod_lt i (show 0<wn by omega);omega
     have hq0:=Int.natCast_nonneg (i / wn)
     have hm0:=Int.natCast_nonneg (i%wn)
     have hgg:=Fl.rok_g hok9.1 hn i (by omega)
     have hacc:=Fl.acc_ok (l:=l) (o:=(Fl.oW (Fl.ge l th) n)) (k:=0) hw9 hh9.2 hwh hb9 (Fl.rok_g hok9.1 hn) i (by omega)
     refine zy<|zf<|zi<|zia (OW:=[]) (O:=[boxA b3 51 [.int .i64 (W.ar),.int .i64 (W.le),.int .i64 (W.tp),.int .i64 (W.rt),.int .i64 (W.bt),.int .i64 (W.sx),.int .i64 (W.sy),.int .i64 (W.xx),.int .i64 (W.xy),.int .i64 (W.yy),.int .i64 (W.ms),.int .i64 (W.mx),.int .i64 (W.my)],rowA 51 (rI13 .i64) pA cA aA,boxA b1 24 [.int .i64 ((wn:Nat):Int),.int .i64 ((hn9:Nat):Int),.int .i64 m,.slice p n cap]]) 11 mixed (.then (.block (.then (.then (.block (.then .ret)))))) (by kernel_rfl)<|d_pv 0 rfl rfl (by kernel_rfl) (by kernel_rfl) rfl rfl (zb rfl)<|d_pv 1 rfl rfl (by kernel_rfl) (by kernel_rfl) rfl rfl (zg Try.underlying24 rfl sz3 rfl rfl)<|d_u 2 rfl rfl (by kernel_rfl) (by kernel_rfl) rfl rfl (ze 2 ty3 rfl rfl rfl)<|d_pv 3 rfl rfl (by kernel_rfl) (by kernel_rfl) rfl rfl (zFa (z:=(((i%wn):Nat):Int)) rfl rfl (by omega) (remN (by omega) (by omega)))<|d_pv 4 rfl rfl (by kernel_rfl) (by kernel_rfl) rfl rfl (zb rfl)<|d_pv 5 rfl rfl (by kernel_rfl) (by kernel_rfl) rfl rfl (zg Try.underlying24 rfl sz3 rfl rfl)<|d_u 6 rfl rfl (by kernel_rfl) (by kernel_rfl) rfl rfl (ze 2 ty3 rfl rfl rfl)<|d_pv 7 rfl rfl (by kernel_rfl) (by kernel_rfl) rfl rfl (zHa (z:=(((i / wn):Nat):Int)) rfl rfl (by omega) (by rw [quoN (z:=(((i / wn):Nat):Int)) (by omega) (by omega)];exact w64 (by omega)))<|d_pv 8 rfl rfl (by kernel_rfl) (by kernel_rfl) rfl rfl (zb rfl)<|zKd (m':=[(57,.int .i64 (l.getD i 0)),(56,.int .i64 (((i / wn):Nat):Int)),(52,.int .i64 (((i%wn):Nat):Int)),(41,.int .i64 ((i:Nat):Int)),(40,.int .i64 ((n:Nat):Int)),(39,.slice p n cap),(9,.pointer (some ⟨b3,0,none⟩)),(7,.slice pA (aA.length) cA),(6,.bool false),(3,.pointer (some ⟨b1,0,none⟩)),(1,.int .i64 th),(2,.slice po no co)]) (R':=[slF (rI .i64) p cap l,slF (rI .u8) po co lq]) ((.of rfl):SubM _ _) (List.Perm.refl _) (List.Perm.refl _) ((.of [1,2] rfl):SelR _ _ _)<|zrb (X:=Nat) (k':=0) (L':=(lb 12 4095)) (fun u10_1=>([(12,.pointer (some ⟨u10_1,0,none⟩)),(41,.int .i64 ((i:Nat):Int)),(40,.int .i64 ((n:Nat):Int)),(39,.slice p n cap),(9,.pointer (some ⟨b3,0,none⟩)),(7,.slice pA (aA.length) cA),(6,.bool false),(3,.pointer (some ⟨b1,0,none⟩)),(1,.int .i64 th),(2,.slice po no co)],[boxA u10_1 51 [.int .i64 1,.int .i64 (((i%wn):Nat):Int),.int .i64 (((i / wn):Nat):Int),.int .i64 (((i%wn):Nat):Int),.int .i64 (((i / wn):Nat):Int),.int .i64 (((i%wn):Nat):Int),.int .i64 (((i / wn):Nat):Int),.int .i64 ((((i%wn):Nat):Int)*(((i%wn):Nat):Int)),.int .i64 ((((i%wn):Nat):Int)*(((i / wn):Nat):Int)),.int .i64 ((((i / wn):Nat):Int)*(((i / wn):Nat):Int)),.int .i64 (l.getD i 0),.int .i64 ((l.getD i 0)*(((i%wn):Nat):Int)),.int .i64 ((l.getD i 0)*(((i / wn):Nat):Int))]],[boxA b3 51 [.int .i64 (W.ar),.int .i64 (W.le),.int .i64 (W.tp),.int .i64 (W.rt),.int .i64 (W.bt),.int .i64 (W.sx),.int .i64 (W.sy),.int .i64 (W.xx),.int .i64 (W.xy),.int .i64 (W.yy),.int .i64 (W.ms),.int .i64 (W.mx),.int .i64 (W.my)],rowA 51 (rI13 .i64) pA cA aA,boxA b1 24 [.int .i64 ((wn:Nat):Int),.int .i64 ((hn9:Nat):Int),.int .i64 m,.slice p n cap]],[slF (rI .i64) p cap l,slF (rI .u8) po co lq])) ?_ (fun hD0=> ?_)
     ·
      rintro u10_1
      dsimp only
      refine zfa (by kernel_rfl)<|zf<|zi<|zi<|zc<|r_pv rfl rfl (zg Try.underlying51 rfl sz3 rfl rfl)<|r_u rfl rfl (ze 1 ty3 rfl rfl rfl)<|r_pv rfl rfl (zua rfl rfl)<|zj<|zf<|zC rfl (fun hwz=> ?_) (fun hwz=> ?_)
      ·
       have hWok:Fl.okb W:=by rw [hW];exact (Fl.gb_ok (by rw [← hW];omega) hacc).1
       have hold:=Fl.gb_old (w:=wn) (l:=l) how (by rw [← hW];omega)
       rw [← hW] at hold
       refine zc<|r_u rfl rfl (zh 1 ty51 rfl rfl (.take (.take (.take (.take (.take (.take (.take (.take (.take (.take (.take (.take (.take .nil))))))))))))))<|r_u rfl rfl (zh 0 ty51 rfl rfl (.take (.take (.take (.take (.take (.take (.take (.take (.take (.take (.take (.take (.take .nil))))))))))))))<|zM rfl rfl (.c rfl (.c rfl .n)) ce31 (zMc (ar1:=W.ar) (le1:=W.le) (tp1:=W.tp) (rt1:=W.rt) (bt1:=W.bt) (sx1:=W.sx) (sy1:=W.sy) (xx1:=W.xx) (xy1:=W.xy) (yy1:=W.yy) (ms1:=W.ms) (mx1:=W.mx) (my1:=W.my) (ar2:=1) (le2:=(((i%wn):Nat):Int)) (tp2:=(((i / wn):Nat):Int)) (rt2:=(((i%wn):Nat):Int)) (bt2:=(((i / wn):Nat):Int)) (sx2:=(((i%wn):Nat):Int)) (sy2:=(((i / wn):Nat):Int)) (xx2:=((((i%wn):Nat):Int)*(((i%wn):Nat):Int))) (xy2:=((((i%wn):Nat):Int)*(((i / wn):Nat):Int))) (yy2:=((((i / wn):Nat):Int)*(((i / wn):Nat):Int))) (ms2:=(l.getD i 0)) (mx2:=((l.getD i 0)*(((i%wn):Nat):Int))) (my2:=((l.getD i 0)*(((i / wn):Nat):Int))) (hb1:=by exact Bl.ok_bd hWok) (hb2:=by exact Bl.ok_bd hO1)) (.n)<|zo 0 rfl rfl rfl rfl rfl sz51 rfl (.take (.take (.take (.take (.take (.take (.take (.take (.take (.take (.take (.take (.take .nil))))))))))))) .z<|zj<|zf<|zc<|r_u rfl rfl (zh 0 ty51 rfl rfl (.take (.take (.take (.take (.take (.take (.take (.take (.take (.take (.take (.take (.take .nil))))))))))))))<|zo 1 rfl rfl rfl rfl rfl sz51 rfl (.take (.take (.take (.take (.take (.take (.take (.take (.take (.take (.take (.take (.take .nil))))))))))))) (.s .z)<|zj<|zS<|zf<|zc<|r_pv rfl rfl (zz (z:=(((i+1):Nat):Int)) rfl rfl (w64 (by omega)))<|r_pv rfl rfl (zb rfl)<|zj<|zZ ((i+1),(Fl.tog W (Fl.one wn l i))) (show (i+1)≤n∧(Fl.tog W (Fl.one wn l i))=Fl.gb (Fl.acc wn l (Fl.oW (Fl.ge l th) n) 0 (i+1)) from by exact ⟨by omega,hold⟩) (by show n - (i+1)<n - i;omega) ((.of rfl):SubM _ _) (ho:=((.e (i:=1) rfl (by rfl) (.of [1,1] rfl)):PickO _ _ _)) ((.of [0,1] rfl):SelR _ _ _)
      ·
       have hnew:=Fl.gb_new how (by rw [← hW];have:=Fl.gb_nn hacc;rw [← hW] at this;omega) (fun a ha=>(hacc a ha).1)
       refine zy<|zf<|zc<|r_u rfl rfl (zh 0 ty51 rfl rfl (.take (.take (.take (.take (.take (.take (.take (.take (.take (.take (.take (.take (.take .nil))))))))))))))<|zo 1 rfl rfl rfl rfl rfl sz51 rfl (.take (.take (.take (.take (.take (.take (.take (.take (.take (.take (.take (.take (.take .nil))))))))))))) (.s .z)<|zj<|zS<|zf<|zc<|r_pv rfl rfl (zz (z:=(((i+1):Nat):Int)) rfl rfl (w64 (by omega)))<|r_pv rfl rfl (zb rfl)<|zj<|zZ ((i+1),(Fl.one wn l i)) (show (i+1)≤n∧(Fl.one wn l i)=Fl.gb (Fl.acc wn l (Fl.oW (Fl.ge l th) n) 0 (i+1)) from by exact ⟨by omega,hnew⟩) (by show n - (i+1)<n - i;omega) ((.of rfl):SubM _ _) (ho:=((.e (i:=1) rfl (by rfl) (.of [1,1] rfl)):PickO _ _ _)) ((.of [0,1] rfl):SelR _ _ _)
     refine zrb (X:=Nat) (k':=1) (L':=(lb 12 2047)) (fun u10_1=>([(12,.pointer (some ⟨u10_1,0,none⟩)),(58,.agg #[.int .i64 1,.int .i64 (((i%wn):Nat):Int),.int .i64 (((i / wn):Nat):Int),.int .i64 (((i%wn):Nat):Int),.int .i64 (((i / wn):Nat):Int),.int .i64 (((i%wn):Nat):Int),.int .i64 (((i / wn):Nat):Int),.int .i64 ((((i%wn):Nat):Int)*(((i%wn):Nat):Int)),.int .i64 ((((i%wn):Nat):Int)*(((i / wn):Nat):Int)),.int .i64 ((((i / wn):Nat):Int)*(((i / wn):Nat):Int)),.int .i64 (l.getD i 0),.int .i64 ((l.getD i 0)*(((i%wn):Nat):Int)),.int .i64 ((l.getD i 0)*(((i / wn):Nat):Int))]),(41,.int .i64 ((i:Nat):Int)),(40,.int .i64 ((n:Nat):Int)),(39,.slice p n cap),(9,.pointer (some ⟨b3,0,none⟩)),(7,.slice pA (aA.length) cA),(6,.bool false),(3,.pointer (some ⟨b1,0,none⟩)),(1,.int .i64 th),(2,.slice po no co)],[boxA u10_1 51 [.int .i64 0,.int .i64 0,.int .i64 0,.int .i64 0,.int .i64 0,.int .i64 0,.int .i64 0,.int .i64 0,.int .i64 0,.int .i64 0,.int .i64 0,.int .i64 0,.int .i64 0]],[boxA b3 51 [.int .i64 (W.ar),.int .i64 (W.le),.int .i64 (W.tp),.int .i64 (W.rt),.int .i64 (W.bt),.int .i64 (W.sx),.int .i64 (W.sy),.int .i64 (W.xx),.int .i64 (W.xy),.int .i64 (W.yy),.int .i64 (W.ms),.int .i64 (W.mx),.int .i64 (W.my)],rowA 51 (rI13 .i64) pA cA aA,boxA b1 24 [.int .i64 ((wn:Nat):Int),.int .i64 ((hn9:Nat):Int),.int .i64 m,.slice p n cap]],[slF (rI .i64) p cap l,slF (rI .u8) po co lq])) ?_ (fun hD1=> ?_)
     ·
      rintro u10_1
      dsimp only
      refine zT 11 (by kernel_rfl) ?_
      ·
       refine zJ (by kernel_rfl) rfl rfl rfl rfl rfl sz51 rfl (.take (.take (.take (.take (.take (.take (.take (.take (.take (.take (.take (.take (.take .nil))))))))))))) ?_
       exact zPa (hD0 u10_1) (by kernel_rfl) ((.of rfl):SubM _ _) .rfl .rfl ((.of [0,1] rfl):SelR _ _ _)
     refine zrb (X:=Unit) (k':=2) (L':=(lb 12 1023)) (fun _=>([(58,.agg #[.int .i64 1,.int .i64 (((i%wn):Nat):Int),.int .i64 (((i / wn):Nat):Int),.int .i64 (((i%wn):Nat):Int),.int .i64 (((i / wn):Nat):Int),.int .i64 (((i%wn):Nat):Int),.int .i64 (((i / wn):Nat):Int),.int .i64 ((((i%wn):Nat):Int)*(((i%wn):Nat):Int)),.int .i64 ((((i%wn):Nat):Int)*(((i / wn):Nat):Int)),.int .i64 ((((i / wn):Nat):Int)*(((i / wn):Nat):Int)),.int .i64 (l.getD i 0),.int .i64 ((l.getD i 0)*(((i%wn):Nat):Int)),.int .i64 ((l.getD i 0)*(((i / wn):Nat):Int))]),(41,.int .i64 ((i:Nat):Int)),(40,.int .i64 ((n:Nat):Int)),(39,.slice p n cap),(9,.pointer (some ⟨b3,0,none⟩)),(7,.slice pA (aA.length) cA),(6,.bool false),(3,.pointer (some ⟨b1,0,none⟩)),(1,.int .i64 th),(2,.slice po no co)],[],[boxA b3 51 [.int .i64 (W.ar),.int .i64 (W.le),.int .i64 (W.tp),.int .i64 (W.rt),.int .i64 (W.bt),.int .i64 (W.sx),.int .i64 (W.sy),.int .i64 (W.xx),.int .i64 (W.xy),.int .i64 (W.yy),.int .i64 (W.ms),.int .i64 (W.mx),.int .i64 (W.my)],rowA 51 (rI13 .i64) pA cA aA,boxA b1 24 [.int .i64 ((wn:Nat):Int),.int .i64 ((hn9:Nat):Int),.int .i64 m,.slice p n cap]],[slF (rI .i64) p cap l,slF (rI .u8) po co lq])) ?_ (fun hD2=> ?_)
     ·
      rintro ⟨⟩
      dsimp only
      refine zT 10 (by kernel_rfl) ?_
      ·
       refine zic rfl rfl rfl rfl (zE zr51 rfl) (fun u10_1 _=> ?_)
       exact zPa (hD1 u10_1) (by kernel_rfl) ((.of rfl):SubM _ _) .rfl .rfl ((.of [0,1] rfl):SelR _ _ _)
     refine zrb (X:=Nat) (k':=2) (L':=(lb 12 1535)) (fun u10_1=>([(12,.pointer (some ⟨u10_1,0,none⟩)),(57,.int .i64 (l.getD i 0)),(56,.int .i64 (((i / wn):Nat):Int)),(52,.int .i64 (((i%wn):Nat):Int)),(41,.int .i64 ((i:Nat):Int)),(40,.int .i64 ((n:Nat):Int)),(39,.slice p n cap),(9,.pointer (some ⟨b3,0,none⟩)),(7,.slice pA (aA.length) cA),(6,.bool false),(3,.pointer (some ⟨b1,0,none⟩)),(1,.int .i64 th),(2,.slice po no co)],[boxA u10_1 51 [.int .i64 0,.int .i64 0,.int .i64 0,.int .i64 0,.int .i64 0,.int .i64 0,.int .i64 0,.int .i64 0,.int .i64 0,.int .i64 0,.int .i64 0,.int .i64 0,.int .i64 0]],[boxA b3 51 [.int .i64 (W.ar),.int .i64 (W.le),.int .i64 (W.tp),.int .i64 (W.rt),.int .i64 (W.bt),.int .i64 (W.sx),.int .i64 (W.sy),.int .i64 (W.xx),.int .i64 (W.xy),.int .i64 (W.yy),.int .i64 (W.ms),.int .i64 (W.mx),.int .i64 (W.my)],rowA 51 (rI13 .i64) pA cA aA,boxA b1 24 [.int .i64 ((wn:Nat):Int),.int .i64 ((hn9:Nat):Int),.int .i64 m,.slice p n cap]],[slF (rI .i64) p cap l,slF (rI .u8) po co lq])) ?_ (fun hD3=> ?_)
     ·
      rintro u10_1
      dsimp only
      refine zT 9 (by kernel_rfl) ?_
      ·
       refine zVa rfl rfl rfl rfl (.c rfl (.c rfl (.c rfl .n))) ce30 (zrc (x0:=(((i%wn):Nat):Int)) (y0:=(((i / wn):Nat):Int)) (g:=(l.getD i 0)) (hx:=by first|rfl|assumption|omega) (hy:=by first|rfl|assumption|omega) (hg:=by first|rfl|assumption|omega)) (.n) ?_
       exact zPa (hD1 u10_1) (by kernel_rfl) ((.of rfl):SubM _ _) .rfl .rfl ((.of [0,1] rfl):SelR _ _ _)
     refine zwf 9 10 (by kernel_rfl) ?_ ?_
     ·
      refine zVa rfl rfl rfl rfl (.c rfl (.c rfl (.c rfl .n))) ce30 (zrc (x0:=(((i%wn):Nat):Int)) (y0:=(((i / wn):Nat):Int)) (g:=(l.getD i 0)) (hx:=by first|rfl|assumption|omega) (hy:=by first|rfl|assumption|omega) (hg:=by first|rfl|assumption|omega)) (.n) ?_
      exact zPa (hD2 ()) (by kernel_rfl) ((.of rfl):SubM _ _) .rfl .rfl ((.of [0,1] rfl):SelR _ _ _)
     ·
      refine zic rfl rfl rfl rfl (zE zr51 rfl) (fun u10_1 _=> ?_)
      exact zPa (hD3 u10_1) (by kernel_rfl) ((.of rfl):SubM _ _) .rfl .rfl ((.of [0,1] rfl):SelR _ _ _)
   ·
    refine zha<|zm<|zm<|zv<|zf<|zi<|zi ?_
    have hin8:i=n:=by omega
    rw [hin8] at hW
    clear hin8 hi
    refine zGb 1 rfl (fun hclA=> ?_)
    refine zc<|r_pv rfl rfl (zd rfl)<|zj<|zf<|zB<|zna (X:=Nat×(List Bb)) (fun x:Nat×(List Bb)=>Fl.WhI (Fl.acc wn l (Fl.oW (Fl.ge l th) n) 0 n) aA.length x.1 x.2) (fun x=>[(7,.slice pA (x.2.length) cA),(13,.int .i64 ((x.1:Nat):Int)),(9,.pointer (some ⟨b3,0,none⟩)),(2,.slice po no co)]) (fun x=>[boxA b3 51 [.int .i64 (W.ar),.int .i64 (W.le),.int .i64 (W.tp),.int .i64 (W.rt),.int .i64 (W.bt),.int .i64 (W.sx),.int .i64 (W.sy),.int .i64 (W.xx),.int .i64 (W.xy),.int .i64 (W.yy),.int .i64 (W.ms),.int .i64 (W.mx),.int .i64 (W.my)],rowA 51 (rI13 .i64) pA cA (x.2),boxA b1 24 [.int .i64 ((wn:Nat):Int),.int .i64 ((hn9:Nat):Int),.int .i64 m,.slice p n cap]]) (fun x=>[slF (rI .i64) p cap l,slF (rI .u8) po co lq]) (fun x:Nat×(List Bb)=>x.2.length) (0,aA) (show Fl.WhI (Fl.acc wn l (Fl.oW (Fl.ge l th) n) 0 n) aA.length 0 aA from by exact ⟨hsum,hBok,by omega⟩) ((.c rfl (.e rfl (by first|rfl|(congr 1;omega)|simp_all) (.c rfl (.c rfl .n)))):SubM _ _) (ho:=((.of [0,0,0] rfl):PickO _ _ _)) ((.of [0,1] rfl):SelR _ _ _) ?_
    rintro ⟨k,A2⟩ hWl
    replace hWl:Fl.WhI (Fl.acc wn l (Fl.oW (Fl.ge l th) n) 0 n) aA.length k A2:=hWl
    try dsimp only
    have hwl9:=hWl.len
    refine zi<|zi<|zGb 1 rfl (fun hcl2=> ?_)
    refine zc<|r_pv rfl rfl (zb rfl)<|r_pv rfl rfl (zK Try.underlying35 rfl)<|r_pv rfl rfl (zua rfl rfl)<|zj<|zf<|zC rfl (fun hmore=> ?_) (fun hmore=> ?_)
    ·
     refine zy<|zf<|zi<|zB<|zi<|zc<|r_pv rfl rfl (zd rfl)<|zj<|zf<|zRa (X:=Nat) (fun x=>x+1<A2.length) (fun x=>[(14,.int .i64 ((x:Nat):Int)),(7,.slice pA (A2.length) cA),(13,.int .i64 ((k:Nat):Int)),(9,.pointer (some ⟨b3,0,none⟩)),(2,.slice po no co)]) (fun x=>[boxA b3 51 [.int .i64 (W.ar),.int .i64 (W.le),.int .i64 (W.tp),.int .i64 (W.rt),.int .i64 (W.bt),.int .i64 (W.sx),.int .i64 (W.sy),.int .i64 (W.xx),.int .i64 (W.xy),.int .i64 (W.yy),.int .i64 (W.ms),.int .i64 (W.mx),.int .i64 (W.my)],rowA 51 (rI13 .i64) pA cA A2,boxA b1 24 [.int .i64 ((wn:Nat):Int),.int .i64 ((hn9:Nat):Int),.int .i64 m,.slice p n cap]]) (fun x=>[slF (rI .i64) p cap l,slF (rI .u8) po co lq]) ?_ ?_
     ·
      refine zi<|zc<|r_pv rfl rfl (zb rfl)<|r_pv rfl rfl (zb rfl)<|r_pv rfl rfl (zK Try.underlying64 rfl)<|r_pv rfl rfl (zW rfl rfl)<|zj<|zf<|zC rfl (fun hk=> ?_) (fun hk=> ?_)
      ·
       refine zc<|r_pv rfl rfl (zb rfl)<|r_pv rfl rfl (zb rfl)<|zO (x0:=(lq.getD k 0)) 1 k rfl Try.underlying64 sz5 rfl rfl rfl (by first|rfl|assumption|(simp_all;done)|omega) rfl rfl (gD (d:=0) (by omega)) (fun b8 o9 hok10=> ?_)
       replace hok10:=inK_u8.1 hok10
       refine r_u rfl rfl (zn (j:=0) 0 ty5 rfl rfl rfl rfl)<|r_pv rfl rfl (zx (z:=(lq.getD k 0)) rfl (by rw [Try.underlying5];rfl) Try.underlying3 (w64 (by omega))) ?_
       have e11:((lq.getD k 0):Int)=((((lq.getD k 0).toNat):Nat):Int):=by omega
       rw [e11]
       refine r_pv rfl rfl (zb rfl)<|r_pv rfl rfl (zK Try.underlying35 rfl)<|r_pv rfl rfl (zda (z:=(((A2.length - 1):Nat):Int)) rfl rfl (w64 (by omega)))<|r_pv rfl rfl (zFa (z:=(((((lq.getD k 0).toNat)%(A2.length - 1)):Nat):Int)) rfl rfl (by omega) (remN (by omega) (by omega)))<|r_pv rfl rfl (zd rfl)<|zj ?_
       exact zca (((lq.getD k 0).toNat)%(A2.length - 1)) (show (((lq.getD k 0).toNat)%(A2.length - 1))+1<A2.length from by have:=Nat.mod_lt ((lq.getD k 0).toNat) (show 0<A2.length - 1 by omega);omega) ((.of rfl):SubM _ _) (ho:=((.of [0,0,0] rfl):PickO _ _ _)) ((.of [1,2] rfl):SelR _ _ _)
      ·
       refine zy ?_
       exact zca 0 (show 0+1<A2.length from by omega) ((.e rfl (by first|rfl|(congr 1;omega)|simp_all) (.of rfl)):SubM _ _) (ho:=((.of [0,0,0] rfl):PickO _ _ _)) ((.of [0,1] rfl):SelR _ _ _)
     ·
      rintro ii hii
      replace hii:ii+1<A2.length:=hii
      try dsimp only
      have hst:=hWl.step hT9 hii
      have hbd1:=Bl.ok_bd hst.1
      unfold Bl.bd at hbd1
      have hbd2:=Bl.ok_bd hst.2.1
      unfold Bl.bd at hbd2
      refine zi<|zia (OW:=[]) (O:=[boxA b3 51 [.int .i64 (W.ar),.int .i64 (W.le),.int .i64 (W.tp),.int .i64 (W.rt),.int .i64 (W.bt),.int .i64 (W.sx),.int .i64 (W.sy),.int .i64 (W.xx),.int .i64 (W.xy),.int .i64 (W.yy),.int .i64 (W.ms),.int .i64 (W.mx),.int .i64 (W.my)],rowA 51 (rI13 .i64) pA cA A2,boxA b1 24 [.int .i64 ((wn:Nat):Int),.int .i64 ((hn9:Nat):Int),.int .i64 m,.slice p n cap]]) 15 mixed (.then (.block (.then (.then (.block (.then .ret)))))) (by kernel_rfl)<|d_pv 0 rfl rfl (by kernel_rfl) (by kernel_rfl) rfl rfl (zb rfl)<|d_pv 1 rfl rfl (by kernel_rfl) (by kernel_rfl) rfl rfl (zb rfl)<|d_u 2 rfl rfl (by kernel_rfl) (by kernel_rfl) rfl rfl (zY 1 ii rfl Try.underlying35 sz51 rfl (by first|rfl|simp_all|omega) rfl rfl (by omega))<|d_vl 3 rfl rfl (by kernel_rfl) (by kernel_rfl) rfl rfl (zza 1 ii rfl ty51 rfl rfl (gD (d:=b0) (by omega))) (fun _ hok12=> ?_)
      obtain ⟨hok120,hok121,hok122,hok123,hok124,hok125,hok126,hok127,hok128,hok129,hok1210,hok1211,hok1212⟩:=hok12
      replace hok120:=zk.1 hok120
      replace hok121:=zk.1 hok121
      replace hok122:=zk.1 hok122
      replace hok123:=zk.1 hok123
      replace hok124:=zk.1 hok124
      replace hok125:=zk.1 hok125
      replace hok126:=zk.1 hok126
      replace hok127:=zk.1 hok127
      replace hok128:=zk.1 hok128
      replace hok129:=zk.1 hok129
      replace hok1210:=zk.1 hok1210
      replace hok1211:=zk.1 hok1211
      replace hok1212:=zk.1 hok1212
      refine d_pv 4 rfl rfl (by kernel_rfl) (by kernel_rfl) rfl rfl (zb rfl)<|d_pv 5 rfl rfl (by kernel_rfl) (by kernel_rfl) rfl rfl (zb rfl)<|d_pv 6 rfl rfl (by kernel_rfl) (by kernel_rfl) rfl rfl (zK Try.underlying35 rfl)<|d_pv 7 rfl rfl (by kernel_rfl) (by kernel_rfl) rfl rfl (zda (z:=(((A2.length - 1):Nat):Int)) rfl rfl (w64 (by omega)))<|d_u 8 rfl rfl (by kernel_rfl) (by kernel_rfl) rfl rfl (zY 1 (A2.length - 1) rfl Try.underlying35 sz51 rfl (by first|rfl|simp_all|omega) rfl rfl (by omega))<|d_vl 9 rfl rfl (by kernel_rfl) (by kernel_rfl) rfl rfl (zza 1 (A2.length - 1) rfl ty51 rfl rfl (gD (d:=b0) (by omega))) (fun _ hok13=> ?_)
      obtain ⟨hok130,hok131,hok132,hok133,hok134,hok135,hok136,hok137,hok138,hok139,hok1310,hok1311,hok1312⟩:=hok13
      replace hok130:=zk.1 hok130
      replace hok131:=zk.1 hok131
      replace hok132:=zk.1 hok132
      replace hok133:=zk.1 hok133
      replace hok134:=zk.1 hok134
      replace hok135:=zk.1 hok135
      replace hok136:=zk.1 hok136
      replace hok137:=zk.1 hok137
      replace hok138:=zk.1 hok138
      replace hok139:=zk.1 hok139
      replace hok1310:=zk.1 hok1310
      replace hok1311:=zk.1 hok1311
      replace hok1312:=zk.1 hok1312
      refine zKd (m':=[(95,.agg #[.int .i64 ((A2.getD (A2.length - 1) b0).ar),.int .i64 ((A2.getD (A2.length - 1) b0).le),.int .i64 ((A2.getD (A2.length - 1) b0).tp),.int .i64 ((A2.getD (A2.length - 1) b0).rt),.int .i64 ((A2.getD (A2.length - 1) b0).bt),.int .i64 ((A2.getD (A2.length - 1) b0).sx),.int .i64 ((A2.getD (A2.length - 1) b0).sy),.int .i64 ((A2.getD (A2.length - 1) b0).xx),.int .i64 ((A2.getD (A2.length - 1) b0).xy),.int .i64 ((A2.getD (A2.length - 1) b0).yy),.int .i64 ((A2.getD (A2.length - 1) b0).ms),.int .i64 ((A2.getD (A2.length - 1) b0).mx),.int .i64 ((A2.getD (A2.length - 1) b0).my)]),(89,.agg #[.int .i64 ((A2.getD ii b0).ar),.int .i64 ((A2.getD ii b0).le),.int .i64 ((A2.getD ii b0).tp),.int .i64 ((A2.getD ii b0).rt),.int .i64 ((A2.getD ii b0).bt),.int .i64 ((A2.getD ii b0).sx),.int .i64 ((A2.getD ii b0).sy),.int .i64 ((A2.getD ii b0).xx),.int .i64 ((A2.getD ii b0).xy),.int .i64 ((A2.getD ii b0).yy),.int .i64 ((A2.getD ii b0).ms),.int .i64 ((A2.getD ii b0).mx),.int .i64 ((A2.getD ii b0).my)]),(14,.int .i64 ((ii:Nat):Int)),(7,.slice pA (A2.length) cA),(13,.int .i64 ((k:Nat):Int)),(9,.pointer (some ⟨b3,0,none⟩)),(2,.slice po no co)]) (R':=[slF (rI .i64) p cap l,slF (rI .u8) po co lq]) ((.of rfl):SubM _ _) (List.Perm.refl _) (List.Perm.refl _) ((.of [0,1] rfl):SelR _ _ _)<|zrb (X:=Nat) (k':=0) (L':=(lb 17 131071)) (fun u14_1r2=>([(16,.int .i64 0),(15,.pointer (some ⟨u14_1r2,0,none⟩)),(14,.int .i64 ((ii:Nat):Int)),(7,.slice pA (A2.length) cA),(13,.int .i64 ((k:Nat):Int)),(9,.pointer (some ⟨b3,0,none⟩)),(2,.slice po no co)],[boxA u14_1r2 51 [.int .i64 (((A2.getD ii b0).ar)+((A2.getD (A2.length - 1) b0).ar)),.int .i64 (min ((A2.getD ii b0).le) ((A2.getD (A2.length - 1) b0).le)),.int .i64 (min ((A2.getD ii b0).tp) ((A2.getD (A2.length - 1) b0).tp)),.int .i64 (max ((A2.getD ii b0).rt) ((A2.getD (A2.length - 1) b0).rt)),.int .i64 (max ((A2.getD ii b0).bt) ((A2.getD (A2.length - 1) b0).bt)),.int .i64 (((A2.getD ii b0).sx)+((A2.getD (A2.length - 1) b0).sx)),.int .i64 (((A2.getD ii b0).sy)+((A2.getD (A2.length - 1) b0).sy)),.int .i64 (((A2.getD ii b0).xx)+((A2.getD (A2.length - 1) b0).xx)),.int .i64 (((A2.getD ii b0).xy)+((A2.getD (A2.length - 1) b0).xy)),.int .i64 (((A2.getD ii b0).yy)+((A2.getD (A2.length - 1) b0).yy)),.int .i64 (((A2.getD ii b0).ms)+((A2.getD (A2.length - 1) b0).ms)),.int .i64 (((A2.getD ii b0).mx)+((A2.getD (A2.length - 1) b0).mx)),.int .i64 (((A2.getD ii b0).my)+((A2.getD (A2.length - 1) b0).my))]],[boxA b3 51 [.int .i64 (W.ar),.int .i64 (W.le),.int .i64 (W.tp),.int .i64 (W.rt),.int .i64 (W.bt),.int .i64 (W.sx),.int .i64 (W.sy),.int .i64 (W.xx),.int .i64 (W.xy),.int .i64 (W.yy),.int .i64 (W.ms),.int .i64 (W.mx),.int .i64 (W.my)],rowA 51 (rI13 .i64) pA cA A2,boxA b1 24 [.int .i64 ((wn:Nat):Int),.int .i64 ((hn9:Nat):Int),.int .i64 m,.slice p n cap]],[slF (rI .i64) p cap l,slF (rI .u8) po co lq])) ?_ (fun hD0=> ?_)
      ·
       rintro u14_1r2
       dsimp only
       refine zfa (by kernel_rfl)<|zf<|zi<|zia (OW:=[]) (O:=[boxA u14_1r2 51 [.int .i64 (((A2.getD ii b0).ar)+((A2.getD (A2.length - 1) b0).ar)),.int .i64 (min ((A2.getD ii b0).le) ((A2.getD (A2.length - 1) b0).le)),.int .i64 (min ((A2.getD ii b0).tp) ((A2.getD (A2.length - 1) b0).tp)),.int .i64 (max ((A2.getD ii b0).rt) ((A2.getD (A2.length - 1) b0).rt)),.int .i64 (max ((A2.getD ii b0).bt) ((A2.getD (A2.length - 1) b0).bt)),.int .i64 (((A2.getD ii b0).sx)+((A2.getD (A2.length - 1) b0).sx)),.int .i64 (((A2.getD ii b0).sy)+((A2.getD (A2.length - 1) b0).sy)),.int .i64 (((A2.getD ii b0).xx)+((A2.getD (A2.length - 1) b0).xx)),.int .i64 (((A2.getD ii b0).xy)+((A2.getD (A2.length - 1) b0).xy)),.int .i64 (((A2.getD ii b0).yy)+((A2.getD (A2.length - 1) b0).yy)),.int .i64 (((A2.getD ii b0).ms)+((A2.getD (A2.length - 1) b0).ms)),.int .i64 (((A2.getD ii b0).mx)+((A2.getD (A2.length - 1) b0).mx)),.int .i64 (((A2.getD ii b0).my)+((A2.getD (A2.length - 1) b0).my))],boxA b3 51 [.int .i64 (W.ar),.int .i64 (W.le),.int .i64 (W.tp),.int .i64 (W.rt),.int .i64 (W.bt),.int .i64 (W.sx),.int .i64 (W.sy),.int .i64 (W.xx),.int .i64 (W.xy),.int .i64 (W.yy),.int .i64 (W.ms),.int .i64 (W.mx),.int .i64 (W.my)],rowA 51 (rI13 .i64) pA cA A2,boxA b1 24 [.int .i64 ((wn:Nat):Int),.int .i64 ((hn9:Nat):Int),.int .i64 m,.slice p n cap]]) 15 mixed (.then (.block (.then (.then (.block (.then .ret)))))) (by kernel_rfl)<|d_pv 0 rfl rfl (by kernel_rfl) (by kernel_rfl) rfl rfl (zb rfl)<|d_pv 1 rfl rfl (by kernel_rfl) (by kernel_rfl) rfl rfl (zb rfl)<|d_pv 2 rfl rfl (by kernel_rfl) (by kernel_rfl) rfl rfl (zK Try.underlying35 rfl)<|d_pv 3 rfl rfl (by kernel_rfl) (by kernel_rfl) rfl rfl (zda (z:=(((A2.length - 1):Nat):Int)) rfl rfl (w64 (by omega)))<|d_u 4 rfl rfl (by kernel_rfl) (by kernel_rfl) rfl rfl (zY 2 (A2.length - 1) rfl Try.underlying35 sz51 rfl (by first|rfl|simp_all|omega) rfl rfl (by omega))<|d_vl 5 rfl rfl (by kernel_rfl) (by kernel_rfl) rfl rfl (zza 2 (A2.length - 1) rfl ty51 rfl rfl (gD (d:=b0) (by omega))) (fun _ hok14=> ?_)
       obtain ⟨hok140,hok141,hok142,hok143,hok144,hok145,hok146,hok147,hok148,hok149,hok1410,hok1411,hok1412⟩:=hok14
       replace hok140:=zk.1 hok140
       replace hok141:=zk.1 hok141
       replace hok142:=zk.1 hok142
       replace hok143:=zk.1 hok143
       replace hok144:=zk.1 hok144
       replace hok145:=zk.1 hok145
       replace hok146:=zk.1 hok146
       replace hok147:=zk.1 hok147
       replace hok148:=zk.1 hok148
       replace hok149:=zk.1 hok149
       replace hok1410:=zk.1 hok1410
       replace hok1411:=zk.1 hok1411
       replace hok1412:=zk.1 hok1412
       refine d_pv 6 rfl rfl (by kernel_rfl) (by kernel_rfl) rfl rfl (zb rfl)<|d_pv 7 rfl rfl (by kernel_rfl) (by kernel_rfl) rfl rfl (zb rfl)<|d_u 8 rfl rfl (by kernel_rfl) (by kernel_rfl) rfl rfl (zY 2 ii rfl Try.underlying35 sz51 rfl (by first|rfl|simp_all|omega) rfl rfl (by omega))<|d_vl 9 rfl rfl (by kernel_rfl) (by kernel_rfl) rfl rfl (zza 2 ii rfl ty51 rfl rfl (gD (d:=b0) (by omega))) (fun _ hok15=> ?_)
       obtain ⟨hok150,hok151,hok152,hok153,hok154,hok155,hok156,hok157,hok158,hok159,hok1510,hok1511,hok1512⟩:=hok15
       replace hok150:=zk.1 hok150
       replace hok151:=zk.1 hok151
       replace hok152:=zk.1 hok152
       replace hok153:=zk.1 hok153
       replace hok154:=zk.1 hok154
       replace hok155:=zk.1 hok155
       replace hok156:=zk.1 hok156
       replace hok157:=zk.1 hok157
       replace hok158:=zk.1 hok158
       replace hok159:=zk.1 hok159
       replace hok1510:=zk.1 hok1510
       replace hok1511:=zk.1 hok1511
       replace hok1512:=zk.1 hok1512
       refine zKd (m':=[(109,.agg #[.int .i64 ((A2.getD ii b0).ar),.int .i64 ((A2.getD ii b0).le),.int .i64 ((A2.getD ii b0).tp),.int .i64 ((A2.getD ii b0).rt),.int .i64 ((A2.getD ii b0).bt),.int .i64 ((A2.getD ii b0).sx),.int .i64 ((A2.getD ii b0).sy),.int .i64 ((A2.getD ii b0).xx),.int .i64 ((A2.getD ii b0).xy),.int .i64 ((A2.getD ii b0).yy),.int .i64 ((A2.getD ii b0).ms),.int .i64 ((A2.getD ii b0).mx),.int .i64 ((A2.getD ii b0).my)]),(105,.agg #[.int .i64 ((A2.getD (A2.length - 1) b0).ar),.int .i64 ((A2.getD (A2.length - 1) b0).le),.int .i64 ((A2.getD (A2.length - 1) b0).tp),.int .i64 ((A2.getD (A2.length - 1) b0).rt),.int .i64 ((A2.getD (A2.length - 1) b0).bt),.int .i64 ((A2.getD (A2.length - 1) b0).sx),.int .i64 ((A2.getD (A2.length - 1) b0).sy),.int .i64 ((A2.getD (A2.length - 1) b0).xx),.int .i64 ((A2.getD (A2.length - 1) b0).xy),.int .i64 ((A2.getD (A2.length - 1) b0).yy),.int .i64 ((A2.getD (A2.length - 1) b0).ms),.int .i64 ((A2.getD (A2.length - 1) b0).mx),.int .i64 ((A2.getD (A2.length - 1) b0).my)]),(16,.int .i64 0),(15,.pointer (some ⟨u14_1r2,0,none⟩)),(14,.int .i64 ((ii:Nat):Int)),(7,.slice pA (A2.length) cA),(13,.int .i64 ((k:Nat):Int)),(9,.pointer (some ⟨b3,0,none⟩)),(2,.slice po no co)]) (R':=[slF (rI .i64) p cap l,slF (rI .u8) po co lq]) ((.of rfl):SubM _ _) (List.Perm.refl _) (List.Perm.refl _) ((.of [0,1] rfl):SelR _ _ _)<|zrb (X:=Nat) (k':=0) (L':=(lb 17 131071)) (fun u14_1r3=>([(18,.int .i64 0),(17,.pointer (some ⟨u14_1r3,0,none⟩)),(16,.int .i64 0),(15,.pointer (some ⟨u14_1r2,0,none⟩)),(14,.int .i64 ((ii:Nat):Int)),(7,.slice pA (A2.length) cA),(13,.int .i64 ((k:Nat):Int)),(9,.pointer (some ⟨b3,0,none⟩)),(2,.slice po no co)],[boxA u14_1r3 51 [.int .i64 (((A2.getD (A2.length - 1) b0).ar)+((A2.getD ii b0).ar)),.int .i64 (min ((A2.getD (A2.length - 1) b0).le) ((A2.getD ii b0).le)),.int .i64 (min ((A2.getD (A2.length - 1) b0).tp) ((A2.getD ii b0).tp)),.int .i64 (max ((A2.getD (A2.length - 1) b0).rt) ((A2.getD ii b0).rt)),.int .i64 (max ((A2.getD (A2.length - 1) b0).bt) ((A2.getD ii b0).bt)),.int .i64 (((A2.getD (A2.length - 1) b0).sx)+((A2.getD ii b0).sx)),.int .i64 (((A2.getD (A2.length - 1) b0).sy)+((A2.getD ii b0).sy)),.int .i64 (((A2.getD (A2.length - 1) b0).xx)+((A2.getD ii b0).xx)),.int .i64 (((A2.getD (A2.length - 1) b0).xy)+((A2.getD ii b0).xy)),.int .i64 (((A2.getD (A2.length - 1) b0).yy)+((A2.getD ii b0).yy)),.int .i64 (((A2.getD (A2.length - 1) b0).ms)+((A2.getD ii b0).ms)),.int .i64 (((A2.getD (A2.length - 1) b0).mx)+((A2.getD ii b0).mx)),.int .i64 (((A2.getD (A2.length - 1) b0).my)+((A2.getD ii b0).my))]],[boxA u14_1r2 51 [.int .i64 (((A2.getD ii b0).ar)+((A2.getD (A2.length - 1) b0).ar)),.int .i64 (min ((A2.getD ii b0).le) ((A2.getD (A2.length - 1) b0).le)),.int .i64 (min ((A2.getD ii b0).tp) ((A2.getD (A2.length - 1) b0).tp)),.int .i64 (max ((A2.getD ii b0).rt) ((A2.getD (A2.length - 1) b0).rt)),.int .i64 (max ((A2.getD ii b0).bt) ((A2.getD (A2.length - 1) b0).bt)),.int .i64 (((A2.getD ii b0).sx)+((A2.getD (A2.length - 1) b0).sx)),.int .i64 (((A2.getD ii b0).sy)+((A2.getD (A2.length - 1) b0).sy)),.int .i64 (((A2.getD ii b0).xx)+((A2.getD (A2.length - 1) b0).xx)),.int .i64 (((A2.getD ii b0).xy)+((A2.getD (A2.length - 1) b0).xy)),.int .i64 (((A2.getD ii b0).yy)+((A2.getD (A2.length - 1) b0).yy)),.int .i64 (((A2.getD ii b0).ms)+((A2.getD (A2.length - 1) b0).ms)),.int .i64 (((A2.getD ii b0).mx)+((A2.getD (A2.length - 1) b0).mx)),.int .i64 (((A2.getD ii b0).my)+((A2.getD (A2.length - 1) b0).my))],boxA b3 51 [.int .i64 (W.ar),.int .i64 (W.le),.int .i64 (W.tp),.int .i64 (W.rt),.int .i64 (W.bt),.int .i64 (W.sx),.int .i64 (W.sy),.int .i64 (W.xx),.int .i64 (W.xy),.int .i64 (W.yy),.int .i64 (W.ms),.int .i64 (W.mx),.int .i64 (W.my)],rowA 51 (rI13 .i64) pA cA A2,boxA b1 24 [.int .i64 ((wn:Nat):Int),.int .i64 ((hn9:Nat):Int),.int .i64 m,.slice p n cap]],[slF (rI .i64) p cap l,slF (rI .u8) po co lq])) ?_ (fun hD0=> ?_)
       ·
        rintro u14_1r3
        dsimp only
        refine zfa (by kernel_rfl)<|zf<|zi<|zi<|zc<|r_pv rfl rfl (zb rfl)<|r_pv rfl rfl (zCa rfl rfl)<|r_pv rfl rfl (zb rfl)<|r_pv rfl rfl (zb rfl)<|r_pv rfl rfl (zCa rfl rfl)<|r_pv rfl rfl (zl rfl rfl)<|r_pv rfl rfl (zb rfl)<|r_u rfl rfl (zh 1 ty51 rfl rfl (.take (.take (.take (.take (.take (.take (.take (.take (.take (.take (.take (.take (.take .nil))))))))))))))<|r_u rfl rfl (zh 0 ty51 rfl rfl (.take (.take (.take (.take (.take (.take (.take (.take (.take (.take (.take (.take (.take .nil))))))))))))))<|r_pv rfl rfl (zVd (p:=(((A2.getD ii b0).ar)+((A2.getD (A2.length - 1) b0).ar))=(((A2.getD (A2.length - 1) b0).ar)+((A2.getD ii b0).ar))∧(min ((A2.getD ii b0).le) ((A2.getD (A2.length - 1) b0).le))=(min ((A2.getD (A2.length - 1) b0).le) ((A2.getD ii b0).le))∧(min ((A2.getD ii b0).tp) ((A2.getD (A2.length - 1) b0).tp))=(min ((A2.getD (A2.length - 1) b0).tp) ((A2.getD ii b0).tp))∧(max ((A2.getD ii b0).rt) ((A2.getD (A2.length - 1) b0).rt))=(max ((A2.getD (A2.length - 1) b0).rt) ((A2.getD ii b0).rt))∧(max ((A2.getD ii b0).bt) ((A2.getD (A2.length - 1) b0).bt))=(max ((A2.getD (A2.length - 1) b0).bt) ((A2.getD ii b0).bt))∧(((A2.getD ii b0).sx)+((A2.getD (A2.length - 1) b0).sx))=(((A2.getD (A2.length - 1) b0).sx)+((A2.getD ii b0).sx))∧(((A2.getD ii b0).sy)+((A2.getD (A2.length - 1) b0).sy))=(((A2.getD (A2.length - 1) b0).sy)+((A2.getD ii b0).sy))∧(((A2.getD ii b0).xx)+((A2.getD (A2.length - 1) b0).xx))=(((A2.getD (A2.length - 1) b0).xx)+((A2.getD ii b0).xx))∧(((A2.getD ii b0).xy)+((A2.getD (A2.length - 1) b0).xy))=(((A2.getD (A2.length - 1) b0).xy)+((A2.getD ii b0).xy))∧(((A2.getD ii b0).yy)+((A2.getD (A2.length - 1) b0).yy))=(((A2.getD (A2.length - 1) b0).yy)+((A2.getD ii b0).yy))∧(((A2.getD ii b0).ms)+((A2.getD (A2.length - 1) b0).ms))=(((A2.getD (A2.length - 1) b0).ms)+((A2.getD ii b0).ms))∧(((A2.getD ii b0).mx)+((A2.getD (A2.length - 1) b0).mx))=(((A2.getD (A2.length - 1) b0).mx)+((A2.getD ii b0).mx))∧(((A2.getD ii b0).my)+((A2.getD (A2.length - 1) b0).my))=(((A2.getD (A2.length - 1) b0).my)+((A2.getD ii b0).my))) (by kernel_rfl) rfl rfl (zNb Try.underlying51 (by kernel_rfl) (zla (by decide) ty3 rfl rfl (zka Try.underlying3) (zla (by decide) ty3 rfl rfl (zka Try.underlying3) (zla (by decide) ty3 rfl rfl (zka Try.underlying3) (zla (by decide) ty3 rfl rfl (zka Try.underlying3) (zla (by decide) ty3 rfl rfl (zka Try.underlying3) (zla (by decide) ty3 rfl rfl (zka Try.underlying3) (zla (by decide) ty3 rfl rfl (zka Try.underlying3) (zla (by decide) ty3 rfl rfl (zka Try.underlying3) (zla (by decide) ty3 rfl rfl (zka Try.underlying3) (zla (by decide) ty3 rfl rfl (zka Try.underlying3) (zla (by decide) ty3 rfl rfl (zka Try.underlying3) (zla (by decide) ty3 rfl rfl (zka Try.underlying3) (zla (by decide) ty3 rfl rfl (zka Try.underlying3) zsd)))))))))))))) (by simp [Bool.decide_and])) ?_
        rw [show (decide (¬((((A2.getD ii b0).ar)+((A2.getD (A2.length - 1) b0).ar))=(((A2.getD (A2.length - 1) b0).ar)+((A2.getD ii b0).ar))∧(min ((A2.getD ii b0).le) ((A2.getD (A2.length - 1) b0).le))=(min ((A2.getD (A2.length - 1) b0).le) ((A2.getD ii b0).le))∧(min ((A2.getD ii b0).tp) ((A2.getD (A2.length - 1) b0).tp))=(min ((A2.getD (A2.length - 1) b0).tp) ((A2.getD ii b0).tp))∧(max ((A2.getD ii b0).rt) ((A2.getD (A2.length - 1) b0).rt))=(max ((A2.getD (A2.length - 1) b0).rt) ((A2.getD ii b0).rt))∧(max ((A2.getD ii b0).bt) ((A2.getD (A2.length - 1) b0).bt))=(max ((A2.getD (A2.length - 1) b0).bt) ((A2.getD ii b0).bt))∧(((A2.getD ii b0).sx)+((A2.getD (A2.length - 1) b0).sx))=(((A2.getD (A2.length - 1) b0).sx)+((A2.getD ii b0).sx))∧(((A2.getD ii b0).sy)+((A2.getD (A2.length - 1) b0).sy))=(((A2.getD (A2.length - 1) b0).sy)+((A2.getD ii b0).sy))∧(((A2.getD ii b0).xx)+((A2.getD (A2.length - 1) b0).xx))=(((A2.getD (A2.length - 1) b0).xx)+((A2.getD ii b0).xx))∧(((A2.getD ii b0).xy)+((A2.getD (A2.length - 1) b0).xy))=(((A2.getD (A2.length - 1) b0).xy)+((A2.getD ii b0).xy))∧(((A2.getD ii b0).yy)+((A2.getD (A2.length - 1) b0).yy))=(((A2.getD (A2.length - 1) b0).yy)+((A2.getD ii b0).yy))∧(((A2.getD ii b0).ms)+((A2.getD (A2.length - 1) b0).ms))=(((A2.getD (A2.length - 1) b0).ms)+((A2.getD ii b0).ms))∧(((A2.getD ii b0).mx)+((A2.getD (A2.length - 1) b0).mx))=(((A2.getD (A2.length - 1) b0).mx)+((A2.getD ii b0).mx))∧(((A2.getD ii b0).my)+((A2.getD (A2.length - 1) b0).my))=(((A2.getD (A2.length - 1) b0).my)+((A2.getD ii b0).my)))))=false from by exact decide_eq_false (not_not_intro ⟨Int.add_comm _ _,Int.min_comm _ _,Int.min_comm _ _,Int.max_comm _ _,Int.max_comm _ _,Int.add_comm _ _,Int.add_comm _ _,Int.add_comm _ _,Int.add_comm _ _,Int.add_comm _ _,Int.add_comm _ _,Int.add_comm _ _,Int.add_comm _ _⟩)]
        refine r_pv rfl rfl (zl rfl rfl)<|zj<|zf<|zUa rfl rfl<|zy<|zf<|zi<|zc<|r_pv rfl rfl (zb rfl)<|r_pv rfl rfl (zb rfl)<|r_u rfl rfl (zh 1 ty51 rfl rfl (.take (.take (.take (.take (.take (.take (.take (.take (.take (.take (.take (.take (.take .nil))))))))))))))<|r_u rfl rfl (zY 3 ii rfl Try.underlying35 sz51 rfl (by first|rfl|simp_all|omega) rfl rfl (by omega))<|zya 3 rfl rfl rfl (zN (j:=ii) (x0:=(⟨(((A2.getD ii b0).ar)+((A2.getD (A2.length - 1) b0).ar)),(min ((A2.getD ii b0).le) ((A2.getD (A2.length - 1) b0).le)),(min ((A2.getD ii b0).tp) ((A2.getD (A2.length - 1) b0).tp)),(max ((A2.getD ii b0).rt) ((A2.getD (A2.length - 1) b0).rt)),(max ((A2.getD ii b0).bt) ((A2.getD (A2.length - 1) b0).bt)),(((A2.getD ii b0).sx)+((A2.getD (A2.length - 1) b0).sx)),(((A2.getD ii b0).sy)+((A2.getD (A2.length - 1) b0).sy)),(((A2.getD ii b0).xx)+((A2.getD (A2.length - 1) b0).xx)),(((A2.getD ii b0).xy)+((A2.getD (A2.length - 1) b0).xy)),(((A2.getD ii b0).yy)+((A2.getD (A2.length - 1) b0).yy)),(((A2.getD ii b0).ms)+((A2.getD (A2.length - 1) b0).ms)),(((A2.getD ii b0).mx)+((A2.getD (A2.length - 1) b0).mx)),(((A2.getD ii b0).my)+((A2.getD (A2.length - 1) b0).my))⟩:Bb)) (γ0:=()) rfl rfl (by first|omega|(rw [List.length_map];omega)|(simp only [List.length_set];omega)|(simp;omega)) rfl rfl sz51 (fun _ _=>by exact ⟨zk.2 (by first|omega|decide|(dsimp only;omega)),zk.2 (by first|omega|decide|(dsimp only;omega)),zk.2 (by first|omega|decide|(dsimp only;omega)),zk.2 (by first|omega|decide|(dsimp only;omega)),zk.2 (by first|omega|decide|(dsimp only;omega)),zk.2 (by first|omega|decide|(dsimp only;omega)),zk.2 (by first|omega|decide|(dsimp only;omega)),zk.2 (by first|omega|decide|(dsimp only;omega)),zk.2 (by first|omega|decide|(dsimp only;omega)),zk.2 (by first|omega|decide|(dsimp only;omega)),zk.2 (by first|omega|decide|(dsimp only;omega)),zk.2 (by first|omega|decide|(dsimp only;omega)),zk.2 (by first|omega|decide|(dsimp only;omega))⟩)) (fun _=>(.s (.s (.s .z)))) (fun _ _=> ?_)
        refine zj<|zf<|zc<|r_pv rfl rfl (zb rfl)<|r_pv rfl rfl (zb rfl)<|r_pv rfl rfl (zK Try.underlying35 rfl)<|r_pv rfl rfl (zda (z:=(((A2.length - 1):Nat):Int)) rfl rfl (w64 (by omega)))<|r_pv rfl rfl (zYa (hi:=(A2.length - 1)) Try.underlying35 sz51 rfl (.s rfl) (.inr ⟨_,rfl⟩) (by omega))<|r_pv rfl rfl (zd rfl)<|zj<|zS<|zf<|zc<|r_pv rfl rfl (zb rfl)<|r_pv rfl rfl (zz (z:=(((k+1):Nat):Int)) rfl rfl (w64 (by omega)))<|r_pv rfl rfl (zd rfl)<|zj<|p_mem (fun w mm=>mm.rowTake 3 rfl (A2.length - 1)) ?_
        dsimp only [List.set]
        refine zZ ((k+1),(A2.set ii (⟨(((A2.getD ii b0).ar)+((A2.getD (A2.length - 1) b0).ar)),(min ((A2.getD ii b0).le) ((A2.getD (A2.length - 1) b0).le)),(min ((A2.getD ii b0).tp) ((A2.getD (A2.length - 1) b0).tp)),(max ((A2.getD ii b0).rt) ((A2.getD (A2.length - 1) b0).rt)),(max ((A2.getD ii b0).bt) ((A2.getD (A2.length - 1) b0).bt)),(((A2.getD ii b0).sx)+((A2.getD (A2.length - 1) b0).sx)),(((A2.getD ii b0).sy)+((A2.getD (A2.length - 1) b0).sy)),(((A2.getD ii b0).xx)+((A2.getD (A2.length - 1) b0).xx)),(((A2.getD ii b0).xy)+((A2.getD (A2.length - 1) b0).xy)),(((A2.getD ii b0).yy)+((A2.getD (A2.length - 1) b0).yy)),(((A2.getD ii b0).ms)+((A2.getD (A2.length - 1) b0).ms)),(((A2.getD ii b0).mx)+((A2.getD (A2.length - 1) b0).mx)),(((A2.getD ii b0).my)+((A2.getD (A2.length - 1) b0).my))⟩:Bb)).take (A2.length - 1)) (show Fl.WhI (Fl.acc wn l (Fl.oW (Fl.ge l th) n) 0 n) aA.length (k+1) ((A2.set ii (⟨(((A2.getD ii b0).ar)+((A2.getD (A2.length - 1) b0).ar)),(min ((A2.getD ii b0).le) ((A2.getD (A2.length - 1) b0).le)),(min ((A2.getD ii b0).tp) ((A2.getD (A2.length - 1) b0).tp)),(max ((A2.getD ii b0).rt) ((A2.getD (A2.length - 1) b0).rt)),(max ((A2.getD ii b0).bt) ((A2.getD (A2.length - 1) b0).bt)),(((A2.getD ii b0).sx)+((A2.getD (A2.length - 1) b0).sx)),(((A2.getD ii b0).sy)+((A2.getD (A2.length - 1) b0).sy)),(((A2.getD ii b0).xx)+((A2.getD (A2.length - 1) b0).xx)),(((A2.getD ii b0).xy)+((A2.getD (A2.length - 1) b0).xy)),(((A2.getD ii b0).yy)+((A2.getD (A2.length - 1) b0).yy)),(((A2.getD ii b0).ms)+((A2.getD (A2.length - 1) b0).ms)),(((A2.getD ii b0).mx)+((A2.getD (A2.length - 1) b0).mx)),(((A2.getD ii b0).my)+((A2.getD (A2.length - 1) b0).my))⟩:Bb)).take (A2.length - 1)) from by exact hst.2.2.2) (by show ((A2.set _ _).take (A2.length - 1)).length<A2.length;rw [List.length_take,List.length_set];omega) ((.e rfl (by dsimp only;congr 1;rw [List.length_take,List.length_set];omega) (.of rfl)):SubM _ _) (ho:=((.of [2,2,2] rfl):PickO _ _ _)) ((.of [0,1] rfl):SelR _ _ _)
       refine zrb (X:=Nat) (k':=2) (L':=(lb 17 32767)) (fun u14_1r3=>([(17,.pointer (some ⟨u14_1r3,0,none⟩)),(112,.int .i64 0),(111,.agg #[.int .i64 (((A2.getD (A2.length - 1) b0).ar)+((A2.getD ii b0).ar)),.int .i64 (min ((A2.getD (A2.length - 1) b0).le) ((A2.getD ii b0).le)),.int .i64 (min ((A2.getD (A2.length - 1) b0).tp) ((A2.getD ii b0).tp)),.int .i64 (max ((A2.getD (A2.length - 1) b0).rt) ((A2.getD ii b0).rt)),.int .i64 (max ((A2.getD (A2.length - 1) b0).bt) ((A2.getD ii b0).bt)),.int .i64 (((A2.getD (A2.length - 1) b0).sx)+((A2.getD ii b0).sx)),.int .i64 (((A2.getD (A2.length - 1) b0).sy)+((A2.getD ii b0).sy)),.int .i64 (((A2.getD (A2.length - 1) b0).xx)+((A2.getD ii b0).xx)),.int .i64 (((A2.getD (A2.length - 1) b0).xy)+((A2.getD ii b0).xy)),.int .i64 (((A2.getD (A2.length - 1) b0).yy)+((A2.getD ii b0).yy)),.int .i64 (((A2.getD (A2.length - 1) b0).ms)+((A2.getD ii b0).ms)),.int .i64 (((A2.getD (A2.length - 1) b0).mx)+((A2.getD ii b0).mx)),.int .i64 (((A2.getD (A2.length - 1) b0).my)+((A2.getD ii b0).my))]),(16,.int .i64 0),(15,.pointer (some ⟨u14_1r2,0,none⟩)),(14,.int .i64 ((ii:Nat):Int)),(7,.slice pA (A2.length) cA),(13,.int .i64 ((k:Nat):Int)),(9,.pointer (some ⟨b3,0,none⟩)),(2,.slice po no co)],[boxA u14_1r3 51 [.int .i64 0,.int .i64 0,.int .i64 0,.int .i64 0,.int .i64 0,.int .i64 0,.int .i64 0,.int .i64 0,.int .i64 0,.int .i64 0,.int .i64 0,.int .i64 0,.int .i64 0]],[boxA u14_1r2 51 [.int .i64 (((A2.getD ii b0).ar)+((A2.getD (A2.length - 1) b0).ar)),.int .i64 (min ((A2.getD ii b0).le) ((A2.getD (A2.length - 1) b0).le)),.int .i64 (min ((A2.getD ii b0).tp) ((A2.getD (A2.length - 1) b0).tp)),.int .i64 (max ((A2.getD ii b0).rt) ((A2.getD (A2.length - 1) b0).rt)),.int .i64 (max ((A2.getD ii b0).bt) ((A2.getD (A2.length - 1) b0).bt)),.int .i64 (((A2.getD ii b0).sx)+((A2.getD (A2.length - 1) b0).sx)),.int .i64 (((A2.getD ii b0).sy)+((A2.getD (A2.length - 1) b0).sy)),.int .i64 (((A2.getD ii b0).xx)+((A2.getD (A2.length - 1) b0).xx)),.int .i64 (((A2.getD ii b0).xy)+((A2.getD (A2.length - 1) b0).xy)),.int .i64 (((A2.getD ii b0).yy)+((A2.getD (A2.length - 1) b0).yy)),.int .i64 (((A2.getD ii b0).ms)+((A2.getD (A2.length - 1) b0).ms)),.int .i64 (((A2.getD ii b0).mx)+((A2.getD (A2.length - 1) b0).mx)),.int .i64 (((A2.getD ii b0).my)+((A2.getD (A2.length - 1) b0).my))],boxA b3 51 [.int .i64 (W.ar),.int .i64 (W.le),.int .i64 (W.tp),.int .i64 (W.rt),.int .i64 (W.bt),.int .i64 (W.sx),.int .i64 (W.sy),.int .i64 (W.xx),.int .i64 (W.xy),.int .i64 (W.yy),.int .i64 (W.ms),.int .i64 (W.mx),.int .i64 (W.my)],rowA 51 (rI13 .i64) pA cA A2,boxA b1 24 [.int .i64 ((wn:Nat):Int),.int .i64 ((hn9:Nat):Int),.int .i64 m,.slice p n cap]],[slF (rI .i64) p cap l,slF (rI .u8) po co lq])) ?_ (fun hD1=> ?_)
       ·
        rintro u14_1r3
        dsimp only
        refine zT 15 (by kernel_rfl) ?_
        ·
         refine zJ (by kernel_rfl) rfl rfl rfl rfl rfl sz51 rfl (.take (.take (.take (.take (.take (.take (.take (.take (.take (.take (.take (.take (.take .nil)))))))))))))<|d_pv 16 rfl rfl (by kernel_rfl) (by kernel_rfl) rfl rfl (zd rfl) ?_
         exact zPa (hD0 u14_1r3) (by kernel_rfl) ((.of rfl):SubM _ _) .rfl .rfl ((.of [0,1] rfl):SelR _ _ _)
       refine zrb (X:=Unit) (k':=3) (L':=(lb 17 16383)) (fun _=>([(112,.int .i64 0),(111,.agg #[.int .i64 (((A2.getD (A2.length - 1) b0).ar)+((A2.getD ii b0).ar)),.int .i64 (min ((A2.getD (A2.length - 1) b0).le) ((A2.getD ii b0).le)),.int .i64 (min ((A2.getD (A2.length - 1) b0).tp) ((A2.getD ii b0).tp)),.int .i64 (max ((A2.getD (A2.length - 1) b0).rt) ((A2.getD ii b0).rt)),.int .i64 (max ((A2.getD (A2.length - 1) b0).bt) ((A2.getD ii b0).bt)),.int .i64 (((A2.getD (A2.length - 1) b0).sx)+((A2.getD ii b0).sx)),.int .i64 (((A2.getD (A2.length - 1) b0).sy)+((A2.getD ii b0).sy)),.int .i64 (((A2.getD (A2.length - 1) b0).xx)+((A2.getD ii b0).xx)),.int .i64 (((A2.getD (A2.length - 1) b0).xy)+((A2.getD ii b0).xy)),.int .i64 (((A2.getD (A2.length - 1) b0).yy)+((A2.getD ii b0).yy)),.int .i64 (((A2.getD (A2.length - 1) b0).ms)+((A2.getD ii b0).ms)),.int .i64 (((A2.getD (A2.length - 1) b0).mx)+((A2.getD ii b0).mx)),.int .i64 (((A2.getD (A2.length - 1) b0).my)+((A2.getD ii b0).my))]),(16,.int .i64 0),(15,.pointer (some ⟨u14_1r2,0,none⟩)),(14,.int .i64 ((ii:Nat):Int)),(7,.slice pA (A2.length) cA),(13,.int .i64 ((k:Nat):Int)),(9,.pointer (some ⟨b3,0,none⟩)),(2,.slice po no co)],[],[boxA u14_1r2 51 [.int .i64 (((A2.getD ii b0).ar)+((A2.getD (A2.length - 1) b0).ar)),.int .i64 (min ((A2.getD ii b0).le) ((A2.getD (A2.length - 1) b0).le)),.int .i64 (min ((A2.getD ii b0).tp) ((A2.getD (A2.length - 1) b0).tp)),.int .i64 (max ((A2.getD ii b0).rt) ((A2.getD (A2.length - 1) b0).rt)),.int .i64 (max ((A2.getD ii b0).bt) ((A2.getD (A2.length - 1) b0).bt)),.int .i64 (((A2.getD ii b0).sx)+((A2.getD (A2.length - 1) b0).sx)),.int .i64 (((A2.getD ii b0).sy)+((A2.getD (A2.length - 1) b0).sy)),.int .i64 (((A2.getD ii b0).xx)+((A2.getD (A2.length - 1) b0).xx)),.int .i64 (((A2.getD ii b0).xy)+((A2.getD (A2.length - 1) b0).xy)),.int .i64 (((A2.getD ii b0).yy)+((A2.getD (A2.length - 1) b0).yy)),.int .i64 (((A2.getD ii b0).ms)+((A2.getD (A2.length - 1) b0).ms)),.int .i64 (((A2.getD ii b0).mx)+((A2.getD (A2.length - 1) b0).mx)),.int .i64 (((A2.getD ii b0).my)+((A2.getD (A2.length - 1) b0).my))],boxA b3 51 [.int .i64 (W.ar),.int .i64 (W.le),.int .i64 (W.tp),.int .i64 (W.rt),.int .i64 (W.bt),.int .i64 (W.sx),.int .i64 (W.sy),.int .i64 (W.xx),.int .i64 (W.xy),.int .i64 (W.yy),.int .i64 (W.ms),.int .i64 (W.mx),.int .i64 (W.my)],rowA 51 (rI13 .i64) pA cA A2,boxA b1 24 [.int .i64 ((wn:Nat):Int),.int .i64 ((hn9:Nat):Int),.int .i64 m,.slice p n cap]],[slF (rI .i64) p cap l,slF (rI .u8) po co lq])) ?_ (fun hD2=> ?_)
       ·
        rintro ⟨⟩
        dsimp only
        refine zT 14 (by kernel_rfl) ?_
        ·
         refine zic rfl rfl rfl rfl (zE zr51 rfl) (fun u14_1r3 _=> ?_)
         exact zPa (hD1 u14_1r3) (by kernel_rfl) ((.of rfl):SubM _ _) .rfl .rfl ((.of [0,1] rfl):SelR _ _ _)
       refine zrb (X:=Nat) (k':=6) (L':=(lb 17 17407)) (fun u14_1r3=>([(17,.pointer (some ⟨u14_1r3,0,none⟩)),(109,.agg #[.int .i64 ((A2.getD ii b0).ar),.int .i64 ((A2.getD ii b0).le),.int .i64 ((A2.getD ii b0).tp),.int .i64 ((A2.getD ii b0).rt),.int .i64 ((A2.getD ii b0).bt),.int .i64 ((A2.getD ii b0).sx),.int .i64 ((A2.getD ii b0).sy),.int .i64 ((A2.getD ii b0).xx),.int .i64 ((A2.getD ii b0).xy),.int .i64 ((A2.getD ii b0).yy),.int .i64 ((A2.getD ii b0).ms),.int .i64 ((A2.getD ii b0).mx),.int .i64 ((A2.getD ii b0).my)]),(105,.agg #[.int .i64 ((A2.getD (A2.length - 1) b0).ar),.int .i64 ((A2.getD (A2.length - 1) b0).le),.int .i64 ((A2.getD (A2.length - 1) b0).tp),.int .i64 ((A2.getD (A2.length - 1) b0).rt),.int .i64 ((A2.getD (A2.length - 1) b0).bt),.int .i64 ((A2.getD (A2.length - 1) b0).sx),.int .i64 ((A2.getD (A2.length - 1) b0).sy),.int .i64 ((A2.getD (A2.length - 1) b0).xx),.int .i64 ((A2.getD (A2.length - 1) b0).xy),.int .i64 ((A2.getD (A2.length - 1) b0).yy),.int .i64 ((A2.getD (A2.length - 1) b0).ms),.int .i64 ((A2.getD (A2.length - 1) b0).mx),.int .i64 ((A2.getD (A2.length - 1) b0).my)]),(16,.int .i64 0),(15,.pointer (some ⟨u14_1r2,0,none⟩)),(14,.int .i64 ((ii:Nat):Int)),(7,.slice pA (A2.length) cA),(13,.int .i64 ((k:Nat):Int)),(9,.pointer (some ⟨b3,0,none⟩)),(2,.slice po no co)],[boxA u14_1r3 51 [.int .i64 0,.int .i64 0,.int .i64 0,.int .i64 0,.int .i64 0,.int .i64 0,.int .i64 0,.int .i64 0,.int .i64 0,.int .i64 0,.int .i64 0,.int .i64 0,.int .i64 0]],[boxA u14_1r2 51 [.int .i64 (((A2.getD ii b0).ar)+((A2.getD (A2.length - 1) b0).ar)),.int .i64 (min ((A2.getD ii b0).le) ((A2.getD (A2.length - 1) b0).le)),.int .i64 (min ((A2.getD ii b0).tp) ((A2.getD (A2.length - 1) b0).tp)),.int .i64 (max ((A2.getD ii b0).rt) ((A2.getD (A2.length - 1) b0).rt)),.int .i64 (max ((A2.getD ii b0).bt) ((A2.getD (A2.length - 1) b0).bt)),.int .i64 (((A2.getD ii b0).sx)+((A2.getD (A2.length - 1) b0).sx)),.int .i64 (((A2.getD ii b0).sy)+((A2.getD (A2.length - 1) b0).sy)),.int .i64 (((A2.getD ii b0).xx)+((A2.getD (A2.length - 1) b0).xx)),.int .i64 (((A2.getD ii b0).xy)+((A2.getD (A2.length - 1) b0).xy)),.int .i64 (((A2.getD ii b0).yy)+((A2.getD (A2.length - 1) b0).yy)),.int .i64 (((A2.getD ii b0).ms)+((A2.getD (A2.length - 1) b0).ms)),.int .i64 (((A2.getD ii b0).mx)+((A2.getD (A2.length - 1) b0).mx)),.int .i64 (((A2.getD ii b0).my)+((A2.getD (A2.length - 1) b0).my))],boxA b3 51 [.int .i64 (W.ar),.int .i64 (W.le),.int .i64 (W.tp),.int .i64 (W.rt),.int .i64 (W.bt),.int .i64 (W.sx),.int .i64 (W.sy),.int .i64 (W.xx),.int .i64 (W.xy),.int .i64 (W.yy),.int .i64 (W.ms),.int .i64 (W.mx),.int .i64 (W.my)],rowA 51 (rI13 .i64) pA cA A2,boxA b1 24 [.int .i64 ((wn:Nat):Int),.int .i64 ((hn9:Nat):Int),.int .i64 m,.slice p n cap]],[slF (rI .i64) p cap l,slF (rI .u8) po co lq])) ?_ (fun hD3=> ?_)
       ·
        rintro u14_1r3
        dsimp only
        refine zT 10 (by kernel_rfl) ?_
        ·
         refine zVa rfl rfl rfl rfl (.c rfl (.c rfl .n)) ce26 (zeb (ar1:=(A2.getD (A2.length - 1) b0).ar) (le1:=(A2.getD (A2.length - 1) b0).le) (tp1:=(A2.getD (A2.length - 1) b0).tp) (rt1:=(A2.getD (A2.length - 1) b0).rt) (bt1:=(A2.getD (A2.length - 1) b0).bt) (sx1:=(A2.getD (A2.length - 1) b0).sx) (sy1:=(A2.getD (A2.length - 1) b0).sy) (xx1:=(A2.getD (A2.length - 1) b0).xx) (xy1:=(A2.getD (A2.length - 1) b0).xy) (yy1:=(A2.getD (A2.length - 1) b0).yy) (ms1:=(A2.getD (A2.length - 1) b0).ms) (mx1:=(A2.getD (A2.length - 1) b0).mx) (my1:=(A2.getD (A2.length - 1) b0).my) (ar2:=(A2.getD ii b0).ar) (le2:=(A2.getD ii b0).le) (tp2:=(A2.getD ii b0).tp) (rt2:=(A2.getD ii b0).rt) (bt2:=(A2.getD ii b0).bt) (sx2:=(A2.getD ii b0).sx) (sy2:=(A2.getD ii b0).sy) (xx2:=(A2.getD ii b0).xx) (xy2:=(A2.getD ii b0).xy) (yy2:=(A2.getD ii b0).yy) (ms2:=(A2.getD ii b0).ms) (mx2:=(A2.getD ii b0).mx) (my2:=(A2.getD ii b0).my) (hG:=by exact ⟨hst.2.1,hst.1,by have:=hst.2.2.1;omega⟩)) (.n)<|d_pv 11 rfl rfl (by kernel_rfl) (by kernel_rfl) rfl rfl (zb rfl)<|d_pv 12 rfl rfl (by kernel_rfl) (by kernel_rfl) rfl rfl (zp rfl rfl)<|d_pv 13 rfl rfl (by kernel_rfl) (by kernel_rfl) rfl rfl (zp rfl rfl) ?_
         exact zPa (hD1 u14_1r3) (by kernel_rfl) ((.of rfl):SubM _ _) .rfl .rfl ((.of [0,1] rfl):SelR _ _ _)
       refine zwf 10 14 (by kernel_rfl) ?_ ?_
       ·
        refine zVa rfl rfl rfl rfl (.c rfl (.c rfl .n)) ce26 (zeb (ar1:=(A2.getD (A2.length - 1) b0).ar) (le1:=(A2.getD (A2.length - 1) b0).le) (tp1:=(A2.getD (A2.length - 1) b0).tp) (rt1:=(A2.getD (A2.length - 1) b0).rt) (bt1:=(A2.getD (A2.length - 1) b0).bt) (sx1:=(A2.getD (A2.length - 1) b0).sx) (sy1:=(A2.getD (A2.length - 1) b0).sy) (xx1:=(A2.getD (A2.length - 1) b0).xx) (xy1:=(A2.getD (A2.length - 1) b0).xy) (yy1:=(A2.getD (A2.length - 1) b0).yy) (ms1:=(A2.getD (A2.length - 1) b0).ms) (mx1:=(A2.getD (A2.length - 1) b0).mx) (my1:=(A2.getD (A2.length - 1) b0).my) (ar2:=(A2.getD ii b0).ar) (le2:=(A2.getD ii b0).le) (tp2:=(A2.getD ii b0).tp) (rt2:=(A2.getD ii b0).rt) (bt2:=(A2.getD ii b0).bt) (sx2:=(A2.getD ii b0).sx) (sy2:=(A2.getD ii b0).sy) (xx2:=(A2.getD ii b0).xx) (xy2:=(A2.getD ii b0).xy) (yy2:=(A2.getD ii b0).yy) (ms2:=(A2.getD ii b0).ms) (mx2:=(A2.getD ii b0).mx) (my2:=(A2.getD ii b0).my) (hG:=by exact ⟨hst.2.1,hst.1,by have:=hst.2.2.1;omega⟩)) (.n)<|d_pv 11 rfl rfl (by kernel_rfl) (by kernel_rfl) rfl rfl (zb rfl)<|d_pv 12 rfl rfl (by kernel_rfl) (by kernel_rfl) rfl rfl (zp rfl rfl)<|d_pv 13 rfl rfl (by kernel_rfl) (by kernel_rfl) rfl rfl (zp rfl rfl) ?_
        exact zPa (hD2 ()) (by kernel_rfl) ((.of rfl):SubM _ _) .rfl .rfl ((.of [0,1] rfl):SelR _ _ _)
       ·
        refine zic rfl rfl rfl rfl (zE zr51 rfl) (fun u14_1r3 _=> ?_)
        exact zPa (hD3 u14_1r3) (by kernel_rfl) ((.of rfl):SubM _ _) .rfl .rfl ((.of [0,1] rfl):SelR _ _ _)
      refine zrb (X:=Nat) (k':=2) (L':=(lb 17 32767)) (fun u14_1r2=>([(15,.pointer (some ⟨u14_1r2,0,none⟩)),(98,.int .i64 0),(97,.agg #[.int .i64 (((A2.getD ii b0).ar)+((A2.getD (A2.length - 1) b0).ar)),.int .i64 (min ((A2.getD ii b0).le) ((A2.getD (A2.length - 1) b0).le)),.int .i64 (min ((A2.getD ii b0).tp) ((A2.getD (A2.length - 1) b0).tp)),.int .i64 (max ((A2.getD ii b0).rt) ((A2.getD (A2.length - 1) b0).rt)),.int .i64 (max ((A2.getD ii b0).bt) ((A2.getD (A2.length - 1) b0).bt)),.int .i64 (((A2.getD ii b0).sx)+((A2.getD (A2.length - 1) b0).sx)),.int .i64 (((A2.getD ii b0).sy)+((A2.getD (A2.length - 1) b0).sy)),.int .i64 (((A2.getD ii b0).xx)+((A2.getD (A2.length - 1) b0).xx)),.int .i64 (((A2.getD ii b0).xy)+((A2.getD (A2.length - 1) b0).xy)),.int .i64 (((A2.getD ii b0).yy)+((A2.getD (A2.length - 1) b0).yy)),.int .i64 (((A2.getD ii b0).ms)+((A2.getD (A2.length - 1) b0).ms)),.int .i64 (((A2.getD ii b0).mx)+((A2.getD (A2.length - 1) b0).mx)),.int .i64 (((A2.getD ii b0).my)+((A2.getD (A2.length - 1) b0).my))]),(14,.int .i64 ((ii:Nat):Int)),(7,.slice pA (A2.length) cA),(13,.int .i64 ((k:Nat):Int)),(9,.pointer (some ⟨b3,0,none⟩)),(2,.slice po no co)],[boxA u14_1r2 51 [.int .i64 0,.int .i64 0,.int .i64 0,.int .i64 0,.int .i64 0,.int .i64 0,.int .i64 0,.int .i64 0,.int .i64 0,.int .i64 0,.int .i64 0,.int .i64 0,.int .i64 0]],[boxA b3 51 [.int .i64 (W.ar),.int .i64 (W.le),.int .i64 (W.tp),.int .i64 (W.rt),.int .i64 (W.bt),.int .i64 (W.sx),.int .i64 (W.sy),.int .i64 (W.xx),.int .i64 (W.xy),.int .i64 (W.yy),.int .i64 (W.ms),.int .i64 (W.mx),.int .i64 (W.my)],rowA 51 (rI13 .i64) pA cA A2,boxA b1 24 [.int .i64 ((wn:Nat):Int),.int .i64 ((hn9:Nat):Int),.int .i64 m,.slice p n cap]],[slF (rI .i64) p cap l,slF (rI .u8) po co lq])) ?_ (fun hD1=> ?_)
      ·
       rintro u14_1r2
       dsimp only
       refine zT 15 (by kernel_rfl) ?_
       ·
        refine zJ (by kernel_rfl) rfl rfl rfl rfl rfl sz51 rfl (.take (.take (.take (.take (.take (.take (.take (.take (.take (.take (.take (.take (.take .nil)))))))))))))<|d_pv 16 rfl rfl (by kernel_rfl) (by kernel_rfl) rfl rfl (zd rfl) ?_
        exact zPa (hD0 u14_1r2) (by kernel_rfl) ((.of rfl):SubM _ _) .rfl .rfl ((.of [0,1] rfl):SelR _ _ _)
      refine zrb (X:=Unit) (k':=3) (L':=(lb 17 16383)) (fun _=>([(98,.int .i64 0),(97,.agg #[.int .i64 (((A2.getD ii b0).ar)+((A2.getD (A2.length - 1) b0).ar)),.int .i64 (min ((A2.getD ii b0).le) ((A2.getD (A2.length - 1) b0).le)),.int .i64 (min ((A2.getD ii b0).tp) ((A2.getD (A2.length - 1) b0).tp)),.int .i64 (max ((A2.getD ii b0).rt) ((A2.getD (A2.length - 1) b0).rt)),.int .i64 (max ((A2.getD ii b0).bt) ((A2.getD (A2.length - 1) b0).bt)),.int .i64 (((A2.getD ii b0).sx)+((A2.getD (A2.length - 1) b0).sx)),.int .i64 (((A2.getD ii b0).sy)+((A2.getD (A2.length - 1) b0).sy)),.int .i64 (((A2.getD ii b0).xx)+((A2.getD (A2.length - 1) b0).xx)),.int .i64 (((A2.getD ii b0).xy)+((A2.getD (A2.length - 1) b0).xy)),.int .i64 (((A2.getD ii b0).yy)+((A2.getD (A2.length - 1) b0).yy)),.int .i64 (((A2.getD ii b0).ms)+((A2.getD (A2.length - 1) b0).ms)),.int .i64 (((A2.getD ii b0).mx)+((A2.getD (A2.length - 1) b0).mx)),.int .i64 (((A2.getD ii b0).my)+((A2.getD (A2.length - 1) b0).my))]),(14,.int .i64 ((ii:Nat):Int)),(7,.slice pA (A2.length) cA),(13,.int .i64 ((k:Nat):Int)),(9,.pointer (some ⟨b3,0,none⟩)),(2,.slice po no co)],[],[boxA b3 51 [.int .i64 (W.ar),.int .i64 (W.le),.int .i64 (W.tp),.int .i64 (W.rt),.int .i64 (W.bt),.int .i64 (W.sx),.int .i64 (W.sy),.int .i64 (W.xx),.int .i64 (W.xy),.int .i64 (W.yy),.int .i64 (W.ms),.int .i64 (W.mx),.int .i64 (W.my)],rowA 51 (rI13 .i64) pA cA A2,boxA b1 24 [.int .i64 ((wn:Nat):Int),.int .i64 ((hn9:Nat):Int),.int .i64 m,.slice p n cap]],[slF (rI .i64) p cap l,slF (rI .u8) po co lq])) ?_ (fun hD2=> ?_)
      ·
       rintro ⟨⟩
       dsimp only
       refine zT 14 (by kernel_rfl) ?_
       ·
        refine zic rfl rfl rfl rfl (zE zr51 rfl) (fun u14_1r2 _=> ?_)
        exact zPa (hD1 u14_1r2) (by kernel_rfl) ((.of rfl):SubM _ _) .rfl .rfl ((.of [0,1] rfl):SelR _ _ _)
      refine zrb (X:=Nat) (k':=6) (L':=(lb 17 17407)) (fun u14_1r2=>([(15,.pointer (some ⟨u14_1r2,0,none⟩)),(95,.agg #[.int .i64 ((A2.getD (A2.length - 1) b0).ar),.int .i64 ((A2.getD (A2.length - 1) b0).le),.int .i64 ((A2.getD (A2.length - 1) b0).tp),.int .i64 ((A2.getD (A2.length - 1) b0).rt),.int .i64 ((A2.getD (A2.length - 1) b0).bt),.int .i64 ((A2.getD (A2.length - 1) b0).sx),.int .i64 ((A2.getD (A2.length - 1) b0).sy),.int .i64 ((A2.getD (A2.length - 1) b0).xx),.int .i64 ((A2.getD (A2.length - 1) b0).xy),.int .i64 ((A2.getD (A2.length - 1) b0).yy),.int .i64 ((A2.getD (A2.length - 1) b0).ms),.int .i64 ((A2.getD (A2.length - 1) b0).mx),.int .i64 ((A2.getD (A2.length - 1) b0).my)]),(89,.agg #[.int .i64 ((A2.getD ii b0).ar),.int .i64 ((A2.getD ii b0).le),.int .i64 ((A2.getD ii b0).tp),.int .i64 ((A2.getD ii b0).rt),.int .i64 ((A2.getD ii b0).bt),.int .i64 ((A2.getD ii b0).sx),.int .i64 ((A2.getD ii b0).sy),.int .i64 ((A2.getD ii b0).xx),.int .i64 ((A2.getD ii b0).xy),.int .i64 ((A2.getD ii b0).yy),.int .i64 ((A2.getD ii b0).ms),.int .i64 ((A2.getD ii b0).mx),.int .i64 ((A2.getD ii b0).my)]),(14,.int .i64 ((ii:Nat):Int)),(7,.slice pA (A2.length) cA),(13,.int .i64 ((k:Nat):Int)),(9,.pointer (some ⟨b3,0,none⟩)),(2,.slice po no co)],[boxA u14_1r2 51 [.int .i64 0,.int .i64 0,.int .i64 0,.int .i64 0,.int .i64 0,.int .i64 0,.int .i64 0,.int .i64 0,.int .i64 0,.int .i64 0,.int .i64 0,.int .i64 0,.int .i64 0]],[boxA b3 51 [.int .i64 (W.ar),.int .i64 (W.le),.int .i64 (W.tp),.int .i64 (W.rt),.int .i64 (W.bt),.int .i64 (W.sx),.int .i64 (W.sy),.int .i64 (W.xx),.int .i64 (W.xy),.int .i64 (W.yy),.int .i64 (W.ms),.int .i64 (W.mx),.int .i64 (W.my)],rowA 51 (rI13 .i64) pA cA A2,boxA b1 24 [.int .i64 ((wn:Nat):Int),.int .i64 ((hn9:Nat):Int),.int .i64 m,.slice p n cap]],[slF (rI .i64) p cap l,slF (rI .u8) po co lq])) ?_ (fun hD3=> ?_)
      ·
       rintro u14_1r2
       dsimp only
       refine zT 10 (by kernel_rfl) ?_
       ·
        refine zVa rfl rfl rfl rfl (.c rfl (.c rfl .n)) ce26 (zeb (ar1:=(A2.getD ii b0).ar) (le1:=(A2.getD ii b0).le) (tp1:=(A2.getD ii b0).tp) (rt1:=(A2.getD ii b0).rt) (bt1:=(A2.getD ii b0).bt) (sx1:=(A2.getD ii b0).sx) (sy1:=(A2.getD ii b0).sy) (xx1:=(A2.getD ii b0).xx) (xy1:=(A2.getD ii b0).xy) (yy1:=(A2.getD ii b0).yy) (ms1:=(A2.getD ii b0).ms) (mx1:=(A2.getD ii b0).mx) (my1:=(A2.getD ii b0).my) (ar2:=(A2.getD (A2.length - 1) b0).ar) (le2:=(A2.getD (A2.length - 1) b0).le) (tp2:=(A2.getD (A2.length - 1) b0).tp) (rt2:=(A2.getD (A2.length - 1) b0).rt) (bt2:=(A2.getD (A2.length - 1) b0).bt) (sx2:=(A2.getD (A2.length - 1) b0).sx) (sy2:=(A2.getD (A2.length - 1) b0).sy) (xx2:=(A2.getD (A2.length - 1) b0).xx) (xy2:=(A2.getD (A2.length - 1) b0).xy) (yy2:=(A2.getD (A2.length - 1) b0).yy) (ms2:=(A2.getD (A2.length - 1) b0).ms) (mx2:=(A2.getD (A2.length - 1) b0).mx) (my2:=(A2.getD (A2.length - 1) b0).my) (hG:=by exact ⟨hst.1,hst.2.1,hst.2.2.1⟩)) (.n)<|d_pv 11 rfl rfl (by kernel_rfl) (by kernel_rfl) rfl rfl (zb rfl)<|d_pv 12 rfl rfl (by kernel_rfl) (by kernel_rfl) rfl rfl (zp rfl rfl)<|d_pv 13 rfl rfl (by kernel_rfl) (by kernel_rfl) rfl rfl (zp rfl rfl) ?_
        exact zPa (hD1 u14_1r2) (by kernel_rfl) ((.of rfl):SubM _ _) .rfl .rfl ((.of [0,1] rfl):SelR _ _ _)
      refine zwf 10 14 (by kernel_rfl) ?_ ?_
      ·
       refine zVa rfl rfl rfl rfl (.c rfl (.c rfl .n)) ce26 (zeb (ar1:=(A2.getD ii b0).ar) (le1:=(A2.getD ii b0).le) (tp1:=(A2.getD ii b0).tp) (rt1:=(A2.getD ii b0).rt) (bt1:=(A2.getD ii b0).bt) (sx1:=(A2.getD ii b0).sx) (sy1:=(A2.getD ii b0).sy) (xx1:=(A2.getD ii b0).xx) (xy1:=(A2.getD ii b0).xy) (yy1:=(A2.getD ii b0).yy) (ms1:=(A2.getD ii b0).ms) (mx1:=(A2.getD ii b0).mx) (my1:=(A2.getD ii b0).my) (ar2:=(A2.getD (A2.length - 1) b0).ar) (le2:=(A2.getD (A2.length - 1) b0).le) (tp2:=(A2.getD (A2.length - 1) b0).tp) (rt2:=(A2.getD (A2.length - 1) b0).rt) (bt2:=(A2.getD (A2.length - 1) b0).bt) (sx2:=(A2.getD (A2.length - 1) b0).sx) (sy2:=(A2.getD (A2.length - 1) b0).sy) (xx2:=(A2.getD (A2.length - 1) b0).xx) (xy2:=(A2.getD (A2.length - 1) b0).xy) (yy2:=(A2.getD (A2.length - 1) b0).yy) (ms2:=(A2.getD (A2.length - 1) b0).ms) (mx2:=(A2.getD (A2.length - 1) b0).mx) (my2:=(A2.getD (A2.length - 1) b0).my) (hG:=by exact ⟨hst.1,hst.2.1,hst.2.2.1⟩)) (.n)<|d_pv 11 rfl rfl (by kernel_rfl) (by kernel_rfl) rfl rfl (zb rfl)<|d_pv 12 rfl rfl (by kernel_rfl) (by kernel_rfl) rfl rfl (zp rfl rfl)<|d_pv 13 rfl rfl (by kernel_rfl) (by kernel_rfl) rfl rfl (zp rfl rfl) ?_
       exact zPa (hD2 ()) (by kernel_rfl) ((.of rfl):SubM _ _) .rfl .rfl ((.of [0,1] rfl):SelR _ _ _)
      ·
       refine zic rfl rfl rfl rfl (zE zr51 rfl) (fun u14_1r2 _=> ?_)
       exact zPa (hD3 u14_1r2) (by kernel_rfl) ((.of rfl):SubM _ _) .rfl .rfl ((.of [0,1] rfl):SelR _ _ _)
    ·
     refine zha<|zm<|zm<|zv<|zf<|zRa (X:=Unit) (fun x=>True) (fun x=>[(6,.bool true)]) (fun x=>[boxA b3 51 [.int .i64 (W.ar),.int .i64 (W.le),.int .i64 (W.tp),.int .i64 (W.rt),.int .i64 (W.bt),.int .i64 (W.sx),.int .i64 (W.sy),.int .i64 (W.xx),.int .i64 (W.xy),.int .i64 (W.yy),.int .i64 (W.ms),.int .i64 (W.mx),.int .i64 (W.my)],rowA 51 (rI13 .i64) pA cA A2,boxA b1 24 [.int .i64 ((wn:Nat):Int),.int .i64 ((hn9:Nat):Int),.int .i64 m,.slice p n cap]]) (fun x=>[slF (rI .i64) p cap l,slF (rI .u8) po co lq]) ?_ ?_
     ·
      refine zia (OW:=[]) (O:=[boxA b3 51 [.int .i64 (W.ar),.int .i64 (W.le),.int .i64 (W.tp),.int .i64 (W.rt),.int .i64 (W.bt),.int .i64 (W.sx),.int .i64 (W.sy),.int .i64 (W.xx),.int .i64 (W.xy),.int .i64 (W.yy),.int .i64 (W.ms),.int .i64 (W.mx),.int .i64 (W.my)],rowA 51 (rI13 .i64) pA cA A2,boxA b1 24 [.int .i64 ((wn:Nat):Int),.int .i64 ((hn9:Nat):Int),.int .i64 m,.slice p n cap]]) 100000 mixed (.then .ret) (by kernel_rfl)<|d_pv 0 rfl rfl (by kernel_rfl) (by kernel_rfl) rfl rfl (zb rfl)<|d_pv 1 rfl rfl (by kernel_rfl) (by kernel_rfl) rfl rfl (zK Try.underlying35 rfl)<|d_pv 2 rfl rfl (by kernel_rfl) (by kernel_rfl) rfl rfl (zAa rfl rfl)<|zKc 3 rfl rfl (by kernel_rfl) (by kernel_rfl) rfl rfl (zb rfl) (fun hz0=> ?_) (fun hz0=> ?_)
      ·
       refine d_pv 4 rfl rfl (by kernel_rfl) (by kernel_rfl) rfl rfl (zg Try.underlying51 rfl sz3 rfl rfl)<|d_u 5 rfl rfl (by kernel_rfl) (by kernel_rfl) rfl rfl (ze 0 ty3 rfl rfl rfl)<|d_pv 6 rfl rfl (by kernel_rfl) (by kernel_rfl) rfl rfl (zAa rfl rfl) ?_
       rw [show (decide (W.ar=0))=true from by exact decide_eq_true (by rw [hW,hWl.nil (by omega)];rfl)]
       refine d_pv 7 rfl rfl (by kernel_rfl) (by kernel_rfl) rfl rfl (zl rfl rfl)<|d_pv 8 rfl rfl (by kernel_rfl) (by kernel_rfl) rfl rfl (zb rfl)<|zpa 9 rfl rfl (by kernel_rfl) (by kernel_rfl) rfl rfl<|zpa 10 rfl rfl (by kernel_rfl) (by kernel_rfl) rfl rfl<|zpa 11 rfl rfl (by kernel_rfl) (by kernel_rfl) rfl rfl<|zpa 12 rfl rfl (by kernel_rfl) (by kernel_rfl) rfl rfl<|zpa 13 rfl rfl (by kernel_rfl) (by kernel_rfl) rfl rfl<|zpa 14 rfl rfl (by kernel_rfl) (by kernel_rfl) rfl rfl<|zpa 15 rfl rfl (by kernel_rfl) (by kernel_rfl) rfl rfl<|zpa 16 rfl rfl (by kernel_rfl) (by kernel_rfl) rfl rfl<|zpa 17 rfl rfl (by kernel_rfl) (by kernel_rfl) rfl rfl<|zpa 18 rfl rfl (by kernel_rfl) (by kernel_rfl) rfl rfl<|d_pv 19 rfl rfl (by kernel_rfl) (by kernel_rfl) rfl rfl (zl rfl rfl)<|d_pv 20 rfl rfl (by kernel_rfl) (by kernel_rfl) rfl rfl (zd rfl)<|zfa (by kernel_rfl) ?_
       exact zca () (show True from by first|trivial|omega|simp_all) ((.c rfl .n):SubM _ _) (ho:=((.of [0,0,0] rfl):PickO _ _ _)) ((.of [0,1] rfl):SelR _ _ _)
      ·
       refine zpa 4 rfl rfl (by kernel_rfl) (by kernel_rfl) rfl rfl<|zpa 5 rfl rfl (by kernel_rfl) (by kernel_rfl) rfl rfl<|zpa 6 rfl rfl (by kernel_rfl) (by kernel_rfl) rfl rfl<|d_pv 7 rfl rfl (by kernel_rfl) (by kernel_rfl) rfl rfl (zl rfl rfl)<|d_pv 8 rfl rfl (by kernel_rfl) (by kernel_rfl) rfl rfl (zb rfl)<|d_pv 9 rfl rfl (by kernel_rfl) (by kernel_rfl) rfl rfl (zb rfl)<|d_pv 10 rfl rfl (by kernel_rfl) (by kernel_rfl) rfl rfl (zK Try.underlying35 rfl)<|d_pv 11 rfl rfl (by kernel_rfl) (by kernel_rfl) rfl rfl (zAa rfl rfl) ?_
       rw [show (decide ((((A2.length):Nat):Int)=1))=true from by exact decide_eq_true (by omega)]
       refine d_pv 12 rfl rfl (by kernel_rfl) (by kernel_rfl) rfl rfl (zb rfl)<|d_pv 13 rfl rfl (by kernel_rfl) (by kernel_rfl) rfl rfl (zb rfl)<|d_u 14 rfl rfl (by kernel_rfl) (by kernel_rfl) rfl rfl (zY 1 0 rfl Try.underlying35 sz51 rfl (by first|rfl|simp_all|omega) rfl rfl (by omega))<|d_vl 15 rfl rfl (by kernel_rfl) (by kernel_rfl) rfl rfl (zza 1 0 rfl ty51 rfl rfl (gD (d:=b0) (by omega))) (fun _ hok16=> ?_)
       obtain ⟨hok160,hok161,hok162,hok163,hok164,hok165,hok166,hok167,hok168,hok169,hok1610,hok1611,hok1612⟩:=hok16
       replace hok160:=zk.1 hok160
       replace hok161:=zk.1 hok161
       replace hok162:=zk.1 hok162
       replace hok163:=zk.1 hok163
       replace hok164:=zk.1 hok164
       replace hok165:=zk.1 hok165
       replace hok166:=zk.1 hok166
       replace hok167:=zk.1 hok167
       replace hok168:=zk.1 hok168
       replace hok169:=zk.1 hok169
       replace hok1610:=zk.1 hok1610
       replace hok1611:=zk.1 hok1611
       replace hok1612:=zk.1 hok1612
       refine d_u 16 rfl rfl (by kernel_rfl) (by kernel_rfl) rfl rfl (zh 0 ty51 rfl rfl (.take (.take (.take (.take (.take (.take (.take (.take (.take (.take (.take (.take (.take .nil)))))))))))))) ?_
       have hone9:A2.getD 0 b0=W:=(hWl.one (by omega)).trans hW.symm
       refine d_pv 17 rfl rfl (by kernel_rfl) (by kernel_rfl) rfl rfl (zzc (p:=(A2.getD 0 b0).ar=W.ar∧(A2.getD 0 b0).le=W.le∧(A2.getD 0 b0).tp=W.tp∧(A2.getD 0 b0).rt=W.rt∧(A2.getD 0 b0).bt=W.bt∧(A2.getD 0 b0).sx=W.sx∧(A2.getD 0 b0).sy=W.sy∧(A2.getD 0 b0).xx=W.xx∧(A2.getD 0 b0).xy=W.xy∧(A2.getD 0 b0).yy=W.yy∧(A2.getD 0 b0).ms=W.ms∧(A2.getD 0 b0).mx=W.mx∧(A2.getD 0 b0).my=W.my) (by kernel_rfl) rfl rfl (zNb Try.underlying51 (by kernel_rfl) (zla (by decide) ty3 rfl rfl (zka Try.underlying3) (zla (by decide) ty3 rfl rfl (zka Try.underlying3) (zla (by decide) ty3 rfl rfl (zka Try.underlying3) (zla (by decide) ty3 rfl rfl (zka Try.underlying3) (zla (by decide) ty3 rfl rfl (zka Try.underlying3) (zla (by decide) ty3 rfl rfl (zka Try.underlying3) (zla (by decide) ty3 rfl rfl (zka Try.underlying3) (zla (by decide) ty3 rfl rfl (zka Try.underlying3) (zla (by decide) ty3 rfl rfl (zka Try.underlying3) (zla (by decide) ty3 rfl rfl (zka Try.underlying3) (zla (by decide) ty3 rfl rfl (zka Try.underlying3) (zla (by decide) ty3 rfl rfl (zka Try.underlying3) (zla (by decide) ty3 rfl rfl (zka Try.underlying3) zsd)))))))))))))) (by simp [Bool.decide_and])) ?_
       rw [show (decide ((A2.getD 0 b0).ar=W.ar∧(A2.getD 0 b0).le=W.le∧(A2.getD 0 b0).tp=W.tp∧(A2.getD 0 b0).rt=W.rt∧(A2.getD 0 b0).bt=W.bt∧(A2.getD 0 b0).sx=W.sx∧(A2.getD 0 b0).sy=W.sy∧(A2.getD 0 b0).xx=W.xx∧(A2.getD 0 b0).xy=W.xy∧(A2.getD 0 b0).yy=W.yy∧(A2.getD 0 b0).ms=W.ms∧(A2.getD 0 b0).mx=W.mx∧(A2.getD 0 b0).my=W.my))=true from by exact decide_eq_true (by rw [hone9];exact ⟨rfl,rfl,rfl,rfl,rfl,rfl,rfl,rfl,rfl,rfl,rfl,rfl,rfl⟩)]
       refine d_pv 18 rfl rfl (by kernel_rfl) (by kernel_rfl) rfl rfl (zl rfl rfl)<|d_pv 19 rfl rfl (by kernel_rfl) (by kernel_rfl) rfl rfl (zl rfl rfl)<|d_pv 20 rfl rfl (by kernel_rfl) (by kernel_rfl) rfl rfl (zd rfl)<|zfa (by kernel_rfl) ?_
       exact zca () (show True from by first|trivial|omega|simp_all) ((.c rfl .n):SubM _ _) (ho:=((.of [0,0,0] rfl):PickO _ _ _)) ((.of [0,1] rfl):SelR _ _ _)
     ·
      rintro ⟨⟩ -
      try dsimp only
      refine zI ?_
      exact zD Try.results8 () trivial (zq rfl) rfl (ho:=(.n:PickO _ _ _)) (.n:SelR _ _ _)
end Go.Proofs.Ytefbbhiaalcjfaa.Sp
