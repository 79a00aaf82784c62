/- Lemmas on the walk and plain lemmas that the claim of this folder uses; each states its own conditions. Lines were printed by a program of ours. -/
import Derived.Test.YtkamccndgblheaaGreatZ5E
set_option linter.unusedVariables false
set_option linter.unusedSimpArgs false
set_option linter.unusedSectionVars false
namespace Go.Proofs.YtkamccndgblheaaGreat.Sp
open Go
set_option linter.unusedVariables false
set_option maxRecDepth 100000
set_option maxHeartbeats 1000000
theorem zOb {wi1:Int} {hi1:Int} {m1:Int} {p1:Option Addr} {n1:Nat} {c1:Nat} {l1:List Int} {wi2:Int} {hi2:Int} {m2:Int} {p2:Option Addr} {n2:Nat} {c2:Nat} {l2:List Int} {ex:Int} {ey:Int} (hn1:l1.length=n1) (hn2:l2.length=n2) (hbw1: -9223372036854775808≤wi1∧wi1≤9223372036854775807) (hbh1: -9223372036854775808≤hi1∧hi1≤9223372036854775807) (hbm1: -9223372036854775808≤m1∧m1≤9223372036854775807) (hbw2: -9223372036854775808≤wi2∧wi2≤9223372036854775807) (hbh2: -9223372036854775808≤hi2∧hi2≤9223372036854775807) (hbm2: -9223372036854775808≤m2∧m2≤9223372036854775807) (hex: -9223372036854775808≤ex∧ex≤9223372036854775807) (hey: -9223372036854775808≤ey∧ey≤9223372036854775807):Con Tryz.prog 5 [.agg #[.int .i64 wi1,.int .i64 hi1,.int .i64 m1,.slice p1 n1 c1],.agg #[.int .i64 wi2,.int .i64 hi2,.int .i64 m2,.slice p2 n2 c2],.agg #[.int .i64 ex,.int .i64 ey]] [] [slF (rI .i64) p1 c1 l1,slF (rI .i64) p2 c2 l2] (Y:=Unit) (fun y=>True) (fun y=> .bool true) (fun y=>[]) (fun y=>[]):=by
 refine zr Tryz.func5 rfl rfl rfl (fun c=> ?_)
 show RunC _ _ _ _ _ [(0,.agg #[.int .i64 wi1,.int .i64 hi1,.int .i64 m1,.slice p1 n1 c1]),(1,.agg #[.int .i64 wi2,.int .i64 hi2,.int .i64 m2,.slice p2 n2 c2]),(2,.agg #[.int .i64 ex,.int .i64 ey])] [] [slF (rI .i64) p1 c1 l1,slF (rI .i64) p2 c2 l2]
 refine zaa 0 rfl (fun hL0=> ?_)
 refine zaa 1 rfl (fun hL1=> ?_)
 refine zh<|zc<|zK rfl rfl (zP rfl rfl) (fun b1=> ?_)
 refine zK rfl rfl (zP rfl rfl) (fun b2=> ?_)
 refine zK rfl rfl (zP rfl rfl) (fun b3=> ?_)
 refine r_pv rfl rfl (ze rfl)<|zj<|zf<|zh<|zh<|zc<|zN rfl rfl (.n) ce7 (zhf) (.n)<|r_pv rfl rfl (zDb rfl)<|zj<|zf<|zob rfl rfl<|zH<|zf<|zh<|zh<|zc<|r_u rfl rfl (zd 2 ty24 rfl rfl (.take (.take (.take (.take .nil)))))<|r_u rfl rfl (zd 1 ty24 rfl rfl (.take (.take (.take (.take .nil)))))<|zFa rfl rfl (zT (enc:=fun z:Gr=>[.int .i64 z.w,.int .i64 z.h,.int .i64 z.m,.slice z.p z.n z.c]) (ok:=okG) (h1:=fun _=>rfl) (h2:=fun _=>rfl) (k:=2) Tryz.underlying77 inf24 rfl (by decide) (by decide) (by decide) (.c (x:=(⟨wi1,hi1,m1,p1,n1,c1⟩:Gr)) rfl rfl (fun _ _=>by exact ⟨zZ.2 (by first|omega|decide|(dsimp only;omega)),zZ.2 (by first|omega|decide|(dsimp only;omega)),zZ.2 (by first|omega|decide|(dsimp only;omega))⟩) (.c (x:=(⟨wi2,hi2,m2,p2,n2,c2⟩:Gr)) rfl rfl (fun _ _=>by exact ⟨zZ.2 (by first|omega|decide|(dsimp only;omega)),zZ.2 (by first|omega|decide|(dsimp only;omega)),zZ.2 (by first|omega|decide|(dsimp only;omega))⟩) .n))) (fun b4 _=> ?_)
 refine zla 0 rfl .z<|zN rfl rfl (.c rfl .n) ce8 (zSf (p:=some ⟨b4,0,none⟩) (n:=2) (cap:=2) (l:=[(⟨wi1,hi1,m1,p1,n1,c1⟩:Gr),(⟨wi2,hi2,m2,p2,n2,c2⟩:Gr)]) (hn:=by first|rfl|assumption|omega|(decide +kernel))) (.c (j:=0) rfl .n)<|r_pv rfl rfl (zAa rfl)<|zj<|zf<|zJ rfl (fun hf=> ?_) (fun hf=> ?_)
 ·
  refine zh<|zc<|r_pv rfl rfl (ze rfl)<|zj<|zf<|zL<|zq ?_
  exact zA Tryz.results5 () trivial (zt rfl) rfl (ho:=(.n:PickO _ _ _)) (.n:SelR _ _ _)
 ·
  refine zH<|zf<|zh<|zc<|r_u rfl rfl (zd 3 ty24 rfl rfl (.take (.take (.take (.take .nil)))))<|r_u rfl rfl (zd 2 ty24 rfl rfl (.take (.take (.take (.take .nil)))))<|r_pv rfl rfl (zTa (i:=0) Tryz.underlying25 sz3 rfl rfl (by decide) rfl)<|r_u rfl rfl (zi 1 ty3 rfl rfl rfl)<|r_pv rfl rfl (zTa (i:=1) Tryz.underlying25 sz3 rfl rfl (by decide) rfl)<|r_u rfl rfl (zi 1 ty3 rfl rfl rfl)<|zw rfl rfl (.c rfl (.c rfl (.c rfl (.c rfl .n)))) ce23 (zEe (wi1:=wi1) (hi1:=hi1) (m1:=m1) (p1:=p1) (n1:=n1) (c1:=c1) (l1:=l1) (wi2:=wi2) (hi2:=hi2) (m2:=m2) (p2:=p2) (n2:=n2) (c2:=c2) (l2:=l2) (ex:=ex) (ey:=ey) (hn1:=by assumption) (hn2:=by assumption) (hex:=by assumption) (hey:=by assumption)) (.c (j:=1) rfl (.c (j:=2) rfl .n)) ?_
  rintro ⟨w35,w46,w57,w68⟩ hrf
  dsimp only [List.append_eq,List.nil_append,List.cons_append]
  replace hrf:¬((Cr.rk2 wi1 hi1 m1 l1 wi2 hi2 m2 l2)∧(Cr.ps4 wi1 hi1 wi2 hi2 ex ey)∧¬(Cr.dg l1 l2 wi1 hi1 wi2 ex ey))→w35=wz∧w46=wz∧w57=wz∧w68=wz:=hrf
  refine r_pv rfl rfl (za rfl)<|r_pv rfl rfl (zo rfl rfl)<|r_pv rfl rfl (zo rfl rfl)<|zK rfl rfl (zu zr55 rfl) (fun b9=> ?_)
  refine zl 0 rfl rfl rfl rfl rfl sz55 rfl (.take (.take (.take (.take (.take (.take (.take (.take .nil)))))))) .z<|r_pv rfl rfl (ze rfl)<|zj<|zf<|zh<|zpc (gsF [(⟨wi1,hi1,m1,p1,n1,c1⟩:Gr),(⟨wi2,hi2,m2,p2,n2,c2⟩:Gr)] [l1,l2]) (gsF_2 3 4 rfl rfl)<|zc<|r_u rfl rfl (zd 4 ty24 rfl rfl (.take (.take (.take (.take .nil)))))<|r_u rfl rfl (zd 3 ty24 rfl rfl (.take (.take (.take (.take .nil)))))<|zFa rfl rfl (zT (enc:=fun z:Gr=>[.int .i64 z.w,.int .i64 z.h,.int .i64 z.m,.slice z.p z.n z.c]) (ok:=okG) (h1:=fun _=>rfl) (h2:=fun _=>rfl) (k:=2) Tryz.underlying77 inf24 rfl (by decide) (by decide) (by decide) (.c (x:=(⟨wi1,hi1,m1,p1,n1,c1⟩:Gr)) rfl rfl (fun _ _=>by exact ⟨zZ.2 (by first|omega|decide|(dsimp only;omega)),zZ.2 (by first|omega|decide|(dsimp only;omega)),zZ.2 (by first|omega|decide|(dsimp only;omega))⟩) (.c (x:=(⟨wi2,hi2,m2,p2,n2,c2⟩:Gr)) rfl rfl (fun _ _=>by exact ⟨zZ.2 (by first|omega|decide|(dsimp only;omega)),zZ.2 (by first|omega|decide|(dsimp only;omega)),zZ.2 (by first|omega|decide|(dsimp only;omega))⟩) .n))) (fun b10 _=> ?_)
  refine zla 0 rfl .z<|zN rfl rfl (.c rfl .n) ce10 (zJd (p:=some ⟨b10,0,none⟩) (n:=2) (cap:=2) (l:=[(⟨wi1,hi1,m1,p1,n1,c1⟩:Gr),(⟨wi2,hi2,m2,p2,n2,c2⟩:Gr)]) (ls:=[l1,l2]) (hn:=by first|rfl|assumption|omega|(decide +kernel)) (hls:=by intro i hi;rcases (show i=0∨i=1 by omega) with rfl|rfl;exact hn1;exact hn2)) (.c (j:=0) rfl (.c (j:=1) rfl .n)) ?_
  have e11:((if (Cr.allok ([(⟨wi1,hi1,m1,p1,n1,c1⟩:Gr),(⟨wi2,hi2,m2,p2,n2,c2⟩:Gr)]) ([l1,l2]) 2) then 0 else 1):Int)=(if (Cr.rk2 wi1 hi1 m1 l1 wi2 hi2 m2 l2) then 0 else 1):=by exact Cr.chk2
  rw [e11]
  refine r_pv rfl rfl (ze rfl)<|zj<|zf<|zh<|zc<|r_pv rfl rfl (zE zr55 rfl Tryz.underlying55 (.c sz32 (.c sz32 .n)) .n .n)<|zK rfl rfl (zu zr55 rfl) (fun b12=> ?_)
  refine zl 0 rfl rfl rfl rfl rfl sz55 rfl (.take (.take (.take (.take (.take (.take (.take (.take .nil)))))))) .z<|zj<|zf<|zh<|zh<|zc<|r_pv rfl rfl (za rfl)<|r_pv rfl rfl (zsa rfl rfl)<|zj<|zf<|zJ rfl (fun hk=> ?_) (fun hk=> ?_)
  ·
   have hok:(Cr.rk2 wi1 hi1 m1 l1 wi2 hi2 m2 l2):=Bl.c0.1 hk
   have e13:((if (Cr.rk2 wi1 hi1 m1 l1 wi2 hi2 m2 l2) then 0 else 1):Int)=0:=by exact if_pos hok
   rw [e13]
   obtain ⟨w1,vh1,rfl,rfl,hw1,hh1,hwh1,hb1,hg1⟩:=Cr.rokN (hok.1) hn1
   obtain ⟨w2,vh2,rfl,rfl,hw2,hh2,hwh2,hb2,hg2⟩:=Cr.rokN (hok.2) hn2
   have hce:((if (Cr.rk2 ((w1:Nat):Int) ((vh1:Nat):Int) m1 l1 ((w2:Nat):Int) ((vh2:Nat):Int) m2 l2) then (if (Cr.ps4 ((w1:Nat):Int) ((vh1:Nat):Int) ((w2:Nat):Int) ((vh2:Nat):Int) ex ey) then (if (Cr.dg l1 l2 ((w1:Nat):Int) ((vh1:Nat):Int) ((w2:Nat):Int) ex ey) then 13 else 0) else 15) else 1):Int)=(if (Cr.ps4 ((w1:Nat):Int) ((vh1:Nat):Int) ((w2:Nat):Int) ((vh2:Nat):Int) ex ey) then (if (Cr.dg l1 l2 ((w1:Nat):Int) ((vh1:Nat):Int) ((w2:Nat):Int) ex ey) then 13 else 0) else 15):=if_pos hok
   refine zc<|r_u rfl rfl (zd 6 ty24 rfl rfl (.take (.take (.take (.take .nil)))))<|r_u rfl rfl (zd 5 ty24 rfl rfl (.take (.take (.take (.take .nil)))))<|r_pv rfl rfl (zTa (i:=0) Tryz.underlying25 sz3 rfl rfl (by decide) rfl)<|r_u rfl rfl (zi 4 ty3 rfl rfl rfl)<|r_pv rfl rfl (zTa (i:=1) Tryz.underlying25 sz3 rfl rfl (by decide) rfl)<|r_u rfl rfl (zi 4 ty3 rfl rfl rfl)<|zw rfl rfl (.c rfl (.c rfl (.c rfl (.c rfl .n)))) ce24 (zce (w1:=w1) (vh1:=vh1) (m1:=m1) (p1:=p1) (n1:=n1) (c1:=c1) (l1:=l1) (w2:=w2) (vh2:=vh2) (m2:=m2) (p2:=p2) (n2:=n2) (c2:=c2) (l2:=l2) (ex:=ex) (ey:=ey) (hn1:=by assumption) (hw1:=by first|rfl|assumption|omega|(decide +kernel)) (hh1:=by first|rfl|assumption|omega|(decide +kernel)) (hwh1:=by first|rfl|assumption|omega|(decide +kernel)) (hb1:=by first|rfl|assumption|omega|(decide +kernel)) (hg1:=by first|rfl|assumption|omega|(decide +kernel)) (hn2:=by assumption) (hw2:=by first|rfl|assumption|omega|(decide +kernel)) (hh2:=by first|rfl|assumption|omega|(decide +kernel)) (hwh2:=by first|rfl|assumption|omega|(decide +kernel)) (hb2:=by first|rfl|assumption|omega|(decide +kernel)) (hg2:=by first|rfl|assumption|omega|(decide +kernel)) (hok:=by first|rfl|assumption|omega|(decide +kernel)) (hex:=by assumption) (hey:=by assumption)) (.c (j:=5) rfl (.c (j:=6) rfl .n)) ?_
   rintro ⟨w314,w415,w516,w617⟩ -
   dsimp only [List.append_eq,List.nil_append,List.cons_append]
   refine r_pv rfl rfl (za rfl)<|r_pv rfl rfl (zo rfl rfl)<|r_pv rfl rfl (zo rfl rfl)<|zl 0 rfl rfl rfl rfl rfl sz55 rfl (.take (.take (.take (.take (.take (.take (.take (.take .nil)))))))) .z<|r_pv rfl rfl (ze rfl)<|zj<|zf<|zh<|zh<|zc<|r_pv rfl rfl (za rfl)<|r_pv rfl rfl (zMa rfl rfl)<|zj<|zf<|zJ rfl (fun hcc=> ?_) (fun hcc=> ?_)
   ·
    have hgn:¬((Cr.rk2 ((w1:Nat):Int) ((vh1:Nat):Int) m1 l1 ((w2:Nat):Int) ((vh2:Nat):Int) m2 l2)∧(Cr.ps4 ((w1:Nat):Int) ((vh1:Nat):Int) ((w2:Nat):Int) ((vh2:Nat):Int) ex ey)∧¬(Cr.dg l1 l2 ((w1:Nat):Int) ((vh1:Nat):Int) ((w2:Nat):Int) ex ey)):=fun k=>hcc (Cr.rc0.2 k.2)
    refine zh<|zc<|r_pv rfl rfl (za rfl)<|r_pv rfl rfl (za rfl)<|r_pv rfl rfl (zsa rfl rfl) ?_
    rw [show (decide (((if (Cr.rk2 ((w1:Nat):Int) ((vh1:Nat):Int) m1 l1 ((w2:Nat):Int) ((vh2:Nat):Int) m2 l2) then (if (Cr.ps4 ((w1:Nat):Int) ((vh1:Nat):Int) ((w2:Nat):Int) ((vh2:Nat):Int) ex ey) then (if (Cr.dg l1 l2 ((w1:Nat):Int) ((vh1:Nat):Int) ((w2:Nat):Int) ex ey) then 13 else 0) else 15) else 1):Int)=((if (Cr.ps4 ((w1:Nat):Int) ((vh1:Nat):Int) ((w2:Nat):Int) ((vh2:Nat):Int) ex ey) then (if (Cr.dg l1 l2 ((w1:Nat):Int) ((vh1:Nat):Int) ((w2:Nat):Int) ex ey) then 13 else 0) else 15):Int)))=true from by exact decide_eq_true hce]
    refine r_pv rfl rfl (za rfl)<|r_pv rfl rfl (zg Tryz.underlying55 rfl sz32 rfl rfl)<|r_u rfl rfl (zd 2 ty32 rfl rfl (.take (.take (.take (.take .nil)))))<|zN rfl rfl (.c rfl .n) ce19 (zNb (u1:=w35) (v1:=w46)) (.n) ?_
    rw [show (decide (Wd.zz w35 w46))=true from by exact decide_eq_true (by have h9:=hrf hgn;rw [h9.1,h9.2.1];exact Wd.zz_wz)]
    refine r_pv rfl rfl (zm rfl rfl)<|r_pv rfl rfl (za rfl)<|r_pv rfl rfl (zg Tryz.underlying55 rfl sz32 rfl rfl)<|r_u rfl rfl (zd 2 ty32 rfl rfl (.skip (.skip (.skip (.skip (.take (.take (.take (.take .nil)))))))))<|zN rfl rfl (.c rfl .n) ce19 (zNb (u1:=w57) (v1:=w68)) (.n) ?_
    rw [show (decide (Wd.zz w57 w68))=true from by exact decide_eq_true (by have h9:=hrf hgn;rw [h9.2.2.1,h9.2.2.2];exact Wd.zz_wz)]
    refine r_pv rfl rfl (zm rfl rfl)<|r_pv rfl rfl (ze rfl)<|zj<|zf<|zL<|zq ?_
    exact zA Tryz.results5 () trivial (zt rfl) rfl (ho:=(.n:PickO _ _ _)) (.n:SelR _ _ _)
   ·
    have hgp:((Cr.ps4 ((w1:Nat):Int) ((vh1:Nat):Int) ((w2:Nat):Int) ((vh2:Nat):Int) ex ey)∧¬(Cr.dg l1 l2 ((w1:Nat):Int) ((vh1:Nat):Int) ((w2:Nat):Int) ex ey)):=Cr.rc0.1 (Decidable.not_not.1 hcc)
    have hgr:((Cr.rk2 ((w1:Nat):Int) ((vh1:Nat):Int) m1 l1 ((w2:Nat):Int) ((vh2:Nat):Int) m2 l2)∧(Cr.ps4 ((w1:Nat):Int) ((vh1:Nat):Int) ((w2:Nat):Int) ((vh2:Nat):Int) ex ey)∧¬(Cr.dg l1 l2 ((w1:Nat):Int) ((vh1:Nat):Int) ((w2:Nat):Int) ex ey)):=⟨hok,hgp⟩
    have hp9:=hgp.1
    have hq0:Big.hq (Cr.scq l1 l2 ((w1:Nat):Int) ((vh1:Nat):Int) ((w2:Nat):Int) ex ey)≤6:=Cr.scq_hq hg1 hg2 hw1 hh1 hwh1 hwh2 hb1 hn1 (Cr.ps4_mid hp9)
    have hq1:Big.hq (Cr.scq l1 l2 ((w1:Nat):Int) ((vh1:Nat):Int) ((w2:Nat):Int) (ex - 1) ey)≤6:=Cr.scq_hq hg1 hg2 hw1 hh1 hwh1 hwh2 hb1 hn1 hp9.1
    have hq2:Big.hq (Cr.scq l1 l2 ((w1:Nat):Int) ((vh1:Nat):Int) ((w2:Nat):Int) (ex+1) ey)≤6:=Cr.scq_hq hg1 hg2 hw1 hh1 hwh1 hwh2 hb1 hn1 hp9.2.1
    have hq3:Big.hq (Cr.scq l1 l2 ((w1:Nat):Int) ((vh1:Nat):Int) ((w2:Nat):Int) ex (ey - 1))≤6:=Cr.scq_hq hg1 hg2 hw1 hh1 hwh1 hwh2 hb1 hn1 hp9.2.2.1
    have hq4:Big.hq (Cr.scq l1 l2 ((w1:Nat):Int) ((vh1:Nat):Int) ((w2:Nat):Int) ex (ey+1))≤6:=Cr.scq_hq hg1 hg2 hw1 hh1 hwh1 hwh2 hb1 hn1 hp9.2.2.2
    have hq8:Big.hq (Cr.vlX l1 l2 ((w1:Nat):Int) ((vh1:Nat):Int) ((w2:Nat):Int) ex ey)≤100:=Cr.pkv_hq (fun k=>hgp.2 (Or.inl k)) hq1 hq0 hq2
    have hq9:Big.hq (Cr.vlY l1 l2 ((w1:Nat):Int) ((vh1:Nat):Int) ((w2:Nat):Int) ex ey)≤100:=Cr.pkv_hq (fun k=>hgp.2 (Or.inr k)) hq3 hq0 hq4
    have e18:(if ((Cr.rk2 ((w1:Nat):Int) ((vh1:Nat):Int) m1 l1 ((w2:Nat):Int) ((vh2:Nat):Int) m2 l2)∧(Cr.ps4 ((w1:Nat):Int) ((vh1:Nat):Int) ((w2:Nat):Int) ((vh2:Nat):Int) ex ey)∧¬(Cr.dg l1 l2 ((w1:Nat):Int) ((vh1:Nat):Int) ((w2:Nat):Int) ex ey)) then (Cr.vlX l1 l2 ((w1:Nat):Int) ((vh1:Nat):Int) ((w2:Nat):Int) ex ey) else 0:Rat)=(Cr.vlX l1 l2 ((w1:Nat):Int) ((vh1:Nat):Int) ((w2:Nat):Int) ex ey):=by exact if_pos hgr
    rw [e18]
    have e19:(if ((Cr.rk2 ((w1:Nat):Int) ((vh1:Nat):Int) m1 l1 ((w2:Nat):Int) ((vh2:Nat):Int) m2 l2)∧(Cr.ps4 ((w1:Nat):Int) ((vh1:Nat):Int) ((w2:Nat):Int) ((vh2:Nat):Int) ex ey)∧¬(Cr.dg l1 l2 ((w1:Nat):Int) ((vh1:Nat):Int) ((w2:Nat):Int) ex ey)) then (Cr.vlY l1 l2 ((w1:Nat):Int) ((vh1:Nat):Int) ((w2:Nat):Int) ex ey) else 0:Rat)=(Cr.vlY l1 l2 ((w1:Nat):Int) ((vh1:Nat):Int) ((w2:Nat):Int) ex ey):=by exact if_pos hgr
    rw [e19]
    have e20:(if ((Cr.ps4 ((w1:Nat):Int) ((vh1:Nat):Int) ((w2:Nat):Int) ((vh2:Nat):Int) ex ey)∧¬(Cr.dg l1 l2 ((w1:Nat):Int) ((vh1:Nat):Int) ((w2:Nat):Int) ex ey)) then (Cr.vlX l1 l2 ((w1:Nat):Int) ((vh1:Nat):Int) ((w2:Nat):Int) ex ey) else 0:Rat)=(Cr.vlX l1 l2 ((w1:Nat):Int) ((vh1:Nat):Int) ((w2:Nat):Int) ex ey):=by exact if_pos hgp
    rw [e20]
    have e21:(if ((Cr.ps4 ((w1:Nat):Int) ((vh1:Nat):Int) ((w2:Nat):Int) ((vh2:Nat):Int) ex ey)∧¬(Cr.dg l1 l2 ((w1:Nat):Int) ((vh1:Nat):Int) ((w2:Nat):Int) ex ey)) then (Cr.vlY l1 l2 ((w1:Nat):Int) ((vh1:Nat):Int) ((w2:Nat):Int) ex ey) else 0:Rat)=(Cr.vlY l1 l2 ((w1:Nat):Int) ((vh1:Nat):Int) ((w2:Nat):Int) ex ey):=by exact if_pos hgp
    rw [e21]
    have e22:(decide ((Cr.rk2 ((w1:Nat):Int) ((vh1:Nat):Int) m1 l1 ((w2:Nat):Int) ((vh2:Nat):Int) m2 l2)∧(Cr.ps4 ((w1:Nat):Int) ((vh1:Nat):Int) ((w2:Nat):Int) ((vh2:Nat):Int) ex ey)∧¬(Cr.dg l1 l2 ((w1:Nat):Int) ((vh1:Nat):Int) ((w2:Nat):Int) ex ey)))=true:=by exact decide_eq_true hgr
    rw [e22]
    have e23:(decide ((Cr.ps4 ((w1:Nat):Int) ((vh1:Nat):Int) ((w2:Nat):Int) ((vh2:Nat):Int) ex ey)∧¬(Cr.dg l1 l2 ((w1:Nat):Int) ((vh1:Nat):Int) ((w2:Nat):Int) ex ey)))=true:=by exact decide_eq_true hgp
    rw [e23]
    refine zH<|zf<|zh<|zc<|zw rfl rfl (.c rfl (.c rfl .n)) ce25 (zlc (z1:=1) (z2:=2) (hz1:=by first|rfl|assumption|omega|(decide +kernel)) (hz2:=by first|rfl|assumption|omega|(decide +kernel)) (hy:=by decide)) (.n) ?_
    rintro ⟨w324,w425⟩ -
    dsimp only [List.append_eq,List.nil_append,List.cons_append]
    refine r_pv rfl rfl (za rfl)<|r_pv rfl rfl (zo rfl rfl)<|r_pv rfl rfl (zo rfl rfl)<|zK rfl rfl (zu zr32 rfl) (fun b26=> ?_)
    refine zl 0 rfl rfl rfl rfl rfl sz32 rfl (.take (.take (.take (.take .nil)))) .z<|r_pv rfl rfl (ze rfl)<|zj<|zf<|zh<|zba (OW:=[]) (O:=[boxA b26 32 [w324.b,w324.l,w425.b,w425.l],boxA b12 55 [w314.b,w314.l,w415.b,w415.l,w516.b,w516.l,w617.b,w617.l],emA,boxA b9 55 [w35.b,w35.l,w46.b,w46.l,w57.b,w57.l,w68.b,w68.l],emA,boxA b3 25 [.int .i64 ex,.int .i64 ey],boxA b2 24 [.int .i64 ((w2:Nat):Int),.int .i64 ((vh2:Nat):Int),.int .i64 m2,.slice p2 n2 c2],boxA b1 24 [.int .i64 ((w1:Nat):Int),.int .i64 ((vh1:Nat):Int),.int .i64 m1,.slice p1 n1 c1]]) 100000 mixed (.then .ret) (by kernel_rfl)<|d_pv 0 rfl rfl (by kernel_rfl) (by kernel_rfl) rfl rfl (za rfl)<|d_pv 1 rfl rfl (by kernel_rfl) (by kernel_rfl) rfl rfl (zsa rfl rfl) ?_
    rw [show (decide (((if (Cr.rk2 ((w1:Nat):Int) ((vh1:Nat):Int) m1 l1 ((w2:Nat):Int) ((vh2:Nat):Int) m2 l2) then (if (Cr.ps4 ((w1:Nat):Int) ((vh1:Nat):Int) ((w2:Nat):Int) ((vh2:Nat):Int) ex ey) then (if (Cr.dg l1 l2 ((w1:Nat):Int) ((vh1:Nat):Int) ((w2:Nat):Int) ex ey) then 13 else 0) else 15) else 1):Int)=0))=true from by exact decide_eq_true (by rw [hce];exact Cr.rc0.2 hgp)]
    refine d_pv 2 rfl rfl (by kernel_rfl) (by kernel_rfl) rfl rfl (za rfl)<|d_pv 3 rfl rfl (by kernel_rfl) (by kernel_rfl) rfl rfl (zg Tryz.underlying55 rfl sz32 rfl rfl)<|d_u 4 rfl rfl (by kernel_rfl) (by kernel_rfl) rfl rfl (zd 3 ty32 rfl rfl (.take (.take (.take (.take .nil)))))<|d_pv 5 rfl rfl (by kernel_rfl) (by kernel_rfl) rfl rfl (zg Tryz.underlying55 rfl sz32 rfl rfl)<|d_u 6 rfl rfl (by kernel_rfl) (by kernel_rfl) rfl rfl (zd 1 ty32 rfl rfl (.take (.take (.take (.take .nil)))))<|zD 7 (by kernel_rfl) (zQa rfl rfl rfl rfl (.c rfl (.c rfl .n)) ce22 (zMb (u1:=w35) (v1:=w46) (q1:=(Cr.vlX l1 l2 ((w1:Nat):Int) ((vh1:Nat):Int) ((w2:Nat):Int) ex ey)) (u2:=w314) (v2:=w415) (q2:=(Cr.vlX l1 l2 ((w1:Nat):Int) ((vh1:Nat):Int) ((w2:Nat):Int) ex ey)) (hl:=by first|rfl|assumption|omega|(decide +kernel))) (.c (j:=5) rfl (.c (j:=1) rfl .n)) ?_)
    rw [Cr.self_eq]
    refine d_pv 8 rfl rfl (by kernel_rfl) (by kernel_rfl) rfl rfl (zm rfl rfl)<|d_pv 9 rfl rfl (by kernel_rfl) (by kernel_rfl) rfl rfl (za rfl)<|d_pv 10 rfl rfl (by kernel_rfl) (by kernel_rfl) rfl rfl (zg Tryz.underlying55 rfl sz32 rfl rfl)<|d_u 11 rfl rfl (by kernel_rfl) (by kernel_rfl) rfl rfl (zd 3 ty32 rfl rfl (.skip (.skip (.skip (.skip (.take (.take (.take (.take .nil)))))))))<|d_pv 12 rfl rfl (by kernel_rfl) (by kernel_rfl) rfl rfl (zg Tryz.underlying55 rfl sz32 rfl rfl)<|d_u 13 rfl rfl (by kernel_rfl) (by kernel_rfl) rfl rfl (zd 1 ty32 rfl rfl (.skip (.skip (.skip (.skip (.take (.take (.take (.take .nil)))))))))<|zD 14 (by kernel_rfl) (zQa rfl rfl rfl rfl (.c rfl (.c rfl .n)) ce22 (zMb (u1:=w57) (v1:=w68) (q1:=(Cr.vlY l1 l2 ((w1:Nat):Int) ((vh1:Nat):Int) ((w2:Nat):Int) ex ey)) (u2:=w516) (v2:=w617) (q2:=(Cr.vlY l1 l2 ((w1:Nat):Int) ((vh1:Nat):Int) ((w2:Nat):Int) ex ey)) (hl:=by first|rfl|assumption|omega|(decide +kernel))) (.c (j:=6) rfl (.c (j:=2) rfl .n)) ?_)
    rw [Cr.self_eq]
    refine d_pv 15 rfl rfl (by kernel_rfl) (by kernel_rfl) rfl rfl (zm rfl rfl)<|d_pv 16 rfl rfl (by kernel_rfl) (by kernel_rfl) rfl rfl (za rfl)<|d_pv 17 rfl rfl (by kernel_rfl) (by kernel_rfl) rfl rfl (zg Tryz.underlying55 rfl sz32 rfl rfl)<|d_u 18 rfl rfl (by kernel_rfl) (by kernel_rfl) rfl rfl (zd 3 ty32 rfl rfl (.take (.take (.take (.take .nil)))))<|d_u 20 rfl rfl (by kernel_rfl) (by kernel_rfl) rfl rfl (zd 0 ty32 rfl rfl (.take (.take (.take (.take .nil)))))<|zD 19 (by kernel_rfl) (zv rfl rfl rfl rfl (.c rfl .n) ce15 (zKd (k1:=true) (u1:=w35) (v1:=w46) (q1:=(Cr.vlX l1 l2 ((w1:Nat):Int) ((vh1:Nat):Int) ((w2:Nat):Int) ex ey)) (hl:=by first|rfl|assumption|omega|(decide +kernel))) (.c (j:=5) rfl .n) ?_)
    rintro ⟨w327,w428⟩ -
    dsimp only [List.append_eq,List.nil_append,List.cons_append]
    refine zD 21 (by kernel_rfl) (zQa rfl rfl rfl rfl (.c rfl (.c rfl .n)) ce14 (zZa (k1:=true) (u1:=w327) (v1:=w428) (q1:=(Big.qabs (Cr.vlX l1 l2 ((w1:Nat):Int) ((vh1:Nat):Int) ((w2:Nat):Int) ex ey))) (k2:=true) (u2:=w324) (v2:=w425) (q2:=Rat.divInt 1 2) (hl:=by rw [Big.hq_qabs];have h1:Big.hq (Rat.divInt 1 2)≤6:=(by decide +kernel);omega)) (.c (j:=0) rfl (.c (j:=1) rfl .n)) ?_)
    refine d_pv 22 rfl rfl (by kernel_rfl) (by kernel_rfl) rfl rfl (zCb rfl rfl) ?_
    rw [show (decide (Big.sgq ((Big.qabs (Cr.vlX l1 l2 ((w1:Nat):Int) ((vh1:Nat):Int) ((w2:Nat):Int) ex ey)) - (Rat.divInt 1 2))≤0))=true from by exact decide_eq_true (Cr.pkv_sg (fun k=>hgp.2 (Or.inl k)))]
    refine d_pv 23 rfl rfl (by kernel_rfl) (by kernel_rfl) rfl rfl (zm rfl rfl)<|d_pv 24 rfl rfl (by kernel_rfl) (by kernel_rfl) rfl rfl (za rfl)<|d_pv 25 rfl rfl (by kernel_rfl) (by kernel_rfl) rfl rfl (zg Tryz.underlying55 rfl sz32 rfl rfl)<|d_u 26 rfl rfl (by kernel_rfl) (by kernel_rfl) rfl rfl (zd 3 ty32 rfl rfl (.skip (.skip (.skip (.skip (.take (.take (.take (.take .nil)))))))))<|d_u 28 rfl rfl (by kernel_rfl) (by kernel_rfl) rfl rfl (zd 0 ty32 rfl rfl (.take (.take (.take (.take .nil)))))<|zD 27 (by kernel_rfl) (zv rfl rfl rfl rfl (.c rfl .n) ce15 (zKd (k1:=true) (u1:=w57) (v1:=w68) (q1:=(Cr.vlY l1 l2 ((w1:Nat):Int) ((vh1:Nat):Int) ((w2:Nat):Int) ex ey)) (hl:=by first|rfl|assumption|omega|(decide +kernel))) (.c (j:=7) rfl .n) ?_)
    rintro ⟨w329,w430⟩ -
    dsimp only [List.append_eq,List.nil_append,List.cons_append]
    refine zD 29 (by kernel_rfl) (zQa rfl rfl rfl rfl (.c rfl (.c rfl .n)) ce14 (zZa (k1:=true) (u1:=w329) (v1:=w430) (q1:=(Big.qabs (Cr.vlY l1 l2 ((w1:Nat):Int) ((vh1:Nat):Int) ((w2:Nat):Int) ex ey))) (k2:=true) (u2:=w324) (v2:=w425) (q2:=Rat.divInt 1 2) (hl:=by rw [Big.hq_qabs];have h1:Big.hq (Rat.divInt 1 2)≤6:=(by decide +kernel);omega)) (.c (j:=0) rfl (.c (j:=2) rfl .n)) ?_)
    refine d_pv 30 rfl rfl (by kernel_rfl) (by kernel_rfl) rfl rfl (zCb rfl rfl) ?_
    rw [show (decide (Big.sgq ((Big.qabs (Cr.vlY l1 l2 ((w1:Nat):Int) ((vh1:Nat):Int) ((w2:Nat):Int) ex ey)) - (Rat.divInt 1 2))≤0))=true from by exact decide_eq_true (Cr.pkv_sg (fun k=>hgp.2 (Or.inr k)))]
    refine d_pv 31 rfl rfl (by kernel_rfl) (by kernel_rfl) rfl rfl (zm rfl rfl)<|d_pv 32 rfl rfl (by kernel_rfl) (by kernel_rfl) rfl rfl (ze rfl)<|zV (by kernel_rfl)<|zf<|zL ?_
    exact zA Tryz.results5 () trivial (zt rfl) rfl (ho:=(.n:PickO _ _ _)) (.n:SelR _ _ _)
  ·
   have hno:¬(Cr.rk2 wi1 hi1 m1 l1 wi2 hi2 m2 l2):=fun k=>hk (if_pos k)
   have e31:((if (Cr.rk2 wi1 hi1 m1 l1 wi2 hi2 m2 l2) then 0 else 1):Int)=1:=by exact if_neg hno
   rw [e31]
   have hce:((if (Cr.rk2 wi1 hi1 m1 l1 wi2 hi2 m2 l2) then (if (Cr.ps4 wi1 hi1 wi2 hi2 ex ey) then (if (Cr.dg l1 l2 wi1 hi1 wi2 ex ey) then 13 else 0) else 15) else 1):Int)=1:=if_neg hno
   have hgn:¬((Cr.rk2 wi1 hi1 m1 l1 wi2 hi2 m2 l2)∧(Cr.ps4 wi1 hi1 wi2 hi2 ex ey)∧¬(Cr.dg l1 l2 wi1 hi1 wi2 ex ey)):=fun k=>hno k.1
   refine zH<|zf<|zh<|zh<|zc<|r_pv rfl rfl (za rfl)<|r_pv rfl rfl (zMa rfl rfl)<|zj<|zf<|zhe rfl rfl<|zh<|zc<|r_pv rfl rfl (za rfl)<|r_pv rfl rfl (za rfl)<|r_pv rfl rfl (zsa rfl rfl) ?_
   rw [show (decide (((if (Cr.rk2 wi1 hi1 m1 l1 wi2 hi2 m2 l2) then (if (Cr.ps4 wi1 hi1 wi2 hi2 ex ey) then (if (Cr.dg l1 l2 wi1 hi1 wi2 ex ey) then 13 else 0) else 15) else 1):Int)=1))=true from by exact decide_eq_true hce]
   refine r_pv rfl rfl (za rfl)<|r_pv rfl rfl (zg Tryz.underlying55 rfl sz32 rfl rfl)<|r_u rfl rfl (zd 2 ty32 rfl rfl (.take (.take (.take (.take .nil)))))<|zN rfl rfl (.c rfl .n) ce19 (zNb (u1:=w35) (v1:=w46)) (.n) ?_
   rw [show (decide (Wd.zz w35 w46))=true from by exact decide_eq_true (by have h9:=hrf hgn;rw [h9.1,h9.2.1];exact Wd.zz_wz)]
   refine r_pv rfl rfl (zm rfl rfl)<|r_pv rfl rfl (za rfl)<|r_pv rfl rfl (zg Tryz.underlying55 rfl sz32 rfl rfl)<|r_u rfl rfl (zd 2 ty32 rfl rfl (.skip (.skip (.skip (.skip (.take (.take (.take (.take .nil)))))))))<|zN rfl rfl (.c rfl .n) ce19 (zNb (u1:=w57) (v1:=w68)) (.n) ?_
   rw [show (decide (Wd.zz w57 w68))=true from by exact decide_eq_true (by have h9:=hrf hgn;rw [h9.2.2.1,h9.2.2.2];exact Wd.zz_wz)]
   refine r_pv rfl rfl (zm rfl rfl)<|r_pv rfl rfl (ze rfl)<|zj<|zf<|zL<|zq ?_
   exact zA Tryz.results5 () trivial (zt rfl) rfl (ho:=(.n:PickO _ _ _)) (.n:SelR _ _ _)
end Go.Proofs.YtkamccndgblheaaGreat.Sp
