/- Lemmas on the walk and plain lemmas that the claim of this folder uses; each states its own conditions. Lines were printed by a program of ours. -/
import Derived.Test.YtbiaimgafknkmaaGreatZ7D
set_option linter.unusedVariables false
set_option linter.unusedSimpArgs false
set_option linter.unusedSectionVars false
open Go.Proofs.Tryz renaming underlying23 → ya, underlying48 → yb, prog → yd, underlying76 → ye, underlying55 → yg, underlying24 → yh, underlying28 → yi, underlying60 → yj, results37 → yk, results38 → yl
open Go.Proofs.YtbiaimgafknkmaaGreat.Big renaming hq → yc, sgq → yf, sgq_rng → ym, digs → yn, raw → yo
namespace Go.Proofs.YtbiaimgafknkmaaGreat.Sp
open Go
set_option linter.unusedVariables false
set_option maxRecDepth 100000
set_option maxHeartbeats 8000000
theorem zUb {p1:Option Addr} {n1:Nat} {c1:Nat} {l1:List Rat} (hn1:l1.length=n1) (hm1:n1≤800) (hcl:Po.cl l1=l1) (hb:Po.bd 60000000000 l1):Con yd 131 [.slice p1 n1 c1] [] [slF rQ p1 c1 l1] (Y:=(Option Addr)×Nat) (fun y=>True) (fun y=> .slice (y.1) ((Po.mo l1).length) (y.2)) (fun y=>[]) (fun y=>[slF rQ (y.1) (y.2) (Po.mo l1)]):=by
 refine zl Tryz.func131 rfl rfl rfl (fun c=> ?_)
 show RunC _ _ _ _ _ [(0,.slice p1 n1 c1)] [] [slF rQ p1 c1 l1]
 refine zP 0 rfl (fun hL0=> ?_)
 refine ze<|za<|e_p (zb rfl)<|zf<|zd<|ze<|ze<|za<|e_mv rfl<|e_p (zD ya rfl)<|e_p (zna rfl rfl)<|zf<|zd<|zC rfl (fun h7=> ?_) (fun h7=> ?_)
 ·
  refine ze<|za<|e_p (zb rfl)<|zf<|zd<|zE<|zp<|zFb rQ ?_
  have hv9:(Po.mo l1)=[]:=if_pos om
  exact zw Tryz.results131 (none,0) trivial (zo rfl) (by rw [hv9];rfl) (ho:=(.n:PickO _ _ _)) ((.e (j:=0) rfl (by rw [hv9]) .n):SelR _ _ _)
 ·
  have hne:l1≠[]:=fun e=>h7 (by rw [← hn1,e];rfl)
  have hl0:=Po.lead_ne hcl hne
  have hlq:=Po.lead_hq hb
  have hiq:=Po.inv_hq hb
  have h1q:yc ((1:Int):Rat)=1:=by decide
  refine zB<|zd<|ze<|zW (OW:=[]) (O:=[]) 12 mixed (.then .ret) kr<|e_dm 1 rfl rfl rfl<|e_dm 2 rfl rfl rfl<|e_pv 3 rfl rfl (zD ya rfl)<|e_pv 4 rfl rfl (zZ (z:=(((n1:Nat):Int) - 1)) rfl rfl (w64 om)) ?_
  have e1:((((n1:Nat):Int) - 1):Int)=(((n1 - 1):Nat):Int):=by omega
  rw [e1]
  refine d_vl 5 rfl rfl kr kr rfl rfl (zja (x0:=(l1.getD (n1 - 1) (0:Rat))) 0 (n1 - 1) rfl ya sz28 rfl (by first|rfl|assumption|(simp;done)|omega) rfl rfl (gD (d:=(0:Rat)) om)) ?_
  rintro ⟨b2,o3,w4,w5⟩ -
  dsimp only [aq,nq,cq]
  refine zTa open_rQ<|e_u 6 rfl rfl (zO (j:=0) 0 ty28 rfl rfl rfl (.t4 .nil))<|zFd (m':=[(15,.agg (cw [w4,w5]).toArray),(2,.slice none 0 0),(0,.slice p1 n1 c1)]) (R':=[qF true w4 w5 (l1.getD (n1 - 1) (0:Rat)),slF rQ p1 c1 l1]) ((.of rfl):SubM _ _) (List.Perm.refl _) (List.Perm.refl _) ((.of [1,2] rfl):SelR _ _ _)<|zCa (X:=Wd×Wd×Wd×Wd×Nat) (k':=0) (L':=(lb 14 16383)) (fun (u0_1,u0_2,u7_1,u7_2,u11_1)=>([(3,.pointer (some ⟨u11_1,0,none⟩)),(2,.slice none 0 0),(0,.slice p1 n1 c1)],[boxA u11_1 28 (cw [u7_1,u7_2])],[],[qF true u7_1 u7_2 (((1:Int):Rat) / (l1.getD (n1 - 1) (0:Rat))),qF true u0_1 u0_2 ((1:Int):Rat),qF true w4 w5 (l1.getD (n1 - 1) (0:Rat)),slF rQ p1 c1 l1])) ?_ (fun hD0=> ?_)
  ·
   rintro ⟨u0_1,u0_2,u7_1,u7_2,u11_1⟩
   dsimp only [cw]
   refine zU kr<|zd<|ze ?_
   obtain ⟨kq,hkq⟩:∃z:Rat,z=((1:Int):Rat) / (l1.getD (n1 - 1) (0:Rat)):=⟨_,rfl⟩
   rw [← hkq]
   refine za<|e_mv rfl<|e_ru (zc 0 ty28 rfl rfl (.t4 .nil))<|zha (addQe 0 rfl)<|zha (addQE 4 rfl)<|zk rfl rfl (.c rfl (.c rfl .n)) ce19 (zod (p1:=p1) (n1:=n1) (c1:=c1) (l1:=(l1.map some)) (u1:=u7_1) (v1:=u7_2) (x1:=(some kq)) (hn1:=by exact (List.length_map _).trans hn1) (hm1:=by first|omega|rfl|assumption|decide) (hm9:=by first|omega|rfl|assumption|decide) (hb1:=by rw [Po.vals_some];exact fun i=>Nat.le_trans (hb i) dd) (hb2:=by exact Po.bd_one (by show yc kq≤_;rw [hkq,←hn1];exact Nat.le_trans hiq dd)) (hs:=by rw [Po.vals_some];intro k lo n h;exact Nat.le_trans (Po.cv_one_hq (Po.bd_cl hb) (by show yc kq≤_;rw [hkq,←hn1];exact hiq) k lo n h) dd)) (.c (j:=0) rfl (.c (j:=1) rfl .n)) ?_
   rintro ⟨p96,c97⟩ -
   dsimp only [aq,nq,cq]
   refine e_p (zb rfl)<|zf<|zd<|zE ?_
   have e8:(Po.mul (Po.vals (l1.map some)) (Po.vals [(some kq)]):List Rat)=Po.mo l1:=by unfold Po.mo;rw [if_neg om,Po.vals_some,hkq,←hn1];rfl
   rw [e8]
   exact zw Tryz.results131 (p96,c97) trivial (zo rfl) rfl (ho:=(.n:PickO _ _ _)) ((.c (j:=0) rfl .n):SelR _ _ _)
  refine zCa (X:=Wd×Wd×Wd×Wd×Nat) (k':=2) (L':=(lb 14 4095)) (fun (u0_1,u0_2,u7_1,u7_2,u11_1)=>([(3,.pointer (some ⟨u11_1,0,none⟩)),(18,.int .i64 0),(17,.agg (cw [u7_1,u7_2]).toArray),(2,.slice none 0 0),(0,.slice p1 n1 c1)],[boxA u11_1 28 (cw [wz,wz])],[],[qF true u7_1 u7_2 (((1:Int):Rat) / (l1.getD (n1 - 1) (0:Rat))),qF true u0_1 u0_2 ((1:Int):Rat),qF true w4 w5 (l1.getD (n1 - 1) (0:Rat)),slF rQ p1 c1 l1])) ?_ (fun hD1=> ?_)
  ·
   rintro ⟨u0_1,u0_2,u7_1,u7_2,u11_1⟩
   dsimp only [cw]
   refine zEb 12 kr ?_
   ·
    refine zA kr rfl rfl rfl rfl rfl sz28 rfl (.t4 .nil)<|e_pv 13 rfl rfl (zb rfl) ?_
    exact zla (hD0 (u0_1,u0_2,u7_1,u7_2,u11_1)) kr ((.of rfl):SubM _ _) .rfl .rfl ((.of [0,1,2,3] rfl):SelR _ _ _)
  refine zCa (X:=Wd×Wd×Wd×Wd) (k':=3) (L':=(lb 14 2047)) (fun (u0_1,u0_2,u7_1,u7_2)=>([(18,.int .i64 0),(17,.agg (cw [u7_1,u7_2]).toArray),(2,.slice none 0 0),(0,.slice p1 n1 c1)],[],[],[qF true u7_1 u7_2 (((1:Int):Rat) / (l1.getD (n1 - 1) (0:Rat))),qF true u0_1 u0_2 ((1:Int):Rat),qF true w4 w5 (l1.getD (n1 - 1) (0:Rat)),slF rQ p1 c1 l1])) ?_ (fun hD2=> ?_)
  ·
   rintro ⟨u0_1,u0_2,u7_1,u7_2⟩
   dsimp only [cw]
   refine zEb 11 kr ?_
   ·
    refine zUa rfl rfl rfl rfl (zq zr28 rfl) (fun u11_1 _=> ?_)
    exact zla (hD1 (u0_1,u0_2,u7_1,u7_2,u11_1)) kr ((.of rfl):SubM _ _) .rfl .rfl ((.of [0,1,2,3] rfl):SelR _ _ _)
  refine zCa (X:=Wd×Wd×Nat) (k':=6) (L':=(lb 14 2175)) (fun (u0_1,u0_2,u11_1)=>([(3,.pointer (some ⟨u11_1,0,none⟩)),(9,.agg (cw [u0_1,u0_2]).toArray),(15,.agg (cw [w4,w5]).toArray),(2,.slice none 0 0),(0,.slice p1 n1 c1)],[boxA u11_1 28 (cw [wz,wz])],[],[qF true u0_1 u0_2 ((1:Int):Rat),qF true w4 w5 (l1.getD (n1 - 1) (0:Rat)),slF rQ p1 c1 l1])) ?_ (fun hD3=> ?_)
  ·
   rintro ⟨u0_1,u0_2,u11_1⟩
   dsimp only [cw]
   refine zEb 7 kr ?_
   ·
    refine zu rfl rfl rfl rfl (.c rfl (.c rfl .n)) ce60 (zOa (k1:=true) (u1:=u0_1) (v1:=u0_2) (q1:=((1:Int):Rat)) (k2:=true) (u2:=w4) (v2:=w5) (q2:=(l1.getD (n1 - 1) (0:Rat))) (hl:=by have h9:=hb (n1 - 1);omega) (hy:=by rw [← hn1];exact hl0)) (.c (j:=0) rfl (.c (j:=1) rfl .n)) ?_
    rintro ⟨u7_1,u7_2⟩ -
    dsimp only [aq,nq,cq]
    refine e_dm 8 rfl rfl rfl<|e_pv 9 rfl rfl (zm rfl rfl)<|e_pv 10 rfl rfl (zm rfl rfl) ?_
    exact zla (hD1 (u0_1,u0_2,u7_1,u7_2,u11_1)) kr ((.of rfl):SubM _ _) .rfl .rfl ((.of [0,1,2,3] rfl):SelR _ _ _)
  refine zCa (X:=Wd×Wd) (k':=7) (L':=(lb 14 127)) (fun (u0_1,u0_2)=>([(9,.agg (cw [u0_1,u0_2]).toArray),(15,.agg (cw [w4,w5]).toArray),(2,.slice none 0 0),(0,.slice p1 n1 c1)],[],[],[qF true u0_1 u0_2 ((1:Int):Rat),qF true w4 w5 (l1.getD (n1 - 1) (0:Rat)),slF rQ p1 c1 l1])) ?_ (fun hD4=> ?_)
  ·
   rintro ⟨u0_1,u0_2⟩
   dsimp only [cw]
   refine zrd 7 11 kr ?_ ?_
   ·
    refine zu rfl rfl rfl rfl (.c rfl (.c rfl .n)) ce60 (zOa (k1:=true) (u1:=u0_1) (v1:=u0_2) (q1:=((1:Int):Rat)) (k2:=true) (u2:=w4) (v2:=w5) (q2:=(l1.getD (n1 - 1) (0:Rat))) (hl:=by have h9:=hb (n1 - 1);omega) (hy:=by rw [← hn1];exact hl0)) (.c (j:=0) rfl (.c (j:=1) rfl .n)) ?_
    rintro ⟨u7_1,u7_2⟩ -
    dsimp only [aq,nq,cq]
    refine e_dm 8 rfl rfl rfl<|e_pv 9 rfl rfl (zm rfl rfl)<|e_pv 10 rfl rfl (zm rfl rfl) ?_
    exact zla (hD2 (u0_1,u0_2,u7_1,u7_2)) kr ((.of rfl):SubM _ _) .rfl .rfl ((.of [0,1,2,3] rfl):SelR _ _ _)
   ·
    refine zUa rfl rfl rfl rfl (zq zr28 rfl) (fun u11_1 _=> ?_)
    exact zla (hD3 (u0_1,u0_2,u11_1)) kr ((.of rfl):SubM _ _) .rfl .rfl ((.of [0,1,2] rfl):SelR _ _ _)
  refine zCa (X:=Nat) (k':=7) (L':=(lb 14 2174)) (fun u11_1=>([(3,.pointer (some ⟨u11_1,0,none⟩)),(15,.agg (cw [w4,w5]).toArray),(2,.slice none 0 0),(0,.slice p1 n1 c1)],[boxA u11_1 28 (cw [wz,wz])],[],[qF true w4 w5 (l1.getD (n1 - 1) (0:Rat)),slF rQ p1 c1 l1])) ?_ (fun hD5=> ?_)
  ·
   rintro u11_1
   dsimp only [cw]
   refine zEb 0 kr ?_
   ·
    refine zu rfl rfl rfl rfl (.c rfl .n) ce59 (zmb (z:=1) (hz:=by first|omega|rfl|assumption|decide)) (.n) ?_
    rintro ⟨u0_1,u0_2⟩ -
    dsimp only [aq,nq,cq]
    exact zla (hD3 (u0_1,u0_2,u11_1)) kr ((.of rfl):SubM _ _) .rfl .rfl ((.of [0,1,2] rfl):SelR _ _ _)
  refine zrd 0 11 kr ?_ ?_
  ·
   refine zu rfl rfl rfl rfl (.c rfl .n) ce59 (zmb (z:=1) (hz:=by first|omega|rfl|assumption|decide)) (.n) ?_
   rintro ⟨u0_1,u0_2⟩ -
   dsimp only [aq,nq,cq]
   exact zla (hD4 (u0_1,u0_2)) kr ((.of rfl):SubM _ _) .rfl .rfl ((.of [0,1,2] rfl):SelR _ _ _)
  ·
   refine zUa rfl rfl rfl rfl (zq zr28 rfl) (fun u11_1 _=> ?_)
   exact zla (hD5 u11_1) kr ((.of rfl):SubM _ _) .rfl .rfl ((.of [0,1] rfl):SelR _ _ _)
theorem zYf {p1:Option Addr} {n1:Nat} {c1:Nat} {l1:List (Option Rat)} {p2:Option Addr} {n2:Nat} {c2:Nat} {l2:List (Option Rat)} (hn1:l1.length=n1) (hm1:n1≤190) (hn2:l2.length=n2) (hm2:n2≤190) (hok:Po.gcok (Po.vals l1) (Po.vals l2)):Con yd 130 [.slice p1 n1 c1,.slice p2 n2 c2] [] [slF rE p1 c1 l1,slF rE p2 c2 l2] (Y:=(Option Addr)×Nat) (fun y=>True) (fun y=> .slice (y.1) ((Po.gcd (Po.vals l1) (Po.vals l2)).length) (y.2)) (fun y=>[]) (fun y=>[slF rQ (y.1) (y.2) (Po.gcd (Po.vals l1) (Po.vals l2))]):=by
 refine zl Tryz.func130 rfl rfl rfl (fun c=> ?_)
 show RunC _ _ _ _ _ [(0,.slice p1 n1 c1),(1,.slice p2 n2 c2)] [] [slF rE p1 c1 l1,slF rE p2 c2 l2]
 refine zP 0 rfl (fun hL0=> ?_)
 refine zP 1 rfl (fun hL1=> ?_)
 have hPl:(Po.cl (Po.vals l1)).length≤n1:=by rw [← hn1,←Po.vals_len l1];exact Po.cl_le_len _
 have hQl:(Po.cl (Po.vals l2)).length≤n2:=by rw [← hn2,←Po.vals_len l2];exact Po.cl_le_len _
 have hPm:=Po.mo_len (Po.cl (Po.vals l1))
 have hQm:=Po.mo_len (Po.cl (Po.vals l2))
 refine ze<|za<|e_p (zb rfl)<|zf<|zd<|ze<|za<|e_mv rfl<|zk rfl rfl (.c rfl .n) ce31 (zFa (p1:=p1) (n1:=n1) (c1:=c1) (l1:=l1) (hn1:=ass) (hm1:=by first|omega|rfl|assumption|exact Po.cl_cl _)) (.c (j:=0) rfl .n) ?_
 rintro ⟨p91,c92⟩ -
 dsimp only [aq,nq,cq]
 refine zk rfl rfl (.c rfl .n) ce131 (zUb (p1:=p91) (n1:=(Po.cl (Po.vals l1)).length) (c1:=c92) (l1:=(Po.cl (Po.vals l1))) (hn1:=by first|omega|rfl|assumption|exact Po.cl_cl _) (hm1:=by first|omega|rfl|assumption|exact Po.cl_cl _) (hcl:=by first|omega|rfl|assumption|exact Po.cl_cl _) (hb:=by exact Po.bd_cl hok.1)) (.c (j:=0) rfl .n) ?_
 rintro ⟨p93,c94⟩ -
 dsimp only [aq,nq,cq]
 refine e_mv rfl<|zk rfl rfl (.c rfl .n) ce31 (zFa (p1:=p2) (n1:=n2) (c1:=c2) (l1:=l2) (hn1:=ass) (hm1:=by first|omega|rfl|assumption|exact Po.cl_cl _)) (.c (j:=3) rfl .n) ?_
 rintro ⟨p95,c96⟩ -
 dsimp only [aq,nq,cq]
 refine zk rfl rfl (.c rfl .n) ce131 (zUb (p1:=p95) (n1:=(Po.cl (Po.vals l2)).length) (c1:=c96) (l1:=(Po.cl (Po.vals l2))) (hn1:=by first|omega|rfl|assumption|exact Po.cl_cl _) (hm1:=by first|omega|rfl|assumption|exact Po.cl_cl _) (hcl:=by first|omega|rfl|assumption|exact Po.cl_cl _) (hb:=by exact Po.bd_cl hok.2.1)) (.c (j:=0) rfl .n) ?_
 rintro ⟨p97,c98⟩ -
 dsimp only [aq,nq,cq]
 refine e_p (zb rfl)<|e_p (zb rfl)<|zf<|zd<|ze<|zv<|zfa (X:=Nat×(List Rat)×(List Rat)×(Option Addr)×Nat×(Option Addr)×Nat) (fun x:Nat×(List Rat)×(List Rat)×(Option Addr)×Nat×(Option Addr)×Nat=>(x.2.1.length≤190∧x.2.2.1.length≤x.1∧x.1≤190)∧(Po.cl x.2.1=x.2.1∧Po.cl x.2.2.1=x.2.2.1)∧Po.gok x.1 x.2.1 x.2.2.1∧Po.ge x.1 x.2.1 x.2.2.1=(Po.gcd (Po.vals l1) (Po.vals l2))) (fun x=>[(1,.slice (x.2.2.2.2.2.1) (x.2.2.1.length) (x.2.2.2.2.2.2)),(0,.slice (x.2.2.2.1) (x.2.1.length) (x.2.2.2.2.1)),(4,.slice none 0 0)]) (fun x=>[]) (fun x=>[slF rQ (x.2.2.2.1) (x.2.2.2.2.1) (x.2.1),slF rQ (x.2.2.2.2.2.1) (x.2.2.2.2.2.2) (x.2.2.1),slF rQ p97 c98 (Po.mo (Po.cl (Po.vals l2))),slF rQ p95 c96 (Po.cl (Po.vals l2)),slF rQ p93 c94 (Po.mo (Po.cl (Po.vals l1))),slF rQ p91 c92 (Po.cl (Po.vals l1)),slF rE p1 c1 l1,slF rE p2 c2 l2]) (fun x:Nat×(List Rat)×(List Rat)×(Option Addr)×Nat×(Option Addr)×Nat=>x.2.2.1.length) (((Po.cl (Po.vals l2)).length),(Po.mo (Po.cl (Po.vals l1))),(Po.mo (Po.cl (Po.vals l2))),p93,c94,p97,c98) (show ((Po.mo (Po.cl (Po.vals l1))).length≤190∧(Po.mo (Po.cl (Po.vals l2))).length≤((Po.cl (Po.vals l2)).length)∧((Po.cl (Po.vals l2)).length)≤190)∧(Po.cl (Po.mo (Po.cl (Po.vals l1)))=(Po.mo (Po.cl (Po.vals l1)))∧Po.cl (Po.mo (Po.cl (Po.vals l2)))=(Po.mo (Po.cl (Po.vals l2))))∧Po.gok ((Po.cl (Po.vals l2)).length) (Po.mo (Po.cl (Po.vals l1))) (Po.mo (Po.cl (Po.vals l2)))∧Po.ge ((Po.cl (Po.vals l2)).length) (Po.mo (Po.cl (Po.vals l1))) (Po.mo (Po.cl (Po.vals l2)))=(Po.gcd (Po.vals l1) (Po.vals l2)) from by exact ⟨⟨by omega,by omega,by omega⟩,⟨Po.mo_cl _,Po.mo_cl _⟩,hok.2.2,rfl⟩) ((.of rfl):SubM _ _) (ho:=(.n:PickO _ _ _)) ((.of [2,0,0,1,2,3,4,5] rfl):SelR _ _ _) ?_
 rintro ⟨f,p,q,pp,cp,pq,ck⟩ hI
 replace hI:(p.length≤190∧q.length≤f∧f≤190)∧(Po.cl p=p∧Po.cl q=q)∧Po.gok f p q∧Po.ge f p q=(Po.gcd (Po.vals l1) (Po.vals l2)):=hI
 try dsimp only
 obtain ⟨⟨hpl,hqf,hf⟩,⟨hcp,hcq⟩,hgk,hge⟩:=hI
 refine ze<|ze<|za<|e_mv rfl<|e_p (zD ya rfl)<|e_p (zwa rfl rfl)<|zf<|zd<|zC rfl (fun h16=> ?_) (fun h16=> ?_)
 ·
  have hg:=Po.gok_yes hgk (show q.length≠0 by omega) om
  have hrl:=(Po.dqr_len p q).2
  refine zB<|zd<|zv<|ze<|za<|e_mv rfl<|e_mv rfl<|zha (addQE 0 rfl)<|zha (addQE 2 rfl)<|zk rfl rfl (.c rfl (.c rfl .n)) ce26 (zBb (p1:=pp) (n1:=p.length) (c1:=cp) (l1:=(p.map some)) (p2:=pq) (n2:=q.length) (c2:=ck) (l2:=(q.map some)) (hn1:=by exact List.length_map _) (hm1:=by first|omega|rfl|assumption|exact Po.cl_cl _) (hn2:=by exact List.length_map _) (hm2:=by first|omega|rfl|assumption|exact Po.cl_cl _) (hm12:=by first|omega|rfl|assumption|exact Po.cl_cl _) (hb2:=by rw [Po.vals_some];exact hg.1.1) (hok:=by rw [Po.vals_some,Po.vals_some];exact hg.1.2)) (.c (j:=1) rfl (.c (j:=0) rfl .n)) ?_
  rintro ⟨p89,c810,p911,c912⟩ -
  dsimp only [aq,nq,cq]
  refine e_mv rfl<|e_p (zm rfl rfl)<|e_p (zm rfl rfl)<|e_p (zm rfl rfl)<|e_p (zb rfl)<|e_p (zb rfl)<|e_p (zb rfl)<|zf<|zd ?_
  have e13:(Po.dr (Po.vals (p.map some)) (Po.vals (q.map some)):List Rat)=Po.dr p q:=by rw [Po.vals_some,Po.vals_some]
  rw [e13]
  refine za<|e_mv rfl<|e_mv rfl<|zk rfl rfl (.c rfl .n) ce131 (zUb (p1:=p911) (n1:=(Po.dr p q).length) (c1:=c912) (l1:=(Po.dr p q)) (hn1:=by first|omega|rfl|assumption|exact Po.cl_cl _) (hm1:=by first|omega|rfl|assumption|exact Po.cl_cl _) (hcl:=by exact Po.dr_cl _ _) (hb:=by exact hg.2.1)) (.c (j:=1) rfl .n) ?_
  rintro ⟨p914,c915⟩ -
  dsimp only [aq,nq,cq]
  refine e_p (zb rfl)<|e_p (zb rfl)<|zf<|zL<|zT ((f - 1),q,(Po.mo (Po.dr p q)),pq,ck,p914,c915) (show (q.length≤190∧(Po.mo (Po.dr p q)).length≤(f - 1)∧(f - 1)≤190)∧(Po.cl q=q∧Po.cl (Po.mo (Po.dr p q))=(Po.mo (Po.dr p q)))∧Po.gok (f - 1) q (Po.mo (Po.dr p q))∧Po.ge (f - 1) q (Po.mo (Po.dr p q))=(Po.gcd (Po.vals l1) (Po.vals l2)) from by have h9:=Po.mdr_len (p:=p) hcq (show q.length≠0 by omega) hqf;exact ⟨⟨by omega,h9,by omega⟩,⟨hcq,Po.mo_cl _⟩,hg.2.2,(Po.ge_yes om hqf).symm.trans hge⟩) (by have h9:=Po.mo_len (Po.dr p q);have h8:=Po.dr_less (p:=p) hcq (show q.length≠0 by omega);(show (Po.mo (Po.dr p q)).length<q.length;omega)) ((.of rfl):SubM _ _) (ho:=(.n:PickO _ _ _)) ((.of [6,0,7,8,9,10,11,12] rfl):SelR _ _ _)
 ·
  refine zca<|zh<|zh<|zt<|zd<|ze<|za<|e_mv rfl<|e_p (zb rfl)<|zf<|zd<|zE ?_
  have hv9:p=(Po.gcd (Po.vals l1) (Po.vals l2)):=(Po.ge_nil om).symm.trans hge
  exact zw Tryz.results130 (pp,cp) trivial (zo rfl) (by rw [← hv9]) (ho:=(.n:PickO _ _ _)) ((.e (j:=0) rfl (by rw [← hv9]) .n):SelR _ _ _)
theorem zZf {p1:Option Addr} {n1:Nat} {c1:Nat} {l1:List (Option Rat)} (hn1:l1.length=n1) (hm1:n1≤190) (hok:Po.sqok (Po.vals l1)):Con yd 102 [.slice p1 n1 c1] [] [slF rE p1 c1 l1] (Y:=(Option Addr)×Nat) (fun y=>True) (fun y=> .slice (y.1) ((Po.sqf (Po.vals l1)).length) (y.2)) (fun y=>[]) (fun y=>[slF rQ (y.1) (y.2) (Po.sqf (Po.vals l1))]):=by
 refine zl Tryz.func102 rfl rfl rfl (fun c=> ?_)
 show RunC _ _ _ _ _ [(0,.slice p1 n1 c1)] [] [slF rE p1 c1 l1]
 refine zP 0 rfl (fun hL0=> ?_)
 refine ze<|za<|e_p (zb rfl)<|zf<|zd<|ze<|za<|e_mv rfl<|zk rfl rfl (.c rfl .n) ce31 (zFa (p1:=p1) (n1:=n1) (c1:=c1) (l1:=l1) (hn1:=ass) (hm1:=by first|omega|rfl|assumption|exact Po.cl_cl _)) (.c (j:=0) rfl .n) ?_
 rintro ⟨p91,c92⟩ -
 dsimp only [aq,nq,cq]
 refine e_p (zb rfl)<|zf<|zd<|ze<|ze ?_
 obtain ⟨P,hP⟩:∃z,z=(Po.cl (Po.vals l1)):=⟨_,rfl⟩
 have e3:(Po.cl (Po.vals l1):List Rat)=P:=by exact hP.symm
 rw [e3]
 have hPl:P.length≤n1:=by rw [hP,←hn1,←Po.vals_len l1];exact Po.cl_le_len _
 have hPd:=Po.der_len P
 refine za<|e_mv rfl<|e_p (zD ya rfl)<|e_p (zna rfl rfl)<|zf<|zd<|zC rfl (fun h10=> ?_) (fun h10=> ?_)
 ·
  refine ze<|za<|e_p (zb rfl)<|zf<|zd<|zE<|zp<|zFb rQ ?_
  have hv9:(Po.sqf (Po.vals l1))=[]:=if_pos (by rw [← hP];omega)
  exact zw Tryz.results102 (none,0) trivial (zo rfl) (by rw [hv9];rfl) (ho:=(.n:PickO _ _ _)) ((.e (j:=0) rfl (by rw [hv9]) .n):SelR _ _ _)
 ·
  obtain ⟨hk1,hk2,hk3⟩:=hok.2.2 (by rw [← hP];omega)
  rw [← hP] at hk1 hk2 hk3
  have hgl:=Po.gcd_len P (Po.der P)
  have hdl:=(Po.dqr_len P (Po.gcd P (Po.der P))).1
  refine zB<|zd<|ze<|za<|e_mv rfl<|e_mv rfl<|e_mv rfl<|zha (addQE 0 rfl)<|zk rfl rfl (.c rfl .n) ce25 (zTc (p1:=p91) (n1:=(P).length) (c1:=c92) (l1:=((P).map some)) (hn1:=by exact List.length_map _) (hm1:=by first|omega|rfl|assumption|exact Po.cl_cl _) (hb1:=by intro i;rw [Po.msome,hP,Po.cl_get];exact Nat.le_trans (hok.1 i) dd)) (.c (j:=0) rfl .n) ?_
  rintro ⟨p94,c95⟩ -
  dsimp only [aq,nq,cq]
  have e6:(Po.der (Po.vals ((P).map some)):List Rat)=Po.der P:=by rw [Po.vals_some]
  rw [e6]
  refine zha (addQE 0 rfl)<|zk rfl rfl (.c rfl (.c rfl .n)) ce130 (zYf (p1:=p91) (n1:=(P).length) (c1:=c92) (l1:=((P).map some)) (p2:=p94) (n2:=(Po.der P).length) (c2:=c95) (l2:=((Po.der P).map some)) (hn1:=by exact List.length_map _) (hm1:=by first|omega|rfl|assumption|exact Po.cl_cl _) (hn2:=by exact List.length_map _) (hm2:=by first|omega|rfl|assumption|exact Po.cl_cl _) (hok:=by rw [Po.vals_some,Po.vals_some];exact hk1)) (.c (j:=2) rfl (.c (j:=0) rfl .n)) ?_
  rintro ⟨p97,c98⟩ -
  dsimp only [aq,nq,cq]
  have e9:(Po.gcd (Po.vals ((P).map some)) (Po.vals ((Po.der P).map some)):List Rat)=Po.gcd P (Po.der P):=by rw [Po.vals_some,Po.vals_some]
  rw [e9]
  refine zha (addQE 0 rfl)<|zk rfl rfl (.c rfl (.c rfl .n)) ce26 (zBb (p1:=p91) (n1:=(P).length) (c1:=c92) (l1:=((P).map some)) (p2:=p97) (n2:=(Po.gcd P (Po.der P)).length) (c2:=c98) (l2:=((Po.gcd P (Po.der P)).map some)) (hn1:=by exact List.length_map _) (hm1:=by first|omega|rfl|assumption|exact Po.cl_cl _) (hn2:=by exact List.length_map _) (hm2:=by first|omega|rfl|assumption|exact Po.cl_cl _) (hm12:=by first|omega|rfl|assumption|exact Po.cl_cl _) (hb2:=by rw [Po.vals_some];exact hk2.1) (hok:=by rw [Po.vals_some,Po.vals_some];exact hk2.2)) (.c (j:=4) rfl (.c (j:=0) rfl .n)) ?_
  rintro ⟨p810,c811,p912,c913⟩ -
  dsimp only [aq,nq,cq]
  refine e_mv rfl<|e_p (zm rfl rfl)<|e_p (zm rfl rfl)<|e_p (zm rfl rfl)<|e_p (zb rfl)<|e_p (zb rfl)<|e_p (zb rfl)<|zf<|zd<|ze ?_
  have e14:(Po.dq (Po.vals ((P).map some)) (Po.vals ((Po.gcd P (Po.der P)).map some)):List Rat)=Po.dq P (Po.gcd P (Po.der P)):=by rw [Po.vals_some,Po.vals_some]
  rw [e14]
  refine za<|e_mv rfl<|zk rfl rfl (.c rfl .n) ce131 (zUb (p1:=p810) (n1:=(Po.dq P (Po.gcd P (Po.der P))).length) (c1:=c811) (l1:=(Po.dq P (Po.gcd P (Po.der P)))) (hn1:=by first|omega|rfl|assumption|exact Po.cl_cl _) (hm1:=by first|omega|rfl|assumption|exact Po.cl_cl _) (hcl:=by exact Po.dq_cl _ _) (hb:=by exact hk3)) (.c (j:=0) rfl .n) ?_
  rintro ⟨p915,c916⟩ -
  dsimp only [aq,nq,cq]
  refine e_p (zb rfl)<|zf<|zd<|zE ?_
  have hv9:(Po.sqf (Po.vals l1))=Po.mo (Po.dq P (Po.gcd P (Po.der P))):=by unfold Po.sqf;rw [← hP,if_neg om]
  exact zw Tryz.results102 (p915,c916) trivial (zo rfl) (by rw [hv9]) (ho:=(.n:PickO _ _ _)) ((.e (j:=0) rfl (by rw [hv9]) .n):SelR _ _ _)
end Go.Proofs.YtbiaimgafknkmaaGreat.Sp
namespace Go.Proofs.YtbiaimgafknkmaaGreat.Sp
open Go
set_option linter.unusedVariables false
set_option maxRecDepth 100000
set_option maxHeartbeats 8000000
theorem zDe {pL:Option Addr} {nL:Nat} {cL:Nat} {L:List (List Rat)} {u1:Wd} {v1:Wd} {x1:Rat} (hnL:L.length=nL) (hmL:nL≤400) (hx:yc x1≤100000000000) (hv:Po.vok L x1):Con yd 103 [.slice pL nL cL,.agg #[u1.b,u1.l,v1.b,v1.l]] [] [slF (rS rQ) pL cL L,qF true u1 v1 x1] (Y:=Unit) (fun y=>True) (fun y=> .int .i64 (Po.vr L x1)) (fun y=>[]) (fun y=>[]):=by
 refine zl Tryz.func103 rfl rfl rfl (fun c=> ?_)
 show RunC _ _ _ _ _ [(0,.slice pL nL cL),(1,.agg #[u1.b,u1.l,v1.b,v1.l])] [] [slF (rS rQ) pL cL L,qF true u1 v1 x1]
 refine zP 0 rfl (fun hL0=> ?_)
 refine ze<|za<|zH rfl rfl (zN rfl rfl) (fun b1=> ?_)
 refine e_p (zb rfl)<|zf<|zd<|ze<|za<|e_p (zb rfl)<|e_p (zb rfl)<|zf<|zd<|ze<|ze<|za<|e_mv rfl<|e_p (zD ye rfl)<|e_mv rfl<|zf<|zd<|zv<|zfa (X:=Nat×Int×Int) (fun x:Nat×Int×Int=>(x.1≤nL∧0≤x.2.1∧x.2.1≤x.1∧ -1≤x.2.2∧x.2.2≤1)∧Po.va x1 (L.drop x.1) x.2.1 x.2.2=Po.vr L x1) (fun x=>[(6,.int .i64 (x.2.2)),(5,.int .i64 (x.2.1)),(12,.int .i64 ((x.1:Nat):Int)),(11,.int .i64 ((nL:Nat):Int)),(10,.slice pL nL cL),(4,.int .i64 0),(3,.pointer (some ⟨b1,0,none⟩))]) (fun x=>[boxA b1 28 (cw [u1,v1])]) (fun x=>[slF (rS rQ) pL cL L,qF true u1 v1 x1]) (fun x:Nat×Int×Int=>nL - x.1) (0,0,0) (show (0≤nL∧0≤0∧0≤0∧ -1≤0∧0≤1)∧Po.va x1 (L.drop 0) 0 0=Po.vr L x1 from by exact ⟨by omega,rfl⟩) ((.c rfl (.c rfl (.e rfl (by first|rfl|(congr 1;omega)|simp_all) (.of rfl)))):SubM _ _) (ho:=((.c (i:=0) rfl .n):PickO _ _ _)) ((.of [0,1] rfl):SelR _ _ _) ?_
 rintro ⟨i,n,s⟩ hI
 replace hI:(i≤nL∧0≤n∧n≤i∧ -1≤s∧s≤1)∧Po.va x1 (L.drop i) n s=Po.vr L x1:=hI
 try dsimp only [cw]
 obtain ⟨⟨hi,hn0,hni,hs1,hs2⟩,hvr⟩:=hI
 have hss: -1≤s∧s≤1:=⟨hs1,hs2⟩
 refine ze<|za<|e_p (zY rfl rfl)<|zf<|zd<|ze<|zC rfl (fun h13=> ?_) (fun h13=> ?_)
 ·
  have hiL:i<nL:=by omega
  have hw:=hv (L.getD i []) (by rw [List.getD_eq_getElem?_getD,List.getElem?_eq_getElem om];exact List.getElem_mem _)
  have hva:=Po.va_step x1 (show i<L.length by omega) n s
  refine zB<|zd<|ze<|zv<|ze<|za<|r_vl rfl rfl (zja (x0:=(L.getD i [])) 0 i rfl ye sz23 rfl (by first|rfl|assumption|(simp;done)|omega) rfl rfl (gD (d:=[]) om)) ?_
  rintro ⟨b2,o3,p4,c5⟩ -
  dsimp only [aq,nq,cq]
  refine e_ru (zr (j:=0) 0 ty23 rfl rfl rfl rfl)<|e_p (zb rfl)<|zf<|zd<|ze<|za<|e_mv rfl<|e_ru (zc 0 ty28 rfl rfl (.t4 .nil))<|zha (addQe 3 rfl)<|zha (addQE 2 rfl)<|zk rfl rfl (.c rfl (.c rfl .n)) ce21 (zRd (p1:=p4) (n1:=(L.getD i []).length) (c1:=c5) (l1:=((L.getD i []).map some)) (u1:=u1) (v1:=v1) (x1:=(some x1)) (hn1:=by exact List.length_map _) (hm1:=by exact Nat.le_trans hw.1 dd) (hx:=by exact Nat.le_trans hx dd) (hb1:=by intro j;rw [Po.msome];exact Nat.le_trans (hw.2.1 j) dd) (hs:=by intro j;rw [Po.vals_some];exact hw.2.2 j)) (.c (j:=0) rfl (.c (j:=1) rfl .n)) ?_
  rintro ⟨w36,w47⟩ -
  dsimp only [aq,nq,cq]
  have e8:(Po.ev ((some x1).getD 0) (Po.vals ((L.getD i []).map some)):Rat)=Po.ev x1 (L.getD i []):=by rw [Po.vals_some];rfl
  rw [e8]
  refine zM rfl rfl (.c rfl .n) ce65 (zPc (k1:=true) (u1:=w36) (v1:=w47) (q1:=(Po.ev x1 (L.getD i [])))) (.c (j:=0) rfl .n)<|e_p (zb rfl)<|zf<|zd<|ze<|ze<|za<|e_mv rfl<|e_p (zna rfl rfl)<|zf<|zd<|zC rfl (fun h21=> ?_) (fun h21=> ?_)
  ·
   rw [if_pos h21] at hva
   refine zca<|zh<|zt<|zd<|za<|e_p (zJ (z:=(((i+1):Nat):Int)) rfl rfl (w64 om))<|e_mv rfl<|zf<|zT ((i+1),n,s) (show ((i+1)≤nL∧0≤n∧n≤(i+1)∧ -1≤s∧s≤1)∧Po.va x1 (L.drop (i+1)) n s=Po.vr L x1 from by exact ⟨by omega,hva.symm.trans hvr⟩) (by show nL - (i+1)<nL - i;omega) ((.of rfl):SubM _ _) (ho:=((.c (i:=0) rfl .n):PickO _ _ _)) ((.of [5,6] rfl):SelR _ _ _)
  ·
   rw [if_neg h21] at hva
   refine zB<|zd<|ze<|ze<|za<|e_mv rfl<|e_mv rfl<|e_p (znb (z:=(s*yf (Po.ev x1 (L.getD i [])))) rfl rfl (w64 (by exact ⟨rfl,Po.sg_mul hss (ym _)⟩)))<|e_p (zY rfl rfl)<|zf<|zd<|zC rfl (fun h25=> ?_) (fun h25=> ?_)
   ·
    rw [if_pos h25] at hva
    refine za<|e_mv rfl<|e_p (zJ (z:=(n+1)) rfl rfl (w64 om))<|e_p (zb rfl)<|zf<|zd<|za<|e_mv rfl<|e_p (zb rfl)<|zf<|zL<|zd<|za<|e_p (zJ (z:=(((i+1):Nat):Int)) rfl rfl (w64 om))<|e_mv rfl<|zf<|zT ((i+1),(n+1),yf (Po.ev x1 (L.getD i []))) (show ((i+1)≤nL∧0≤(n+1)∧(n+1)≤(i+1)∧ -1≤(yf (Po.ev x1 (L.getD i [])))∧(yf (Po.ev x1 (L.getD i [])))≤1)∧Po.va x1 (L.drop (i+1)) (n+1) (yf (Po.ev x1 (L.getD i [])))=Po.vr L x1 from by have h9:=ym (Po.ev x1 (L.getD i []));exact ⟨by omega,hva.symm.trans hvr⟩) (by show nL - (i+1)<nL - i;omega) ((.of rfl):SubM _ _) (ho:=((.c (i:=0) rfl .n):PickO _ _ _)) ((.of [5,6] rfl):SelR _ _ _)
   ·
    rw [if_neg h25] at hva
    refine zB<|zd<|za<|e_mv rfl<|e_p (zb rfl)<|zf<|zL<|zd<|za<|e_p (zJ (z:=(((i+1):Nat):Int)) rfl rfl (w64 om))<|e_mv rfl<|zf<|zT ((i+1),n,yf (Po.ev x1 (L.getD i []))) (show ((i+1)≤nL∧0≤n∧n≤(i+1)∧ -1≤(yf (Po.ev x1 (L.getD i [])))∧(yf (Po.ev x1 (L.getD i [])))≤1)∧Po.va x1 (L.drop (i+1)) n (yf (Po.ev x1 (L.getD i [])))=Po.vr L x1 from by have h9:=ym (Po.ev x1 (L.getD i []));exact ⟨by omega,hva.symm.trans hvr⟩) (by show nL - (i+1)<nL - i;omega) ((.of rfl):SubM _ _) (ho:=((.c (i:=0) rfl .n):PickO _ _ _)) ((.of [5,6] rfl):SelR _ _ _)
 ·
  refine zca<|zh<|zh<|zt<|zd<|ze<|za<|e_mv rfl<|e_p (zb rfl)<|zf<|zd<|zE ?_
  have hv9:n=Po.vr L x1:=by rw [← hvr,List.drop_eq_nil_of_le om];rfl
  exact zw Tryz.results103 () trivial (zo rfl) (by rw [hv9]) (ho:=(.n:PickO _ _ _)) (.n:SelR _ _ _)
theorem zpc {pL:Option Addr} {nL:Nat} {cL:Nat} {L:List (List Rat)} {u1:Wd} {v1:Wd} {x1:Rat} {u2:Wd} {v2:Wd} {x2:Rat} (hnL:L.length=nL) (hmL:nL≤400) (hx1:yc x1≤100000000000) (hx2:yc x2≤100000000000) (hv1:Po.vok L x1) (hv2:Po.vok L x2):Con yd 70 [.slice pL nL cL,.agg #[u1.b,u1.l,v1.b,v1.l],.agg #[u2.b,u2.l,v2.b,v2.l]] [] [slF (rS rQ) pL cL L,qF true u1 v1 x1,qF true u2 v2 x2] (Y:=Unit) (fun y=>True) (fun y=> .int .i64 (Po.bt L x1 x2)) (fun y=>[]) (fun y=>[]):=by
 refine zl Tryz.func70 rfl rfl rfl (fun c=> ?_)
 show RunC _ _ _ _ _ [(0,.slice pL nL cL),(1,.agg #[u1.b,u1.l,v1.b,v1.l]),(2,.agg #[u2.b,u2.l,v2.b,v2.l])] [] [slF (rS rQ) pL cL L,qF true u1 v1 x1,qF true u2 v2 x2]
 refine zP 0 rfl (fun hL0=> ?_)
 have g1:=Po.vr_rng L x1
 have g2:=Po.vr_rng L x2
 refine ze<|za<|zH rfl rfl (zN rfl rfl) (fun b1=> ?_)
 refine zH rfl rfl (zN rfl rfl) (fun b2=> ?_)
 refine e_p (zb rfl)<|zf<|zd<|ze<|zW (OW:=[]) (O:=[boxA b2 28 (cw [u2,v2]),boxA b1 28 (cw [u1,v1])]) 100000 mixed (.then .ret) kr<|e_dm 0 rfl rfl rfl<|e_u 1 rfl rfl (zc 1 ty28 rfl rfl (.t4 .nil))<|e_dm 3 rfl rfl rfl<|e_u 4 rfl rfl (zc 0 ty28 rfl rfl (.t4 .nil))<|e_one 2 (zKa rfl rfl rfl rfl (.c rfl (.c rfl .n)) ce103 (zDe (pL:=pL) (nL:=nL) (cL:=cL) (L:=L) (u1:=u1) (v1:=v1) (x1:=x1) (hnL:=ass) (hmL:=ass) (hx:=ass) (hv:=ass)) (.c (j:=0) rfl (.c (j:=1) rfl .n)) ?_)
 refine e_one 5 (zKa rfl rfl rfl rfl (.c rfl (.c rfl .n)) ce103 (zDe (pL:=pL) (nL:=nL) (cL:=cL) (L:=L) (u1:=u2) (v1:=v2) (x1:=x2) (hnL:=ass) (hmL:=ass) (hx:=ass) (hv:=ass)) (.c (j:=0) rfl (.c (j:=2) rfl .n)) ?_)
 refine e_pv 6 rfl rfl (zZ (z:=((Po.vr L x1) - (Po.vr L x2))) rfl rfl (w64 om))<|e_pv 7 rfl rfl (zb rfl)<|zU kr<|zd<|zE ?_
 exact zw Tryz.results70 () trivial (zo rfl) rfl (ho:=(.n:PickO _ _ _)) (.n:SelR _ _ _)
end Go.Proofs.YtbiaimgafknkmaaGreat.Sp
namespace Go.Proofs.YtbiaimgafknkmaaGreat.Sp
open Go
set_option linter.unusedVariables false
set_option maxRecDepth 100000
set_option maxHeartbeats 8000000
theorem zvc {p1:Option Addr} {n1:Nat} {c1:Nat} {l1:List (Option Rat)} (hn1:l1.length=n1) (hm1:n1≤190) (hok:Po.sok (Po.vals l1)):Con yd 67 [.slice p1 n1 c1] [] [slF rE p1 c1 l1] (Y:=(Option Addr)×Nat) (fun y=>True) (fun y=> .slice (y.1) ((Po.sturm (Po.vals l1)).length) (y.2)) (fun y=>[]) (fun y=>[slF (rS rQ) (y.1) (y.2) (Po.sturm (Po.vals l1))]):=by
 refine zl Tryz.func67 rfl rfl rfl (fun c=> ?_)
 show RunC _ _ _ _ _ [(0,.slice p1 n1 c1)] [] [slF rE p1 c1 l1]
 refine zP 0 rfl (fun hL0=> ?_)
 refine ze<|za<|e_p (zb rfl)<|zf<|zd<|ze<|za<|e_mv rfl<|zk rfl rfl (.c rfl .n) ce102 (zZf (p1:=p1) (n1:=n1) (c1:=c1) (l1:=l1) (hn1:=ass) (hm1:=ass) (hok:=by exact hok.1)) (.c (j:=0) rfl .n) ?_
 rintro ⟨p91,c92⟩ -
 dsimp only [aq,nq,cq]
 refine e_p (zb rfl)<|zf<|zd<|ze<|ze ?_
 obtain ⟨A0,hA0⟩:∃z,z=(Po.sqf (Po.vals l1)):=⟨_,rfl⟩
 have e3:(Po.sqf (Po.vals l1):List Rat)=A0:=by exact hA0.symm
 rw [e3]
 have hAl:A0.length≤n1:=by rw [hA0,←hn1,←Po.vals_len l1];exact Po.sqf_len _
 have hAc:Po.cl A0=A0:=by rw [hA0];exact Po.sqf_cl _
 obtain ⟨hk1,hk2,hk3,hk4⟩:=hok
 rw [← hA0] at hk2 hk3 hk4
 have hAd:=Po.der_len A0
 refine za<|e_mv rfl<|e_p (zD ya rfl)<|e_p (zna rfl rfl)<|zf<|zd<|zC rfl (fun h13=> ?_) (fun h13=> ?_)
 ·
  refine ze<|za<|e_p (zb rfl)<|zf<|zd<|zE<|zp<|zFb (rS rQ) ?_
  have hv9:(Po.sturm (Po.vals l1))=[]:=if_pos (by rw [← hA0];omega)
  exact zw Tryz.results67 (none,0) trivial (zo rfl) (by rw [hv9];rfl) (ho:=(.n:PickO _ _ _)) ((.e (j:=0) rfl (by rw [hv9]) .n):SelR _ _ _)
 ·
  refine zB<|zd<|ze<|za<|e_mv rfl<|zqa rfl rfl (zdc 0 rfl ye inf23 rfl (by first|rfl|assumption|(simp;done)|omega)) (fun b4 _=> ?_)
  refine e_p (zb rfl)<|zf<|zd<|ze<|ze<|za<|e_mv rfl<|zha (addQE 0 rfl)<|zk rfl rfl (.c rfl .n) ce25 (zTc (p1:=p91) (n1:=(A0).length) (c1:=c92) (l1:=((A0).map some)) (hn1:=by exact List.length_map _) (hm1:=by first|rfl|assumption|omega|decide) (hb1:=by intro i;rw [Po.msome];exact Nat.le_trans (hk2 i) dd)) (.c (j:=0) rfl .n) ?_
  rintro ⟨p95,c96⟩ -
  dsimp only [aq,nq,cq]
  refine e_p (zb rfl)<|zf<|zd<|zv ?_
  have e7:(Po.der (Po.vals ((A0).map some)):List Rat)=Po.der A0:=by rw [Po.vals_some]
  rw [e7]
  refine zfa (X:=Nat×(List Rat)×(List Rat)×(Option Addr)×Nat×(Option Addr)×Nat×(Option Addr)×Nat×(List (List Rat))) (fun x:Nat×(List Rat)×(List Rat)×(Option Addr)×Nat×(Option Addr)×Nat×(Option Addr)×Nat×(List (List Rat))=>(x.2.1.length≤190∧x.2.2.1.length≤x.1∧x.1≤190∧x.2.2.2.2.2.2.2.2.2.length+x.1≤200)∧(Po.cl x.2.1=x.2.1∧Po.cl x.2.2.1=x.2.2.1)∧Po.stok x.1 x.2.1 x.2.2.1∧x.2.2.2.2.2.2.2.2.2++Po.st x.1 x.2.1 x.2.2.1=(Po.sturm (Po.vals l1))) (fun x=>[(4,.slice (x.2.2.2.2.2.2.2.1) (x.2.2.2.2.2.2.2.2.2.length) (x.2.2.2.2.2.2.2.2.1)),(5,.slice (x.2.2.2.2.2.1) (x.2.2.1.length) (x.2.2.2.2.2.2.1)),(3,.slice (x.2.2.2.1) (x.2.1.length) (x.2.2.2.2.1)),(2,.slice none 0 0)]) (fun x=>[rowA 23 (rS rQ) (x.2.2.2.2.2.2.2.1) (x.2.2.2.2.2.2.2.2.1) (x.2.2.2.2.2.2.2.2.2)]) (fun x=>[slF rQ (x.2.2.2.1) (x.2.2.2.2.1) (x.2.1),slF rQ (x.2.2.2.2.2.1) (x.2.2.2.2.2.2.1) (x.2.2.1),slF rQ p95 c96 (Po.der A0),slF rE p91 c92 ((A0).map some),slF rQ p91 c92 A0,slF rE p1 c1 l1]) (fun x:Nat×(List Rat)×(List Rat)×(Option Addr)×Nat×(Option Addr)×Nat×(Option Addr)×Nat×(List (List Rat))=>x.2.2.1.length) (A0.length,A0,(Po.der A0),p91,c92,p95,c96,some ⟨b4,0,none⟩,1,[A0]) (show (A0.length≤190∧(Po.der A0).length≤A0.length∧A0.length≤190∧([A0]).length+A0.length≤200)∧(Po.cl A0=A0∧Po.cl (Po.der A0)=(Po.der A0))∧Po.stok A0.length A0 (Po.der A0)∧([A0])++Po.st A0.length A0 (Po.der A0)=(Po.sturm (Po.vals l1)) from by exact ⟨⟨by omega,by omega,by omega,by show 1+A0.length≤200;omega⟩,⟨hAc,Po.der_cl _⟩,hk4,by unfold Po.sturm;rw [← hA0,if_neg om];rfl⟩) ((.e rfl (by first|rfl|(congr 1;omega)|simp_all) (.c rfl (.e rfl (by first|rfl|(congr 1;omega)|simp_all) (.c rfl .n)))):SubM _ _) (ho:=((.e (i:=0) rfl (by first|rfl|(congr 1;omega)|simp_all) .n):PickO _ _ _)) ((.e (j:=2) rfl (by first|rfl|simp_all) (.of [0,0,1,2,3] rfl)):SelR _ _ _) ?_
  rintro ⟨f,a,b,pa,ca,pb,cb,pR,cR,A⟩ hI
  replace hI:(a.length≤190∧b.length≤f∧f≤190∧A.length+f≤200)∧(Po.cl a=a∧Po.cl b=b)∧Po.stok f a b∧A++Po.st f a b=(Po.sturm (Po.vals l1)):=hI
  try dsimp only
  obtain ⟨⟨hal,hbf,hf,hAf⟩,⟨hca,hcb⟩,hsk,hst⟩:=hI
  refine ze<|ze<|za<|e_mv rfl<|e_p (zD ya rfl)<|e_p (zwa rfl rfl)<|zf<|zd<|zC rfl (fun h20=> ?_) (fun h20=> ?_)
  ·
   have hg:=Po.stok_yes hsk (show b.length≠0 by omega) om
   have hrl:=(Po.dqr_len a b).2
   refine zB<|zd<|zv<|ze<|za<|e_mv rfl<|e_mv rfl<|zqa rfl rfl (zdc 1 rfl ye inf23 rfl (by first|rfl|assumption|(simp;done)|omega)) (fun b8 _=> ?_)
   refine zV 0 rfl .z<|zya 1 rfl rfl rfl (zma 0 rfl ye inf23 dd rfl rfl (by first|rfl|assumption|(simp;done)|omega) rfl (by first|rfl|assumption|(simp;done)|omega) om om) (fun _=>(.s .z)) ?_
   rintro ⟨p9,c10⟩ -
   dsimp only [aq,nq,cq]
   refine e_p (zb rfl)<|zf<|zd<|ze<|za<|e_mv rfl<|e_mv rfl<|zha (addQE 1 rfl)<|zha (addQE 3 rfl)<|zk rfl rfl (.c rfl (.c rfl .n)) ce26 (zBb (p1:=pa) (n1:=a.length) (c1:=ca) (l1:=(a.map some)) (p2:=pb) (n2:=b.length) (c2:=cb) (l2:=(b.map some)) (hn1:=by exact List.length_map _) (hm1:=by first|rfl|assumption|omega|decide) (hn2:=by exact List.length_map _) (hm2:=by first|rfl|assumption|omega|decide) (hm12:=by first|rfl|assumption|omega|decide) (hb2:=by rw [Po.vals_some];exact hg.2.1.1) (hok:=by rw [Po.vals_some,Po.vals_some];exact hg.2.1.2)) (.c (j:=1) rfl (.c (j:=0) rfl .n)) ?_
   rintro ⟨p811,c812,p913,c914⟩ -
   dsimp only [aq,nq,cq]
   refine e_mv rfl<|e_p (zm rfl rfl)<|e_p (zm rfl rfl)<|e_p (zm rfl rfl)<|e_p (zb rfl)<|e_p (zb rfl)<|e_p (zb rfl)<|zf<|zd ?_
   have e15:(Po.dr (Po.vals (a.map some)) (Po.vals (b.map some)):List Rat)=Po.dr a b:=by rw [Po.vals_some,Po.vals_some]
   rw [e15]
   refine za<|e_mv rfl<|e_mv rfl<|zk rfl rfl (.c rfl .n) ce59 (zmb (z:=(-1)) (hz:=by first|rfl|assumption|omega|decide)) (.n) ?_
   rintro ⟨w316,w417⟩ -
   dsimp only [aq,nq,cq]
   refine zha (addQe 0 rfl)<|zha (addQE 3 rfl)<|zk rfl rfl (.c rfl (.c rfl .n)) ce19 (zod (p1:=p913) (n1:=(Po.dr a b).length) (c1:=c914) (l1:=((Po.dr a b).map some)) (u1:=w316) (v1:=w417) (x1:=(some (((-1):Int):Rat))) (hn1:=by exact List.length_map _) (hm1:=by first|rfl|assumption|omega|decide) (hm9:=by first|rfl|assumption|omega|decide) (hb1:=by rw [Po.vals_some];exact fun i=>Nat.le_trans (hg.2.2.1 i) dd) (hb2:=by exact Po.bd_mono (Po.bd_one (x:=((-1:Int):Rat)) (L:=1) dd) dd) (hs:=by rw [Po.vals_some];intro k lo n h;exact Nat.le_trans (Po.cv_one_hq (L:=1) (Po.bd_cl hg.2.2.1) dd k lo n h) dd)) (.c (j:=0) rfl (.c (j:=1) rfl .n)) ?_
   rintro ⟨p918,c919⟩ -
   dsimp only [aq,nq,cq]
   refine e_p (zb rfl)<|e_p (zb rfl)<|zf<|zL ?_
   have e20:(Po.mul (Po.vals ((Po.dr a b).map some)) (Po.vals [(some (((-1):Int):Rat))]):List Rat)=Po.mul (Po.dr a b) [((-1:Int):Rat)]:=by rw [Po.vals_some];rfl
   rw [e20]
   refine zT ((f - 1),b,(Po.mul (Po.dr a b) [((-1:Int):Rat)]),pb,cb,p918,c919,p9,c10,(A++([b]))) (show (b.length≤190∧(Po.mul (Po.dr a b) [((-1:Int):Rat)]).length≤(f - 1)∧(f - 1)≤190∧(A++([b])).length+(f - 1)≤200)∧(Po.cl b=b∧Po.cl (Po.mul (Po.dr a b) [((-1:Int):Rat)])=(Po.mul (Po.dr a b) [((-1:Int):Rat)]))∧Po.stok (f - 1) b (Po.mul (Po.dr a b) [((-1:Int):Rat)])∧(A++([b]))++Po.st (f - 1) b (Po.mul (Po.dr a b) [((-1:Int):Rat)])=(Po.sturm (Po.vals l1)) from by have h9:=Po.sdr_len (a:=a) hcb (show b.length≠0 by omega) hbf;exact ⟨⟨by omega,h9,by omega,by rw [List.length_append];show A.length+1+(f - 1)≤200;omega⟩,⟨hcb,Po.mul_cl _ _⟩,hg.2.2.2,by rw [List.append_assoc,List.singleton_append,←Po.st_yes om hbf];exact hst⟩) (by have h9:=Po.sdr_len (n:=b.length) (a:=a) hcb (show b.length≠0 by omega) (Nat.le_refl _);(show (Po.mul (Po.dr a b) [((-1:Int):Rat)]).length<b.length;omega)) ((.e rfl (by simp) (.of rfl)):SubM _ _) (ho:=((.c (i:=1) rfl .n):PickO _ _ _)) ((.of [10,0,11,12,13,14] rfl):SelR _ _ _)
  ·
   refine zca<|zh<|zh<|zt<|zd<|ze<|za<|e_mv rfl<|e_p (zb rfl)<|zf<|zd<|zE<|zYa 0 rfl .z ?_
   have hv9:A=(Po.sturm (Po.vals l1)):=by rw [← hst,Po.st_nil om,List.append_nil]
   exact zw Tryz.results67 (pR,cR) trivial (zo rfl) (by rw [← hv9]) (ho:=(.n:PickO _ _ _)) ((.e (j:=0) rfl (by rw [← hv9]) .n):SelR _ _ _)
end Go.Proofs.YtbiaimgafknkmaaGreat.Sp
namespace Go.Proofs.YtbiaimgafknkmaaGreat.Po
open Go.Proofs.YtbiaimgafknkmaaGreat.Big
theorem mo_ne {l:List Rat} (hl:cl l=l) (h:l.length≠0):(mo l).length≠0:=fun e=>by
  have h':l≠[]:=fun k=>h (by rw [k];rfl)
  have h0:=lead_ne hl h'
  have g:(mo l).getD (l.length - 1) 0=lead l*(((1:Int):Rat) / lead l):=by
    unfold mo
    rw [if_neg h,mul_one_get];rfl
  rw [List.length_eq_zero_iff.1 e] at g
  have g':(0:Rat)=lead l*(((1:Int):Rat) / lead l):=g
  rw [Rat.mul_comm,Rat.div_mul_cancel h0] at g'
  exact absurd g' (by decide +kernel)
theorem ge_ne:∀(n:Nat) (p q:List Rat),p.length≠0→(ge n p q).length≠0
  |0,_,_,h=>h
  |n+1,p,q,h=>by
    unfold ge
    split
    · exact h
    · rename_i h1;exact ge_ne n q _ h1
theorem gcd_ne {p q:List Rat} (h:(cl p).length≠0):(gcd p q).length≠0:=ge_ne _ _ _ (mo_ne (cl_cl p) h)
theorem pow_le {N a b:Nat} (h:a≤b) (K:Nat):(K+1)*(N+1)^a≤(K+1)*(N+1)^b:=Nat.mul_le_mul_left _ (Nat.pow_le_pow_right (by omega) h)
theorem sok_of {p:List Rat} (hl:p.length≤5) (h:cb 20 p):sok p∧∀q,q∈sturm p→q.length≤10∧bd 7000000000 q:=by
  have hP:cb 20 (cl p):=cb_cl h
  have hPl:=cl_le_len p
  have hD:cb 23 (der (cl p)):=cb_der hP (by omega)
  have hDl:=der_len (cl p)
  have hDc:=der_cl (cl p)
  have hsq:sqok p∧cb 400000 (sqf p):=by
    by_cases h0:(cl p).length=0
    · have e : sqf p = [] := if_pos h0
      refine ⟨⟨bd_mono (cb_bd h) (by decide),bd_mono (cb_bd hD) (by decide),fun k=>absurd h0 k⟩,?_⟩
      rw [e];exact cb_mono (cb_of_bd (l:=[]) (k:=1) (fun i=>by rw [gD0 (Nat.zero_le _),hq_zero];decide)) (by decide)
    · have hn : (der (cl p)).length ≤ 4 := by omega
      have hpw:=pow_le (N:=6) hn 23
      have h6:(23+1)*(6+1)^4=57624:=by decide
      have hg:=gok_cb (N:=6) (by decide) (der (cl p)).length 23 (mo (cl p)) (mo (der (cl p))) (mo_cl _) (mo_cl _) (cb_mo (cl_cl p) (cb_mono hP (by decide))) (cb_mo hDc hD) (by have:=mo_len (cl p);omega) (by have:=mo_len (der (cl p));omega) (by omega)
      have hG:cb 57624 (gcd (cl p) (der (cl p))):=by
        unfold gcd
        rw [cl_cl,hDc]
        exact cb_mono hg.2 (by omega)
      have hGn:(gcd (cl p) (der (cl p))).length≠0:=gcd_ne (by rw [cl_cl];exact h0)
      have hdiv:=(div_cb (N:=6) (cl_cl p) (gcd_cl _ _) hGn hP hG (by omega)).1
      refine ⟨⟨bd_mono (cb_bd h) (by decide),bd_mono (cb_bd hD) (by decide),fun _=>⟨⟨bd_mono (cb_bd hP) (by decide),bd_mono (cb_bd hD) (by decide),?_⟩,dgo_cb (N:=6) (cl_cl p) (gcd_cl _ _) hGn hP hG (by omega) (by decide) (by decide),bd_mono (cb_bd hdiv) (by decide)⟩⟩,?_⟩
      · rw [cl_cl,hDc];exact hg.1
      · unfold sqf
        rw [if_neg h0]
        exact cb_mo (dq_cl _ _) (cb_mono hdiv (by decide))
  obtain ⟨hs1,hs2⟩:=hsq
  have hsl:=sqf_len p
  have hsd:cb 400003 (der (sqf p)):=cb_der hs2 (by omega)
  have hsdl:=der_len (sqf p)
  have h5:(sqf p).length≤5:=by omega
  have hpw:=pow_le (N:=6) h5 400003
  have h6:(400003+1)*(6+1)^5=6722867228:=by decide
  have hst:=stok_cb (N:=6) (by decide) (sqf p).length 400003 (sqf p) (der (sqf p)) (sqf_cl p) (der_cl _) (cb_mono hs2 (by decide)) hsd (by omega) (by omega) (by omega)
  refine ⟨⟨hs1,bd_mono (cb_bd hs2) (by decide),bd_mono (cb_bd hsd) (by decide),hst.1⟩,fun q hq=> ?_⟩
  unfold sturm at hq
  split at hq
  · cases hq
  · rcases List.mem_cons.1 hq with rfl | hq
    · exact ⟨by omega,bd_mono (cb_bd hs2) (by decide)⟩
    · obtain ⟨k1, k2⟩ := hst.2 q hq
      exact ⟨by omega,bd_mono (cb_bd k2) (by omega)⟩
theorem vok_sturm {p:List Rat} {x:Rat} (h:∀q,q∈sturm p→q.length≤10∧bd 7000000000 q) (hx:hq x≤10000000000):vok (sturm p) x:=vok_of (K:=7000000000) hx h (by decide) (by decide)
theorem st_len:∀(n:Nat) (a b:List Rat),(st n a b).length≤n
  |0,_,_=>Nat.le_refl _
  |n+1,a,b=>by
    unfold st
    split
    · exact Nat.zero_le _
    · rw [List.length_cons];have:=st_len n b (mul (dr a b) [(((-1:Int)):Rat)]);omega
theorem sturm_len (p:List Rat):(sturm p).length≤p.length+1:=by
  unfold sturm
  split
  · exact Nat.zero_le _
  · rw [List.length_cons];have:=st_len (sqf p).length (sqf p) (der (sqf p));have:=sqf_len p;omega
def ofL (l:List Int):List Rat:=l.map (fun z:Int=>(z:Rat))
theorem ofL_take {l:List Int} {i:Nat} (h:i<l.length):ofL (l.take i)++[((l.getD i 0:Int):Rat)]=ofL (l.take (i+1)):=by
  unfold ofL
  rw [List.take_succ_eq_append_getElem h,List.map_append,List.getD_eq_getElem?_getD,List.getElem?_eq_getElem h]
  rfl
theorem hq_add1 {x:Rat} {K:Nat} (h:hq x≤K):hq (x+((1:Int):Rat))≤K+2:=by
  have:=hq_add x ((1:Int):Rat)
  have:hq ((1:Int):Rat)=1:=by decide
  omega
theorem bound_hq {P:List Rat} {K:Nat} (h:bd K P) (h0:lead P≠0):hq (bound P)≤K+K+2:=hq_add1 (bm_hq h h0 _)
end Go.Proofs.YtbiaimgafknkmaaGreat.Po
namespace Go.Proofs.YtbiaimgafknkmaaGreat.Po
open Go.Proofs.YtbiaimgafknkmaaGreat.Big
theorem bd_dec {l:List Rat} {K:Nat} (h:l.all (fun z=>decide (hq z≤K))=true) (hk:1≤K):bd K l:=fun i=>by
  rw [List.getD_eq_getElem?_getD]
  by_cases hi:i<l.length
  · rw [List.getElem?_eq_getElem hi]
    exact of_decide_eq_true (List.all_eq_true.1 h _ (List.getElem_mem hi))
  · rw [List.getElem?_eq_none (by omega)]
    show hq 0≤K
    rw [hq_zero];exact hk
theorem cb_dec {l:List Rat} (h:l.all (fun z=>decide (hq z≤1))=true) (hl:l.length≤19):cb 20 l:=cb_mono (cb_of_bd (bd_dec h (Nat.le_refl 1))) (by omega)
theorem cv_hq_len {K L:Nat} {p q:List Rat} (h1:bd K p) (h2:bd L q) (k lo:Nat):∀n,hq (cv p q k lo n)≤1+min n (p.length - lo)*(K+L+1)
  |0=>by show hq 0≤_;rw [hq_zero];omega
  |n+1=>by
    show hq (cv p q k lo n+p.getD (lo+n) 0*q.getD (k - (lo+n)) 0)≤_
    have e3:=cv_hq_len h1 h2 k lo n
    by_cases h:lo+n<p.length
    · have e1 := hq_add (cv p q k lo n) (p.getD (lo + n) 0 * q.getD (k - (lo + n)) 0)
      have e2:=hq_mul (p.getD (lo+n) 0) (q.getD (k - (lo+n)) 0)
      have e4:=h1 (lo+n)
      have e5:=h2 (k - (lo+n))
      rw [show min (n+1) (p.length - lo)=min n (p.length - lo)+1 by omega,Nat.succ_mul]
      omega
    · rw [gD0 (l := p) (by omega), show min (n + 1) (p.length - lo) = min n (p.length - lo) by omega, Rat.zero_mul, Rat.add_zero]
      exact e3
theorem cv_hq_of {K L N:Nat} {p q:List Rat} (h1:bd K p) (h2:bd L q) (hl:p.length≤N) (hb:1+N*(K+L+1)≤200000000000) (k lo n:Nat):hq (cv p q k lo n)≤200000000000:=by
  refine Nat.le_trans (cv_hq_len h1 h2 k lo n) (Nat.le_trans (Nat.add_le_add_left (Nat.mul_le_mul_right _ ?_) _) hb)
  omega
theorem dgo_of {p q:List Rat} (hp:cb 20 p) (hq':cb 20 q) (lp:p.length≤5) (hn:(cl q).length≠0):bd 60000000000 q∧dok (cl q) ((cl p).length+1) [] (cl p):=by
  have h:=dgo_cb (N:=6) (cl_cl p) (cl_cl q) hn (cb_cl hp) (cb_cl hq') (by have:=cl_le_len p;omega) (by decide) (by decide)
  have h2:=h.2
  rw [cl_cl,cl_cl] at h2
  exact ⟨bd_mono (cb_bd hq') (by decide),h2⟩
def isT (l:List (List Rat)):Nat→Rat→Rat→Bool
  |0,_,_=>false
  |n+1,a,b=>decide (bt l a b=0)||decide (bt l a b=1)||(isT l n a (mid a b)&&isT l n (mid a b) b)
theorem isk_of {l:List (List Rat)} (hl:∀q,q∈l→q.length≤10∧bd 7000000000 q):∀(n M:Nat) (a b:Rat),hq a≤M→hq b≤M→(M+2)*2^n≤10000000000→isT l n a b=true→isk l n a b
  |0,_,_,_,_,_,_,h=>by cases h
  |n+1,M,a,b,ha,hb,hM,h=>by
    have e1:(M+2)*2^(n+1)=(2*M+2+2)*2^n:=by rw [Nat.pow_succ,Nat.mul_comm (2^n) 2,←Nat.mul_assoc];congr 1;omega
    have e2:M+2≤(M+2)*2^(n+1):=Nat.le_mul_of_pos_right _ (Nat.pow_pos (by decide))
    have hm:hq (mid a b)≤2*M+2:=by have:=mid_hq ha hb;omega
    refine ⟨⟨by omega,by omega,vok_of (K:=7000000000) (M:=10000000000) (by omega) hl (by decide) (by decide),vok_of (K:=7000000000) (M:=10000000000) (by omega) hl (by decide) (by decide)⟩,fun h0 h1=> ?_⟩
    unfold isT at h
    rw [decide_eq_false h0,decide_eq_false h1,Bool.false_or,Bool.false_or,Bool.and_eq_true] at h
    exact ⟨isk_of hl n (2*M+2) a (mid a b) (by omega) hm (by omega) h.1,isk_of hl n (2*M+2) (mid a b) b hm (by omega) (by omega) h.2⟩
def e1:List Rat:=ofL [-2,1,1]
def e2:List Rat:=ofL [-2,0,1]
def e3:List Rat:=ofL [0,-1,0,1]
def eR:List (Rat×Rat):=[(((-3:Int):Rat),((0:Int):Rat)),(((0:Int):Rat),((3:Int):Rat))]
theorem ex_mul:mul (ofL [-1,1]) (ofL [2,1])=e1:=by decide +kernel
theorem ex_q:dq e1 (ofL [-1,1])=ofL [2,1]:=by decide +kernel
theorem ex_r:dr e1 (ofL [-1,1])=[]:=by decide +kernel
theorem ex_c:dc (ofL [-1,1])=0:=by decide +kernel
theorem ex_T:isT (sturm e2) 10 (- bound (cl e2)) (bound (cl e2))=true:=by decide +kernel
theorem ex_iso:iso (sturm e2) 10 (- bound (cl e2)) (bound (cl e2))=eR:=by decide +kernel
theorem ex_bt:bt (sturm e3) ((-1:Int):Rat) ((1:Int):Rat)=2:=by decide +kernel
theorem ex_ne2:(sturm e2).length≠0:=by decide +kernel
theorem ex_ne3:(sturm e3).length≠0:=by decide +kernel
theorem ex_s2:sok e2∧∀q,q∈sturm e2→q.length≤10∧bd 7000000000 q:=sok_of (by decide) (cb_dec (by decide +kernel) (by decide))
theorem ex_s3:sok e3∧∀q,q∈sturm e3→q.length≤10∧bd 7000000000 q:=sok_of (by decide) (cb_dec (by decide +kernel) (by decide))
theorem ex_k2:isk (sturm e2) 10 (- bound (cl e2)) (bound (cl e2)):=isk_of ex_s2.2 10 1 _ _ (by decide +kernel) (by decide +kernel) (by decide) ex_T
theorem ex_l2:(sturm e2).length≤200:=by decide +kernel
theorem ex_l3:(sturm e3).length≤200:=by decide +kernel
end Go.Proofs.YtbiaimgafknkmaaGreat.Po
namespace Go.Proofs.YtbiaimgafknkmaaGreat.Sp
open Go
set_option linter.unusedVariables false
set_option maxRecDepth 100000
set_option maxHeartbeats 8000000
theorem zAg {s:Bool} {p:Option Addr} {n:Nat} {cap:Nat} {l:List Int} (hn:l.length=n) (hln:Big.ln (yo s l)≤4398046511104):Con yd 134 [.agg #[.bool s,.slice p n cap]] [] [slF (rI .u32) p cap l] (Y:=(Option Addr)×Nat) (fun y=>True) (fun y=> .agg #[.bool (decide ((((yo s l).natAbs:Nat):Int)<0)),.slice (y.1) ((yn ((((yo s l).natAbs:Nat):Int).natAbs)).length) (y.2)]) (fun y=>[]) (fun y=>[slF (rI .u32) (y.1) (y.2) (yn ((((yo s l).natAbs:Nat):Int).natAbs))]):=by
 refine zl Tryz.func134 rfl rfl rfl (fun c=> ?_)
 show RunC _ _ _ _ _ [(0,.agg #[.bool s,.slice p n cap])] [] [slF (rI .u32) p cap l]
 refine zP 0 rfl (fun hL0=> ?_)
 refine zIa 0 rfl (fun hE0=> ?_)
 have hnn:Big.nn l:=fun g hg=>(zx.1 (hE0 g hg)).1
 unfold Big.ln at hln
 refine ze<|za<|zH rfl rfl (zN rfl rfl) (fun b1=> ?_)
 refine zH rfl rfl (zq zr26 rfl) (fun b2=> ?_)
 refine zf<|zd<|ze<|za<|e_ru (zc 1 ty26 rfl rfl (.t2 .nil))<|zk rfl rfl (.c rfl .n) ce113 (zGa (s:=s) (p:=p) (n:=n) (cap:=cap) (l:=l) (hn:=ass)) (.c (j:=0) rfl .n) ?_
 rintro ⟨p23,c24⟩ -
 dsimp only [aq,nq,cq]
 refine zk rfl rfl (.c rfl .n) ce129 (zBc (a:=(yo s l).natAbs) (p:=p23) (cap:=c24) (hb:=cbb)) (.c (j:=0) rfl .n) ?_
 rintro ⟨p25,c26⟩ -
 dsimp only [aq,nq,cq]
 refine zk rfl rfl (.c rfl (.c rfl .n)) ce114 (zxa (s:=false) (a:=((yo s l).natAbs)) (p:=p25) (cap:=c26)) (.c (j:=0) rfl .n) ?_
 rintro ⟨p27,c28⟩ -
 dsimp only [aq,nq,cq]
 refine zi 0 rfl rfl rfl rfl rfl sz26 rfl (.t2 .nil) .z<|zf<|zd<|zE ?_
 have hz:Big.sg false ((yo s l).natAbs:Int)=(((yo s l).natAbs:Nat):Int):=rfl
 exact zw Tryz.results134 (p27,c28) trivial (zn 0 ty26 rfl rfl (.t2 .nil)) (by rw [hz]) (ho:=(.n:PickO _ _ _)) ((.e (j:=0) rfl (by rw [hz]) .n):SelR _ _ _)
theorem zag {z:Int} {p:Option Addr} {cap:Nat} (hln:Big.ln z≤4398046511104):Con yd 134 [.agg #[.bool (decide ((z)<0)),.slice (p) ((yn ((z).natAbs)).length) (cap)]] [] [slF (rI .u32) (p) (cap) (yn ((z).natAbs))] (Y:=(Option Addr)×(Nat)) (fun y=>True) (fun y=> .agg #[.bool (decide ((((z.natAbs:Nat):Int))<0)),.slice (y.1) ((yn ((((z.natAbs:Nat):Int)).natAbs)).length) (y.2)]) (fun y=>[]) (fun y=>[slF (rI .u32) (y.1) (y.2) (yn ((((z.natAbs:Nat):Int)).natAbs))]):=by
  have h:= @zAg (decide ((z)<0)) p (yn (z).natAbs).length cap (yn (z).natAbs) rfl (by rw [Big.raw_big];exact hln)
  rw [Big.raw_big] at h
  exact h
theorem zbg {w1:Wd} {x1:Int} (hln:Big.ln x1≤4398046511104):Con yd 134 [.agg #[w1.b,w1.l]] [] [zF w1 (x1)] (Y:=(Wd)) (fun y=>True) (fun y=> .agg #[y.b,y.l]) (fun y=>[]) (fun y=>[zF y (((x1.natAbs:Nat):Int))]):=by
  exact zGb (zid (fun p c=>zag hln))
end Go.Proofs.YtbiaimgafknkmaaGreat.Sp
namespace Go.Proofs.YtbiaimgafknkmaaGreat.Sp
open Go
set_option linter.unusedVariables false
set_option maxRecDepth 100000
set_option maxHeartbeats 8000000
theorem zcg {k1:Bool} {u1:Wd} {v1:Wd} {q1:Rat} (hl:yc q1≤1099511627776):Con yd 108 [.agg #[u1.b,u1.l,v1.b,v1.l]] [] [qF k1 u1 v1 q1] (Y:=Wd×Wd) (fun y=>True) (fun y=> .agg #[y.1.b,y.1.l,y.2.b,y.2.l]) (fun y=>[]) (fun y=>[qF true y.1 y.2 (Big.qabs q1)]):=by
 refine zl Tryz.func108 rfl rfl rfl (fun c=> ?_)
 show RunC _ _ _ _ _ [(0,.agg #[u1.b,u1.l,v1.b,v1.l])] [] [qF k1 u1 v1 q1]
 have a1:=Big.hq_num q1
 have a2:=Big.hq_den q1
 refine ze<|za<|zH rfl rfl (zN rfl rfl) (fun b1=> ?_)
 refine zH rfl rfl (zq zr28 rfl) (fun b2=> ?_)
 refine zf<|zd<|ze<|za<|e_ru (zc 1 ty28 rfl rfl (.t4 .nil))<|zk rfl rfl (.c rfl .n) ce53 (zia (k1:=k1) (u1:=u1) (v1:=v1) (q1:=q1)) (.c (j:=0) rfl .n) ?_
 rintro ⟨w33,w44⟩ -
 dsimp only [aq,nq,cq]
 refine zi 1 rfl rfl rfl rfl rfl sz28 rfl (.t4 .nil) (.s .z)<|zf<|zd<|ze<|zW (OW:=[boxA b2 28 (cw [wz,wz])]) (O:=[boxA b1 28 (cw [w33,w44])]) 6 mixed (.then .ret) kr<|e_pv 0 rfl rfl (zg yi rfl sz26 rfl rfl)<|e_uw 1 rfl rfl (zc 1 ty26 rfl rfl (.t2 .nil))<|e_pv 3 rfl rfl (zg yi rfl sz26 rfl rfl)<|e_uw 4 rfl rfl (zc 1 ty26 rfl rfl (.s2 (.t2 .nil)))<|zgb (qF_open 0 rfl) (fun _ _=> ?_)
 refine e_one 2 (zu rfl rfl rfl rfl (.c rfl .n) ce134 (zbg (w1:=w33) (x1:=(q1).num) (hln:=by first|rfl|assumption|omega|(rw [Big.zK];omega)|(decide +kernel))) (.c (j:=0) rfl .n) ?_)
 rintro w35 -
 dsimp only [aq,nq,cq]
 refine e_pv 5 rfl rfl (zI zr28 rfl yi (.c sz26 (.c sz26 .n)) (.c rfl (.c rfl .n)) (.c rfl rfl rfl (.t2 .nil) (.c rfl rfl rfl (.s2 (.t2 .nil)) .n)))<|e_one 6 (zA kr rfl rfl rfl rfl rfl sz28 rfl (.t4 .nil) ?_)
 refine zU kr<|zd<|zE<|zSa (qF true w35 w44 (Big.qabs q1)) (qF_close 0 2 rfl rfl (by exact ⟨(Big.qabs_num q1).symm,by rw [Big.qabs_den],by rw [Big.hq_qabs];exact hl⟩)) ?_
 exact zw Tryz.results108 (w35,w44) trivial (zn 0 ty28 rfl rfl (.t4 .nil)) rfl (ho:=(.n:PickO _ _ _)) ((.c (j:=0) rfl .n):SelR _ _ _)
end Go.Proofs.YtbiaimgafknkmaaGreat.Sp
namespace Go.Proofs.YtbiaimgafknkmaaGreat.Sp
open Go
set_option linter.unusedVariables false
set_option maxRecDepth 100000
set_option maxHeartbeats 8000000
theorem zTe {p1:Option Addr} {n1:Nat} {c1:Nat} {l1:List (Option Rat)} (hn1:l1.length=n1) (hm1:n1≤190) (hb:Po.bd 60000000000 (Po.vals l1)) (hne:(Po.cl (Po.vals l1)).length≠0):Con yd 78 [.slice p1 n1 c1] [] [slF rE p1 c1 l1] (Y:=Wd×Wd) (fun y=>True) (fun y=> .tuple #[.agg #[y.1.b,y.1.l,y.2.b,y.2.l],.int .i64 0]) (fun y=>[]) (fun y=>[qF true y.1 y.2 (Po.bound (Po.cl (Po.vals l1)))]):=by
 refine zl Tryz.func78 rfl rfl rfl (fun c=> ?_)
 show RunC _ _ _ _ _ [(0,.slice p1 n1 c1)] [] [slF rE p1 c1 l1]
 refine zP 0 rfl (fun hL0=> ?_)
 refine ze<|za<|zH rfl rfl (zq zr28 rfl) (fun b1=> ?_)
 refine e_p (zb rfl)<|zf<|zd<|ze<|za<|e_mv rfl<|zk rfl rfl (.c rfl .n) ce31 (zFa (p1:=p1) (n1:=n1) (c1:=c1) (l1:=l1) (hn1:=ass) (hm1:=by first|omega|rfl|assumption|decide)) (.c (j:=0) rfl .n) ?_
 rintro ⟨p92,c93⟩ -
 dsimp only [aq,nq,cq]
 refine e_p (zb rfl)<|zf<|zd<|ze<|ze ?_
 obtain ⟨P,hP⟩:∃z,z=(Po.cl (Po.vals l1)):=⟨_,rfl⟩
 have e4:(Po.cl (Po.vals l1):List Rat)=P:=by exact hP.symm
 rw [e4]
 refine zP 0 rfl (fun hLP=> ?_)
 have hPl:P.length≤n1:=by rw [hP,←hn1,←Po.vals_len l1];exact Po.cl_le_len _
 have hbP:Po.bd 60000000000 P:=by rw [hP];exact Po.bd_cl hb
 rw [← hP] at hne
 have hPn:P≠[]:=fun e=>hne (by rw [e];rfl)
 have hl0:Po.lead P≠0:=Po.lead_ne (by rw [hP];exact Po.cl_cl _) hPn
 have hlq:=Po.lead_hq hbP
 refine za<|e_mv rfl<|e_p (zD ya rfl)<|e_p (zna rfl rfl)<|zf<|zd<|zC rfl (fun h13=> ?_) (fun h13=> ?_)
 ·
  omega
 ·
  refine zB<|zd<|ze<|za<|zk rfl rfl (.n) ce50 (zMb) (.n) ?_
  rintro ⟨w35,w46⟩ -
  dsimp only [aq,nq,cq]
  refine zH rfl rfl (zq zr28 rfl) (fun b7=> ?_)
  refine zi 0 rfl rfl rfl rfl rfl sz28 rfl (.t4 .nil) .z<|zf<|zd<|ze<|ze<|za<|e_mv rfl<|e_mv rfl<|e_p (zD ya rfl)<|e_p (zZ (z:=((((P).length:Nat):Int) - 1)) rfl rfl (w64 om)) ?_
  have e8:(((((P).length:Nat):Int) - 1):Int)=(((P.length - 1):Nat):Int):=by omega
  rw [e8]
  refine e_p (zkb (hi:=(P.length - 1)) ya sz28 rfl (.s rfl) (.inr ⟨_,rfl⟩) om)<|zWb (zPb 1 rfl (P.length - 1) om) (fun _ _=> ?_)
  refine e_p (zD ya rfl)<|e_mv rfl<|zf<|zd<|zv<|zfa (X:=Nat×Wd×Wd) (fun x:Nat×Wd×Wd=>x.1≤P.length - 1) (fun x=>[(22,.int .i64 ((x.1:Nat):Int)),(21,.int .i64 (((P.length - 1):Nat):Int)),(20,.slice p92 (P.length - 1) c93),(4,.pointer (some ⟨b7,0,none⟩)),(0,.slice p92 ((P).length) c93),(3,.int .i64 0),(2,.pointer (some ⟨b1,0,none⟩))]) (fun x=>[boxA b7 28 (cw [x.2.1,x.2.2]),boxA b1 28 (cw [wz,wz])]) (fun x=>[qF true x.2.1 x.2.2 (Po.bm P x.1),slF rQ p92 c93 ((P).take (P.length - 1)),qF true w35 w46 ((0:Int):Rat),slF rQ p92 c93 P,slF rE p1 c1 l1]) (fun x:Nat×Wd×Wd=>P.length - 1 - x.1) (0,w35,w46) (show 0≤P.length - 1 from by exact Nat.zero_le _) ((.e rfl (by first|rfl|(congr 1;omega)|simp_all) (.of rfl)):SubM _ _) (ho:=((.of [0,0] rfl):PickO _ _ _)) ((.e (j:=1) rfl rfl (.of [0,1,2,3] rfl)):SelR _ _ _) ?_
  rintro ⟨i,su,sv⟩ hI
  replace hI:i≤P.length - 1:=hI
  try dsimp only [cw]
  refine ze<|za<|e_p (zY rfl rfl)<|zf<|zd<|ze<|zC rfl (fun h23=> ?_) (fun h23=> ?_)
  ·
   refine zB<|zd<|ze<|zv<|ze<|za<|r_vl rfl rfl (zja (x0:=(((P).take (P.length - 1)).getD i (0:Rat))) 1 i rfl ya sz28 rfl (by first|rfl|assumption|(simp;done)|omega|(rw [List.length_take];omega)) rfl rfl (gD (d:=(0:Rat)) (by first|omega|(rw [List.length_take];omega)))) ?_
   rintro ⟨b9,o10,w11,w12⟩ -
   dsimp only [aq,nq,cq]
   refine zha open_rQ<|e_ru (zO (j:=0) 0 ty28 rfl rfl rfl (.t4 .nil))<|zH rfl rfl (zq zr28 rfl) (fun b13=> ?_)
   refine zi 0 rfl rfl rfl rfl rfl sz28 rfl (.t4 .nil) .z<|zf<|zd<|ze ?_
   have e14:((P).take (P.length - 1)).getD i (0:Rat)=P.getD i 0:=by exact Po.take_get om
   rw [e14]
   refine zW (OW:=[]) (O:=[boxA b13 28 (cw [w11,w12]),boxA b7 28 (cw [su,sv]),boxA b1 28 (cw [wz,wz])]) 12 mixed (.then (.block (.then (.then (.block (.then .ret)))))) kr<|e_u 0 rfl rfl (zc 0 ty28 rfl rfl (.t4 .nil))<|e_dm 1 rfl rfl rfl<|e_dm 2 rfl rfl rfl<|e_pv 3 rfl rfl (zD ya rfl)<|e_pv 4 rfl rfl (zZ (z:=((((P).length:Nat):Int) - 1)) rfl rfl (w64 om)) ?_
   have e15:(((((P).length:Nat):Int) - 1):Int)=(((P.length - 1):Nat):Int):=by omega
   rw [e15]
   refine d_vl 5 rfl rfl kr kr rfl rfl (zja (x0:=((P).getD (P.length - 1) (0:Rat))) 5 (P.length - 1) rfl ya sz28 rfl (by first|rfl|assumption|(simp;done)|omega|(rw [List.length_take];omega)) rfl rfl (gD (d:=(0:Rat)) om)) ?_
   rintro ⟨b16,o17,w18,w19⟩ -
   dsimp only [aq,nq,cq]
   refine zTa open_rQ<|e_u 6 rfl rfl (zO (j:=0) 0 ty28 rfl rfl rfl (.t4 .nil))<|zFd (m':=[(33,.agg (cw [w18,w19]).toArray),(27,.agg (cw [w11,w12]).toArray),(22,.int .i64 ((i:Nat):Int)),(21,.int .i64 (((P.length - 1):Nat):Int)),(20,.slice p92 (P.length - 1) c93),(4,.pointer (some ⟨b7,0,none⟩)),(0,.slice p92 ((P).length) c93),(3,.int .i64 0),(2,.pointer (some ⟨b1,0,none⟩))]) (R':=[qF true w18 w19 ((P).getD (P.length - 1) (0:Rat)),qF true w11 w12 (P.getD i 0),qF true su sv (Po.bm P i),slF rQ p92 c93 ((P).take (P.length - 1)),qF true w35 w46 ((0:Int):Rat),slF rQ p92 c93 P,slF rE p1 c1 l1]) ((.of rfl):SubM _ _) (List.Perm.refl _) (List.Perm.refl _) ((.of [1,3,4,5,6,7,8] rfl):SelR _ _ _)<|zCa (X:=Wd×Wd×Nat) (k':=0) (L':=(lb 14 16383)) (fun (u7_1,u7_2,u11_1)=>([(7,.pointer (some ⟨u11_1,0,none⟩)),(22,.int .i64 ((i:Nat):Int)),(21,.int .i64 (((P.length - 1):Nat):Int)),(20,.slice p92 (P.length - 1) c93),(4,.pointer (some ⟨b7,0,none⟩)),(0,.slice p92 ((P).length) c93),(3,.int .i64 0),(2,.pointer (some ⟨b1,0,none⟩))],[boxA u11_1 28 (cw [u7_1,u7_2])],[boxA b13 28 (cw [w11,w12]),boxA b7 28 (cw [su,sv]),boxA b1 28 (cw [wz,wz])],[qF true u7_1 u7_2 ((P.getD i 0) / ((P).getD (P.length - 1) (0:Rat))),qF true w18 w19 ((P).getD (P.length - 1) (0:Rat)),qF true w11 w12 (P.getD i 0),qF true su sv (Po.bm P i),slF rQ p92 c93 ((P).take (P.length - 1)),qF true w35 w46 ((0:Int):Rat),slF rQ p92 c93 P,slF rE p1 c1 l1])) ?_ (fun hD0=> ?_)
   ·
    rintro ⟨u7_1,u7_2,u11_1⟩
    dsimp only [cw]
    refine zU kr<|zd<|ze<|za<|e_ru (zc 0 ty28 rfl rfl (.t4 .nil))<|zk rfl rfl (.c rfl .n) ce108 (zcg (k1:=true) (u1:=u7_1) (v1:=u7_2) (q1:=(P.getD i 0) / ((P).getD (P.length - 1) (0:Rat))) (hl:=by have h1:=hbP i;have h2:=Big.hq_div (P.getD i 0) (y:=P.getD (P.length - 1) 0) hl0;have h3:yc (P.getD (P.length - 1) 0)≤60000000000:=hbP _;omega)) (.c (j:=0) rfl .n) ?_
    rintro ⟨w320,w421⟩ -
    dsimp only [aq,nq,cq]
    refine zi 0 rfl rfl rfl rfl rfl sz28 rfl (.t4 .nil) .z<|zf<|zd<|ze<|za<|e_ru (zc 0 ty28 rfl rfl (.t4 .nil))<|e_ru (zc 2 ty28 rfl rfl (.t4 .nil))<|zM rfl rfl (.c rfl (.c rfl .n)) ce68 (zIb (k1:=true) (u1:=w320) (v1:=w421) (q1:=(Big.qabs ((P.getD i 0) / ((P).getD (P.length - 1) (0:Rat))))) (k2:=true) (u2:=su) (v2:=sv) (q2:=(Po.bm P i)) (hl:=by have h1:=hbP i;have h2:=Big.hq_div (P.getD i 0) (y:=P.getD (P.length - 1) 0) hl0;have h3:yc (P.getD (P.length - 1) 0)≤60000000000:=hbP _;have h4:=Po.bm_hq hbP hl0 i;rw [Big.hq_qabs];omega)) (.c (j:=0) rfl (.c (j:=4) rfl .n))<|e_p (zwa rfl rfl)<|zf<|zd<|zC rfl (fun h42=> ?_) (fun h42=> ?_)
    ·
     refine za<|e_ru (zc 0 ty28 rfl rfl (.t4 .nil))<|zi 2 rfl rfl rfl rfl rfl sz28 rfl (.t4 .nil) (.s (.s .z))<|zf<|zL<|zd<|za<|e_p (zJ (z:=(((i+1):Nat):Int)) rfl rfl (w64 om))<|e_mv rfl<|zf<|zT ((i+1),w320,w421) (show (i+1)≤P.length - 1 from by omega) (by show P.length - 1 - (i+1)<P.length - 1 - i;omega) ((.of rfl):SubM _ _) (ho:=((.of [2,2] rfl):PickO _ _ _)) ((.e (j:=0) rfl (by rw [← Po.bm_step];exact congrArg _ (if_pos (Po.lt_sgq.1 h42)).symm) (.of [5,6,7,8] rfl)):SelR _ _ _)
    ·
     refine zB<|zL<|zd<|za<|e_p (zJ (z:=(((i+1):Nat):Int)) rfl rfl (w64 om))<|e_mv rfl<|zf<|zT ((i+1),su,sv) (show (i+1)≤P.length - 1 from by omega) (by show P.length - 1 - (i+1)<P.length - 1 - i;omega) ((.of rfl):SubM _ _) (ho:=((.of [2,2] rfl):PickO _ _ _)) ((.e (j:=4) rfl (by rw [← Po.bm_step];exact congrArg _ (if_neg (fun k=>h42 (Po.lt_sgq.2 k))).symm) (.of [5,6,7,8] rfl)):SelR _ _ _)
   refine zCa (X:=Wd×Wd×Nat) (k':=2) (L':=(lb 14 4095)) (fun (u7_1,u7_2,u11_1)=>([(7,.pointer (some ⟨u11_1,0,none⟩)),(36,.int .i64 0),(35,.agg (cw [u7_1,u7_2]).toArray),(22,.int .i64 ((i:Nat):Int)),(21,.int .i64 (((P.length - 1):Nat):Int)),(20,.slice p92 (P.length - 1) c93),(4,.pointer (some ⟨b7,0,none⟩)),(0,.slice p92 ((P).length) c93),(3,.int .i64 0),(2,.pointer (some ⟨b1,0,none⟩))],[boxA u11_1 28 (cw [wz,wz])],[boxA b13 28 (cw [w11,w12]),boxA b7 28 (cw [su,sv]),boxA b1 28 (cw [wz,wz])],[qF true u7_1 u7_2 ((P.getD i 0) / ((P).getD (P.length - 1) (0:Rat))),qF true w18 w19 ((P).getD (P.length - 1) (0:Rat)),qF true w11 w12 (P.getD i 0),qF true su sv (Po.bm P i),slF rQ p92 c93 ((P).take (P.length - 1)),qF true w35 w46 ((0:Int):Rat),slF rQ p92 c93 P,slF rE p1 c1 l1])) ?_ (fun hD1=> ?_)
   ·
    rintro ⟨u7_1,u7_2,u11_1⟩
    dsimp only [cw]
    refine zEb 12 kr ?_
    ·
     refine zA kr rfl rfl rfl rfl rfl sz28 rfl (.t4 .nil)<|e_pv 13 rfl rfl (zb rfl) ?_
     exact zla (hD0 (u7_1,u7_2,u11_1)) kr ((.of rfl):SubM _ _) .rfl .rfl ((.of [0,1,2,3,4,5,6,7] rfl):SelR _ _ _)
   refine zCa (X:=Wd×Wd) (k':=3) (L':=(lb 14 2047)) (fun (u7_1,u7_2)=>([(36,.int .i64 0),(35,.agg (cw [u7_1,u7_2]).toArray),(22,.int .i64 ((i:Nat):Int)),(21,.int .i64 (((P.length - 1):Nat):Int)),(20,.slice p92 (P.length - 1) c93),(4,.pointer (some ⟨b7,0,none⟩)),(0,.slice p92 ((P).length) c93),(3,.int .i64 0),(2,.pointer (some ⟨b1,0,none⟩))],[],[boxA b13 28 (cw [w11,w12]),boxA b7 28 (cw [su,sv]),boxA b1 28 (cw [wz,wz])],[qF true u7_1 u7_2 ((P.getD i 0) / ((P).getD (P.length - 1) (0:Rat))),qF true w18 w19 ((P).getD (P.length - 1) (0:Rat)),qF true w11 w12 (P.getD i 0),qF true su sv (Po.bm P i),slF rQ p92 c93 ((P).take (P.length - 1)),qF true w35 w46 ((0:Int):Rat),slF rQ p92 c93 P,slF rE p1 c1 l1])) ?_ (fun hD2=> ?_)
   ·
    rintro ⟨u7_1,u7_2⟩
    dsimp only [cw]
    refine zEb 11 kr ?_
    ·
     refine zUa rfl rfl rfl rfl (zq zr28 rfl) (fun u11_1 _=> ?_)
     exact zla (hD1 (u7_1,u7_2,u11_1)) kr ((.of rfl):SubM _ _) .rfl .rfl ((.of [0,1,2,3,4,5,6,7] rfl):SelR _ _ _)
   refine zCa (X:=Nat) (k':=6) (L':=(lb 14 2175)) (fun u11_1=>([(7,.pointer (some ⟨u11_1,0,none⟩)),(33,.agg (cw [w18,w19]).toArray),(27,.agg (cw [w11,w12]).toArray),(22,.int .i64 ((i:Nat):Int)),(21,.int .i64 (((P.length - 1):Nat):Int)),(20,.slice p92 (P.length - 1) c93),(4,.pointer (some ⟨b7,0,none⟩)),(0,.slice p92 ((P).length) c93),(3,.int .i64 0),(2,.pointer (some ⟨b1,0,none⟩))],[boxA u11_1 28 (cw [wz,wz])],[boxA b13 28 (cw [w11,w12]),boxA b7 28 (cw [su,sv]),boxA b1 28 (cw [wz,wz])],[qF true w18 w19 ((P).getD (P.length - 1) (0:Rat)),qF true w11 w12 (P.getD i 0),qF true su sv (Po.bm P i),slF rQ p92 c93 ((P).take (P.length - 1)),qF true w35 w46 ((0:Int):Rat),slF rQ p92 c93 P,slF rE p1 c1 l1])) ?_ (fun hD3=> ?_)
   ·
    rintro u11_1
    dsimp only [cw]
    refine zEb 7 kr ?_
    ·
     refine zu rfl rfl rfl rfl (.c rfl (.c rfl .n)) ce60 (zOa (k1:=true) (u1:=w11) (v1:=w12) (q1:=(P.getD i 0)) (k2:=true) (u2:=w18) (v2:=w19) (q2:=((P).getD (P.length - 1) (0:Rat))) (hl:=by have h1:=hbP i;have h2:yc (P.getD (P.length - 1) 0)≤60000000000:=hbP _;omega) (hy:=by exact hl0)) (.c (j:=1) rfl (.c (j:=0) rfl .n)) ?_
     rintro ⟨u7_1,u7_2⟩ -
     dsimp only [aq,nq,cq]
     refine e_dm 8 rfl rfl rfl<|e_pv 9 rfl rfl (zm rfl rfl)<|e_pv 10 rfl rfl (zm rfl rfl) ?_
     exact zla (hD1 (u7_1,u7_2,u11_1)) kr ((.of rfl):SubM _ _) .rfl .rfl ((.of [0,1,2,3,4,5,6,7] rfl):SelR _ _ _)
   refine zrd 7 11 kr ?_ ?_
   ·
    refine zu rfl rfl rfl rfl (.c rfl (.c rfl .n)) ce60 (zOa (k1:=true) (u1:=w11) (v1:=w12) (q1:=(P.getD i 0)) (k2:=true) (u2:=w18) (v2:=w19) (q2:=((P).getD (P.length - 1) (0:Rat))) (hl:=by have h1:=hbP i;have h2:yc (P.getD (P.length - 1) 0)≤60000000000:=hbP _;omega) (hy:=by exact hl0)) (.c (j:=1) rfl (.c (j:=0) rfl .n)) ?_
    rintro ⟨u7_1,u7_2⟩ -
    dsimp only [aq,nq,cq]
    refine e_dm 8 rfl rfl rfl<|e_pv 9 rfl rfl (zm rfl rfl)<|e_pv 10 rfl rfl (zm rfl rfl) ?_
    exact zla (hD2 (u7_1,u7_2)) kr ((.of rfl):SubM _ _) .rfl .rfl ((.of [0,1,2,3,4,5,6,7] rfl):SelR _ _ _)
   ·
    refine zUa rfl rfl rfl rfl (zq zr28 rfl) (fun u11_1 _=> ?_)
    exact zla (hD3 u11_1) kr ((.of rfl):SubM _ _) .rfl .rfl ((.of [0,1,2,3,4,5,6] rfl):SelR _ _ _)
  ·
   refine zca<|zh<|zh<|zt<|zd<|ze<|zta (.c (i:=1) rfl (.c (i:=0) rfl .n))<|zW (OW:=[boxA b1 28 (cw [wz,wz])]) (O:=[boxA b7 28 (cw [su,sv])]) 3 mixed (.then .ret) kr<|e_uw 0 rfl rfl (zc 1 ty28 rfl rfl (.t4 .nil))<|e_one 1 (zu rfl rfl rfl rfl (.c rfl .n) ce59 (zmb (z:=1) (hz:=by first|omega|rfl|assumption|decide)) (.n) ?_)
   rintro ⟨w322,w423⟩ -
   dsimp only [aq,nq,cq]
   refine e_one 2 (zu rfl rfl rfl rfl (.c rfl (.c rfl .n)) ce47 (zSb (k1:=true) (u1:=su) (v1:=sv) (q1:=(Po.bm P i)) (k2:=true) (u2:=w322) (v2:=w423) (q2:=((1:Int):Rat)) (hl:=by have h4:=Po.bm_hq hbP hl0 i;have h5:yc ((1:Int):Rat)=1:=dd;omega)) (.c (j:=1) rfl (.c (j:=0) rfl .n)) ?_)
   rintro ⟨w324,w425⟩ -
   dsimp only [aq,nq,cq]
   refine e_one 3 (zA kr rfl rfl rfl rfl rfl sz28 rfl (.t4 .nil) ?_)
   refine e_pv 4 rfl rfl (zb rfl)<|zU kr<|zd<|zE ?_
   have hi9:i=P.length - 1:=by omega
   exact zua Tryz.results78 (w324,w425) trivial (zn 0 ty28 rfl rfl (.t4 .nil)) (zo rfl) rfl (ho:=(.n:PickO _ _ _)) ((.e (j:=0) rfl (by rw [hi9];rfl) .n):SelR _ _ _)
theorem zXc {u1:Wd} {v1:Wd} {x1:Rat} {u2:Wd} {v2:Wd} {x2:Rat} (hx1:yc x1≤100000000000) (hx2:yc x2≤100000000000):Con yd 71 [.agg #[u1.b,u1.l,v1.b,v1.l],.agg #[u2.b,u2.l,v2.b,v2.l]] [] [qF true u1 v1 x1,qF true u2 v2 x2] (Y:=Wd×Wd) (fun y=>True) (fun y=> .agg #[y.1.b,y.1.l,y.2.b,y.2.l]) (fun y=>[]) (fun y=>[qF true y.1 y.2 (Po.mid x1 x2)]):=by
 refine zl Tryz.func71 rfl rfl rfl (fun c=> ?_)
 show RunC _ _ _ _ _ [(0,.agg #[u1.b,u1.l,v1.b,v1.l]),(1,.agg #[u2.b,u2.l,v2.b,v2.l])] [] [qF true u1 v1 x1,qF true u2 v2 x2]
 refine ze<|za<|zH rfl rfl (zN rfl rfl) (fun b1=> ?_)
 refine zH rfl rfl (zN rfl rfl) (fun b2=> ?_)
 refine zH rfl rfl (zq zr28 rfl) (fun b3=> ?_)
 refine zf<|zd<|ze<|za<|zk rfl rfl (.c rfl (.c rfl .n)) ce104 (zvf (z1:=1) (z2:=2) (hz1:=by first|omega|rfl|assumption|decide) (hz2:=by first|omega|rfl|assumption|decide) (hy:=by first|omega|rfl|assumption|decide)) (.n) ?_
 rintro ⟨w34,w45⟩ -
 dsimp only [aq,nq,cq]
 refine e_mv rfl<|e_p (zm rfl rfl)<|e_p (zm rfl rfl)<|zH rfl rfl (zq zr28 rfl) (fun b6=> ?_)
 refine zi 0 rfl rfl rfl rfl rfl sz28 rfl (.t4 .nil) .z<|e_p (zb rfl)<|zf<|zd<|ze<|zta (.c (i:=1) rfl (.c (i:=0) rfl (.c (i:=0) rfl (.c (i:=0) rfl .n))))<|zW (OW:=[boxA b3 28 (cw [wz,wz])]) (O:=[boxA b6 28 (cw [w34,w45]),boxA b2 28 (cw [u2,v2]),boxA b1 28 (cw [u1,v1])]) 5 mixed (.then .ret) kr<|e_uw 0 rfl rfl (zc 3 ty28 rfl rfl (.t4 .nil))<|e_uw 1 rfl rfl (zc 2 ty28 rfl rfl (.t4 .nil))<|e_uw 3 rfl rfl (zc 1 ty28 rfl rfl (.t4 .nil))<|e_one 2 (zu rfl rfl rfl rfl (.c rfl (.c rfl .n)) ce47 (zSb (k1:=true) (u1:=u1) (v1:=v1) (q1:=x1) (k2:=true) (u2:=u2) (v2:=v2) (q2:=x2) (hl:=by first|omega|rfl|assumption|decide)) (.c (j:=1) rfl (.c (j:=2) rfl .n)) ?_)
 rintro ⟨w37,w48⟩ -
 dsimp only [aq,nq,cq]
 refine e_one 4 (zu rfl rfl rfl rfl (.c rfl (.c rfl .n)) ce51 (zDc (k1:=true) (u1:=w37) (v1:=w48) (q1:=x1+x2) (k2:=true) (u2:=w34) (v2:=w45) (q2:=Rat.divInt 1 2) (hl:=by have h1:=Big.hq_add x1 x2;have h5:yc (Rat.divInt 1 2)=1:=(by decide +kernel);omega)) (.c (j:=0) rfl (.c (j:=1) rfl .n)) ?_)
 rintro ⟨w39,w410⟩ -
 dsimp only [aq,nq,cq]
 refine e_one 5 (zA kr rfl rfl rfl rfl rfl sz28 rfl (.t4 .nil) ?_)
 refine zU kr<|zd<|zE ?_
 exact zw Tryz.results71 (w39,w410) trivial (zn 0 ty28 rfl rfl (.t4 .nil)) rfl (ho:=(.n:PickO _ _ _)) ((.c (j:=0) rfl .n):SelR _ _ _)
theorem zUe {p1:Option Addr} {n1:Nat} {c1:Nat} {l1:List (Option Rat)} {u1:Wd} {v1:Wd} {x1:Rat} {u2:Wd} {v2:Wd} {x2:Rat} (hn1:l1.length=n1) (hm1:n1≤190) (hok:Po.sok (Po.vals l1)) (hne:(Po.sturm (Po.vals l1)).length≠0) (hlS:(Po.sturm (Po.vals l1)).length≤400) (hx1:yc x1≤100000000000) (hx2:yc x2≤100000000000) (hv1:Po.vok (Po.sturm (Po.vals l1)) x1) (hv2:Po.vok (Po.sturm (Po.vals l1)) x2) (hle:¬x2<x1):Con yd 45 [.slice p1 n1 c1,.agg #[u1.b,u1.l,v1.b,v1.l],.agg #[u2.b,u2.l,v2.b,v2.l]] [] [slF rE p1 c1 l1,qF true u1 v1 x1,qF true u2 v2 x2] (Y:=Unit) (fun y=>True) (fun y=> .tuple #[.int .i64 (Po.bt (Po.sturm (Po.vals l1)) x1 x2),.int .i64 0]) (fun y=>[]) (fun y=>[]):=by
 refine zl Tryz.func45 rfl rfl rfl (fun c=> ?_)
 show RunC _ _ _ _ _ [(0,.slice p1 n1 c1),(1,.agg #[u1.b,u1.l,v1.b,v1.l]),(2,.agg #[u2.b,u2.l,v2.b,v2.l])] [] [slF rE p1 c1 l1,qF true u1 v1 x1,qF true u2 v2 x2]
 refine zP 0 rfl (fun hL0=> ?_)
 refine ze<|za<|zH rfl rfl (zN rfl rfl) (fun b1=> ?_)
 refine zH rfl rfl (zN rfl rfl) (fun b2=> ?_)
 refine e_p (zb rfl)<|e_p (zb rfl)<|zf<|zd<|ze<|za<|e_mv rfl<|zk rfl rfl (.c rfl .n) ce67 (zvc (p1:=p1) (n1:=n1) (c1:=c1) (l1:=l1) (hn1:=ass) (hm1:=ass) (hok:=ass)) (.c (j:=0) rfl .n) ?_
 rintro ⟨p93,c94⟩ -
 dsimp only [aq,nq,cq]
 refine e_p (zb rfl)<|zf<|zd<|ze<|ze<|za<|e_mv rfl<|e_p (zD ye rfl)<|e_p (zna rfl rfl)<|zf<|zd<|zC rfl (fun h13=> ?_) (fun h13=> ?_)
 ·
  omega
 ·
  refine zB<|zd<|ze<|ze<|za<|e_ru (zc 1 ty28 rfl rfl (.t4 .nil))<|e_ru (zc 0 ty28 rfl rfl (.t4 .nil))<|zM rfl rfl (.c rfl (.c rfl .n)) ce68 (zIb (k1:=true) (u1:=u1) (v1:=v1) (q1:=x1) (k2:=true) (u2:=u2) (v2:=v2) (q2:=x2) (hl:=by first|omega|rfl|assumption|decide)) (.c (j:=2) rfl (.c (j:=3) rfl .n))<|e_p (zwa rfl rfl)<|zf<|zd<|zC rfl (fun h17=> ?_) (fun h17=> ?_)
  ·
   exact absurd (Po.lt_sgq.1 h17) hle
  ·
   refine zB<|zd<|ze<|za<|e_mv rfl<|e_ru (zc 1 ty28 rfl rfl (.t4 .nil))<|e_ru (zc 0 ty28 rfl rfl (.t4 .nil))<|zM rfl rfl (.c rfl (.c rfl (.c rfl .n))) ce70 (zpc (pL:=p93) (nL:=(Po.sturm (Po.vals l1)).length) (cL:=c94) (L:=(Po.sturm (Po.vals l1))) (u1:=u1) (v1:=v1) (x1:=x1) (u2:=u2) (v2:=v2) (x2:=x2) (hnL:=by first|omega|rfl|assumption|decide) (hmL:=ass) (hx1:=ass) (hx2:=ass) (hv1:=ass) (hv2:=ass)) (.c (j:=0) rfl (.c (j:=2) rfl (.c (j:=3) rfl .n)))<|e_p (zb rfl)<|e_p (zb rfl)<|zf<|zd<|zE ?_
   exact zua Tryz.results45 () trivial (zo rfl) (zo rfl) rfl (ho:=(.n:PickO _ _ _)) (.n:SelR _ _ _)
theorem zYc {p1:Option Addr} {n1:Nat} {c1:Nat} {l1:List Int} (hn1:l1.length=n1) (hm1:n1≤1000):Con yd 40 [.slice p1 n1 c1] [] [slF (rI .i64) p1 c1 l1] (Y:=(Option Addr)×Nat) (fun y=>True) (fun y=> .slice (y.1) ((Po.ofL l1).length) (y.2)) (fun y=>[]) (fun y=>[slF rQ (y.1) (y.2) (Po.ofL l1)]):=by
 refine zl Tryz.func40 rfl rfl rfl (fun c=> ?_)
 show RunC _ _ _ _ _ [(0,.slice p1 n1 c1)] [] [slF (rI .i64) p1 c1 l1]
 refine zP 0 rfl (fun hL0=> ?_)
 refine zIa 0 rfl (fun hE0=> ?_)
 refine ze<|za<|e_p (zb rfl)<|zf<|zd<|ze<|za<|e_p (zb rfl)<|zf<|zd<|ze<|ze<|zAc 28 rQ<|za<|e_mv rfl<|e_p (zD yg rfl)<|e_mv rfl<|zf<|zd<|zv<|zfa (X:=Nat×(Option Addr)×Nat×(List Rat)) (fun x:Nat×(Option Addr)×Nat×(List Rat)=>x.1≤n1∧x.2.2.2=Po.ofL (l1.take x.1)) (fun x=>[(3,.slice (x.2.1) (x.2.2.2.length) (x.2.2.1)),(8,.int .i64 ((x.1:Nat):Int)),(7,.int .i64 ((n1:Nat):Int)),(6,.slice p1 n1 c1),(2,.slice none 0 0)]) (fun x=>[rowA 28 rQ (x.2.1) (x.2.2.1) (x.2.2.2)]) (fun x=>[slF (rI .i64) p1 c1 l1]) (fun x:Nat×(Option Addr)×Nat×(List Rat)=>n1 - x.1) (0,none,0,([]:List Rat)) (show 0≤n1∧([]:List Rat)=Po.ofL (l1.take 0) from by exact ⟨Nat.zero_le _,rfl⟩) ((.e rfl (by first|rfl|(congr 1;omega)|simp_all) (.e rfl (by first|rfl|(congr 1;omega)|simp_all) (.of rfl))):SubM _ _) (ho:=((.e (i:=0) rfl (by first|rfl|(congr 1;omega)|simp_all) .n):PickO _ _ _)) ((.c (j:=0) rfl .n):SelR _ _ _) ?_
 rintro ⟨i,pR,cR,A⟩ hI
 replace hI:i≤n1∧A=Po.ofL (l1.take i):=hI
 try dsimp only
 obtain ⟨hi,hA⟩:=hI
 have hAl:A.length=i:=by rw [hA];unfold Po.ofL;rw [List.length_map,List.length_take];omega
 refine ze<|za<|e_p (zY rfl rfl)<|zf<|zd<|ze<|zC rfl (fun h9=> ?_) (fun h9=> ?_)
 ·
  refine zB<|zd<|ze<|zv<|ze<|za<|zX (x0:=(l1.getD i 0)) 0 i rfl yg sz3 rfl rfl rfl (by first|rfl|assumption|(simp;done)|omega) rfl rfl (gD (d:=0) om) (fun b1 o2 hok3=> ?_)
  replace hok3:=zDa.1 hok3
  refine e_ru (zr (j:=0) 0 ty3 rfl rfl rfl rfl)<|e_p (zb rfl)<|zf<|zd<|za<|e_mv rfl<|e_mv rfl<|zk rfl rfl (.c rfl .n) ce42 (zPa (z:=(l1.getD i 0)) (hz:=cbo)) (.n) ?_
  rintro ⟨w34,w45⟩ -
  dsimp only [aq,nq,cq]
  refine zqa rfl rfl (zoa (r:=rQ) (k:=1) ya inf28 rfl dd dd dd (.c (x:=(((l1.getD i 0):Int):Rat)) (cs:=[w34.b,w34.l,w45.b,w45.l]) (w34,w45) rfl rfl rfl (fun g hr=>Holds.get 0 rfl hr) .n)) (fun b6 _=> ?_)
  refine zV 0 rfl .z<|zya 1 rfl rfl rfl (zma 0 rfl ya inf28 dd rfl rfl (by first|rfl|assumption|(simp;done)|omega) rfl (by first|rfl|assumption|(simp;done)|omega) om om) (fun _=>(.s .z)) ?_
  rintro ⟨p7,c8⟩ -
  dsimp only [aq,nq,cq]
  refine e_p (zb rfl)<|zf<|zL<|zd<|za<|e_p (zJ (z:=(((i+1):Nat):Int)) rfl rfl (w64 om))<|e_mv rfl<|zf<|zT ((i+1),p7,c8,(A++([(((l1.getD i 0):Int):Rat)]))) (show (i+1)≤n1∧(A++([(((l1.getD i 0):Int):Rat)]))=Po.ofL (l1.take (i+1)) from by exact ⟨by omega,by rw [hA];exact Po.ofL_take om⟩) (by show n1 - (i+1)<n1 - i;omega) ((.e rfl (by simp) (.of rfl)):SubM _ _) (ho:=((.c (i:=1) rfl .n):PickO _ _ _)) ((.c (j:=3) rfl .n):SelR _ _ _)
 ·
  refine zca<|zh<|zh<|zt<|zd<|ze<|za<|e_mv rfl<|e_p (zb rfl)<|zf<|zd<|zE<|zYa 0 rfl .z ?_
  have hv9:A=Po.ofL l1:=by rw [hA,List.take_of_length_le om]
  exact zw Tryz.results40 (pR,cR) trivial (zo rfl) (by rw [← hv9]) (ho:=(.n:PickO _ _ _)) ((.e (j:=0) rfl (by rw [← hv9]) .n):SelR _ _ _)
theorem zNb {u1:Wd} {u2:Wd} {u3:Wd} {u4:Wd} {v1:Wd} {v2:Wd} {v3:Wd} {v4:Wd} {q1:Rat} {q2:Rat} {q3:Rat} {q4:Rat} (hl1:yc q1+yc q3+1≤1099511627776) (hl2:yc q2+yc q4+1≤1099511627776):Con yd 39 [.agg #[u1.b,u1.l,v1.b,v1.l,u2.b,u2.l,v2.b,v2.l],.agg #[u3.b,u3.l,v3.b,v3.l,u4.b,u4.l,v4.b,v4.l]] [] [qF true u1 v1 q1,qF true u2 v2 q2,qF true u3 v3 q3,qF true u4 v4 q4] (Y:=Unit) (fun y=>True) (fun y=> .bool (decide (q1=q3∧q2=q4))) (fun y=>[]) (fun y=>[]):=by
 refine zl Tryz.func39 rfl rfl rfl (fun c=> ?_)
 show RunC _ _ _ _ _ [(0,.agg #[u1.b,u1.l,v1.b,v1.l,u2.b,u2.l,v2.b,v2.l]),(1,.agg #[u3.b,u3.l,v3.b,v3.l,u4.b,u4.l,v4.b,v4.l])] [] [qF true u1 v1 q1,qF true u2 v2 q2,qF true u3 v3 q3,qF true u4 v4 q4]
 refine ze<|za<|zH rfl rfl (zN rfl rfl) (fun b1=> ?_)
 refine zH rfl rfl (zN rfl rfl) (fun b2=> ?_)
 refine e_p (zb rfl)<|zf<|zd<|zQa (X:=Unit) (fun x=>True) (fun x=>[(4,.bool (decide ((q1=q3)∧(q2=q4))))]) (fun x=>[boxA b2 48 (cw [u3,v3,u4,v4]),boxA b1 48 (cw [u1,v1,u2,v2])]) (fun x=>[qF true u1 v1 q1,qF true u2 v2 q2,qF true u3 v3 q3,qF true u4 v4 q4]) ?_ ?_
 ·
  refine za<|e_p (zg yb rfl sz28 rfl rfl)<|e_ru (zc 1 ty28 rfl rfl (.t4 .nil))<|e_p (zg yb rfl sz28 rfl rfl)<|e_ru (zc 0 ty28 rfl rfl (.t4 .nil))<|zM rfl rfl (.c rfl (.c rfl .n)) ce22 (zAb (u1:=u1) (v1:=v1) (q1:=q1) (u2:=u3) (v2:=v3) (q2:=q3) (hl:=ass)) (.c (j:=0) rfl (.c (j:=2) rfl .n))<|zS rfl rfl (zaa rfl) (fun h3=> ?_) (fun h3=> ?_)
  ·
   refine e_p (zg yb rfl sz28 rfl rfl)<|e_ru (zc 1 ty28 rfl rfl (.s4 (.t4 .nil)))<|e_p (zg yb rfl sz28 rfl rfl)<|e_ru (zc 0 ty28 rfl rfl (.s4 (.t4 .nil)))<|zM rfl rfl (.c rfl (.c rfl .n)) ce22 (zAb (u1:=u2) (v1:=v2) (q1:=q2) (u2:=u4) (v2:=v4) (q2:=q4) (hl:=ass)) (.c (j:=1) rfl (.c (j:=3) rfl .n))<|e_p (zy rfl rfl)<|e_p (zb rfl)<|zf ?_
   exact zka () (show True from by first|trivial|omega|simp_all) ((.e rfl (congrArg Value.bool cbu) .n):SubM _ _) (ho:=((.of [0,0] rfl):PickO _ _ _)) ((.of [0,1,2,3] rfl):SelR _ _ _)
  ·
   refine e_no<|e_no<|e_no<|e_no<|e_no<|e_p (zy rfl rfl)<|e_p (zb rfl)<|zf ?_
   exact zka () (show True from by first|trivial|omega|simp_all) ((.e rfl (congrArg Value.bool cbu) .n):SubM _ _) (ho:=((.of [0,0] rfl):PickO _ _ _)) ((.of [0,1,2,3] rfl):SelR _ _ _)
 ·
  rintro ⟨⟩ -
  try dsimp only [cw]
  refine zE ?_
  exact zw Tryz.results39 () trivial (zo rfl) rfl (ho:=(.n:PickO _ _ _)) (.n:SelR _ _ _)
end Go.Proofs.YtbiaimgafknkmaaGreat.Sp
namespace Go.Proofs.YtbiaimgafknkmaaGreat.Sp
open Go
set_option linter.unusedVariables false
set_option maxRecDepth 100000
set_option maxHeartbeats 8000000
theorem zdg {pL:Option Addr} {nL:Nat} {cL:Nat} {L:List (List Rat)} {bl:Nat} {bo:Nat} {bd:Nat} {n:Nat} {A:List (Rat×Rat)} {u1:Wd} {v1:Wd} {x1:Rat} {u2:Wd} {v2:Wd} {x2:Rat} (hnL:L.length=nL) (hmL:nL≤400) (hA:A.length+(Po.iso L (n+1) x1 x2).length≤1000000) (hk:Po.isk L (n+1) x1 x2) (ih:∀(A:List (Rat×Rat)) (u1 v1:Wd) (x1:Rat) (u2 v2:Wd) (x2:Rat) (hA:A.length+(Po.iso L n x1 x2).length≤1000000) (hk:Po.isk L n x1 x2),Con yd 79 [.agg #[u1.b,u1.l,v1.b,v1.l],.agg #[u2.b,u2.l,v2.b,v2.l],.pointer (some ⟨bl,0,none⟩),.pointer (some ⟨bo,0,none⟩),.pointer (some ⟨bd,0,none⟩)] [orA bo 60 48 rR A] [atF bl 0 [.slice pL nL cL],atF bd 0 [.func (.func 79) #[] #[.pointer (some ⟨bl,0,none⟩),.pointer (some ⟨bo,0,none⟩),.pointer (some ⟨bd,0,none⟩)]],slF (rS rQ) pL cL L,qF true u1 v1 x1,qF true u2 v2 x2] (Y:=Unit) (fun y=>True) (fun y=> .tuple #[]) (fun y=>[orA bo 60 48 rR (A++(Po.iso L n x1 x2))]) (fun y=>[])):Con yd 79 [.agg #[u1.b,u1.l,v1.b,v1.l],.agg #[u2.b,u2.l,v2.b,v2.l],.pointer (some ⟨bl,0,none⟩),.pointer (some ⟨bo,0,none⟩),.pointer (some ⟨bd,0,none⟩)] [orA bo 60 48 rR A] [atF bl 0 [.slice pL nL cL],atF bd 0 [.func (.func 79) #[] #[.pointer (some ⟨bl,0,none⟩),.pointer (some ⟨bo,0,none⟩),.pointer (some ⟨bd,0,none⟩)]],slF (rS rQ) pL cL L,qF true u1 v1 x1,qF true u2 v2 x2] (Y:=Unit) (fun y=>True) (fun y=> .tuple #[]) (fun y=>[orA bo 60 48 rR (A++(Po.iso L (n+1) x1 x2))]) (fun y=>[]):=by
 refine zl Tryz.func79 rfl rfl rfl (fun c=> ?_)
 show RunC _ _ _ _ _ [(0,.agg #[u1.b,u1.l,v1.b,v1.l]),(1,.agg #[u2.b,u2.l,v2.b,v2.l]),(2,.pointer (some ⟨bl,0,none⟩)),(3,.pointer (some ⟨bo,0,none⟩)),(4,.pointer (some ⟨bd,0,none⟩))] [orA bo 60 48 rR A] [atF bl 0 [.slice pL nL cL],atF bd 0 [.func (.func 79) #[] #[.pointer (some ⟨bl,0,none⟩),.pointer (some ⟨bo,0,none⟩),.pointer (some ⟨bd,0,none⟩)]],slF (rS rQ) pL cL L,qF true u1 v1 x1,qF true u2 v2 x2]
 refine zP 2 rfl (fun hL2=> ?_)
 obtain ⟨⟨hx1,hx2,hv1,hv2⟩,hr⟩:=hk
 refine ze<|za<|zH rfl rfl (zN rfl rfl) (fun b1=> ?_)
 refine zH rfl rfl (zN rfl rfl) (fun b2=> ?_)
 refine zf<|zd<|ze<|za<|e_ru (zr (j:=0) 0 ty76 rfl rfl rfl rfl)<|e_ru (zc 1 ty28 rfl rfl (.t4 .nil))<|e_ru (zc 0 ty28 rfl rfl (.t4 .nil))<|zM rfl rfl (.c rfl (.c rfl (.c rfl .n))) ce70 (zpc (pL:=pL) (nL:=nL) (cL:=cL) (L:=L) (u1:=u1) (v1:=v1) (x1:=x1) (u2:=u2) (v2:=v2) (x2:=x2) (hnL:=ass) (hmL:=ass) (hx1:=by first|omega|rfl|assumption|decide) (hx2:=by first|omega|rfl|assumption|decide) (hv1:=by first|omega|rfl|assumption|decide) (hv2:=by first|omega|rfl|assumption|decide)) (.c (j:=2) rfl (.c (j:=3) rfl (.c (j:=4) rfl .n)))<|zf<|zd<|zv<|ze<|za<|e_p (zna rfl rfl)<|e_p (zb rfl)<|zf<|zd<|zC rfl (fun h23=> ?_) (fun h23=> ?_)
 ·
  have hmo:=Po.iso_none (n:=n+1) h23
  refine zB<|zL<|zog<|zdf (fun w mm=>mm.orCast (l2:=(A++Po.iso L (n+1) x1 x2)) 2 rfl (by rw [hmo,List.append_nil])) ?_
  dsimp only [List.eraseIdx]
  exact zXe Tryz.results79 () trivial rfl (ho:=((.c (i:=0) rfl .n):PickO _ _ _)) (.n:SelR _ _ _)
 ·
  refine ze<|za<|e_p (zna rfl rfl)<|e_p (zb rfl)<|zf<|zd<|zC rfl (fun h25=> ?_) (fun h25=> ?_)
  ·
   have hmo:=Po.iso_one (n:=n) h25
   have hml:(Po.iso L (n+1) x1 x2).length=1:=by rw [hmo];rfl
   refine zig (fun w mm=>mm.orOpen 2 rfl) ?_
   rintro ⟨p3,c4⟩ -
   dsimp only [List.eraseIdx]
   refine za<|e_ru (zj 0 ty60 rfl rfl rfl)<|e_ru (zc 3 ty28 rfl rfl (.t4 .nil))<|e_ru (zc 2 ty28 rfl rfl (.t4 .nil))<|e_p (zI zr48 rfl yb (.c sz28 (.c sz28 .n)) (.c rfl (.c rfl .n)) (.c rfl rfl rfl (.t4 .nil) (.c rfl rfl rfl (.s4 (.t4 .nil)) .n)))<|zqa rfl rfl (zoa (r:=rR) (k:=1) yj inf48 rfl dd dd dd (.c (x:=(x1,x2)) (cs:=[u1.b,u1.l,v1.b,v1.l,u2.b,u2.l,v2.b,v2.l]) (u1,v1,u2,v2) rfl rfl rfl (fun g hr=>⟨Holds.get 3 rfl hr,Holds.get 4 rfl hr⟩) .n)) (fun b6 _=> ?_)
   refine zV 0 rfl .z<|zya 2 rfl rfl rfl (zma 0 rfl yj inf48 dd rfl rfl (by first|rfl|assumption|(simp;done)|omega) rfl (by first|rfl|assumption|(simp;done)|omega) om om) (fun _=>(.s (.s .z))) ?_
   rintro ⟨p7,c8⟩ -
   dsimp only [aq,nq,cq]
   refine zi 1 rfl rfl rfl rfl rfl sz60 rfl (.take .nil) (.s .z)<|zf<|zL<|zog<|zdf (fun w mm=>mm.orClose 1 1 rfl rfl (by simp)) ?_
   dsimp only [List.eraseIdx]
   refine zdf (fun w mm=>mm.orCast (l2:=(A++Po.iso L (n+1) x1 x2)) 0 rfl (by rw [hmo])) ?_
   dsimp only [List.eraseIdx]
   exact zXe Tryz.results79 () trivial rfl (ho:=((.c (i:=0) rfl .n):PickO _ _ _)) (.n:SelR _ _ _)
  ·
   obtain ⟨hr1,hr2⟩:=hr h23 h25
   have hmo:=Po.iso_more (n:=n) h23 h25
   have hml:(Po.iso L (n+1) x1 x2).length=(Po.iso L n x1 (Po.mid x1 x2)).length+(Po.iso L n (Po.mid x1 x2) x2).length:=by rw [hmo,List.length_append]
   refine ze<|za<|e_ru (zc 1 ty28 rfl rfl (.t4 .nil))<|e_ru (zc 0 ty28 rfl rfl (.t4 .nil))<|zk rfl rfl (.c rfl (.c rfl .n)) ce71 (zXc (u1:=u1) (v1:=v1) (x1:=x1) (u2:=u2) (v2:=v2) (x2:=x2) (hx1:=by first|omega|rfl|assumption|decide) (hx2:=by first|omega|rfl|assumption|decide)) (.c (j:=3) rfl (.c (j:=4) rfl .n)) ?_
   rintro ⟨w39,w410⟩ -
   dsimp only [aq,nq,cq]
   refine zH rfl rfl (zq zr28 rfl) (fun b11=> ?_)
   refine zi 0 rfl rfl rfl rfl rfl sz28 rfl (.t4 .nil) .z<|zf<|zd<|ze<|za<|e_ru (zr (j:=0) 2 ty82 rfl rfl rfl rfl)<|e_ru (zc 2 ty28 rfl rfl (.t4 .nil))<|e_ru (zc 0 ty28 rfl rfl (.t4 .nil))<|l_perm (zba (i:=3) rfl)<|zce (A:=[orA bo 60 48 rR A]) (F:=[boxA b11 28 [w39.b,w39.l,w410.b,w410.l],boxA b2 28 [u2.b,u2.l,v2.b,v2.l],boxA b1 28 [u1.b,u1.l,v1.b,v1.l]]) (first:=[]) (cap:=[.pointer (some ⟨bl,0,none⟩),.pointer (some ⟨bo,0,none⟩),.pointer (some ⟨bd,0,none⟩)]) rfl rfl rfl (.c rfl (.c rfl .n)) ce79 (ih (A:=A) (u1:=u1) (v1:=v1) (x1:=x1) (u2:=w39) (v2:=w410) (x2:=(Po.mid x1 x2)) (hA:=by first|omega|rfl|assumption|decide) (hk:=by first|omega|rfl|assumption|decide)) (.c (j:=1) rfl (.c (j:=2) rfl (.c (j:=3) rfl (.c (j:=4) rfl (.c (j:=0) rfl .n))))) ?_
   rintro ⟨⟩ -
   dsimp only [aq,nq,cq]
   refine zf<|zd<|za<|e_ru (zr (j:=0) 2 ty82 rfl rfl rfl rfl)<|e_ru (zc 1 ty28 rfl rfl (.t4 .nil))<|e_ru (zc 2 ty28 rfl rfl (.t4 .nil))<|zce (A:=[orA bo 60 48 rR (A++(Po.iso L n x1 (Po.mid x1 x2)))]) (F:=[boxA b11 28 [w39.b,w39.l,w410.b,w410.l],boxA b2 28 [u2.b,u2.l,v2.b,v2.l],boxA b1 28 [u1.b,u1.l,v1.b,v1.l]]) (first:=[]) (cap:=[.pointer (some ⟨bl,0,none⟩),.pointer (some ⟨bo,0,none⟩),.pointer (some ⟨bd,0,none⟩)]) rfl rfl rfl (.c rfl (.c rfl .n)) ce79 (ih (A:=(A++(Po.iso L n x1 (Po.mid x1 x2)))) (u1:=w39) (v1:=w410) (x1:=(Po.mid x1 x2)) (u2:=u2) (v2:=v2) (x2:=x2) (hA:=by rw [List.length_append];omega) (hk:=by first|omega|rfl|assumption|decide)) (.c (j:=1) rfl (.c (j:=2) rfl (.c (j:=3) rfl (.c (j:=0) rfl (.c (j:=5) rfl .n))))) ?_
   rintro ⟨⟩ -
   dsimp only [aq,nq,cq]
   refine zf<|zL<|zog<|zdf (fun w mm=>mm.orCast (l2:=(A++Po.iso L (n+1) x1 x2)) 0 rfl (by rw [hmo,List.append_assoc])) ?_
   dsimp only [List.eraseIdx]
   exact zXe Tryz.results79 () trivial rfl (ho:=((.c (i:=0) rfl .n):PickO _ _ _)) (.n:SelR _ _ _)
theorem zBg {pL:Option Addr} {nL:Nat} {cL:Nat} {L:List (List Rat)} {bl:Nat} {bo:Nat} {bd:Nat} {n:Nat} {A:List (Rat×Rat)} {u1:Wd} {v1:Wd} {x1:Rat} {u2:Wd} {v2:Wd} {x2:Rat} (hnL:L.length=nL) (hmL:nL≤400) (hA:A.length+(Po.iso L n x1 x2).length≤1000000) (hk:Po.isk L n x1 x2):Con yd 79 [.agg #[u1.b,u1.l,v1.b,v1.l],.agg #[u2.b,u2.l,v2.b,v2.l],.pointer (some ⟨bl,0,none⟩),.pointer (some ⟨bo,0,none⟩),.pointer (some ⟨bd,0,none⟩)] [orA bo 60 48 (rR) (A)] [atF bl (0) [.slice (pL) (nL) (cL)],atF bd (0) [.func (.func 79) #[] #[.pointer (some ⟨bl,0,none⟩),.pointer (some ⟨bo,0,none⟩),.pointer (some ⟨bd,0,none⟩)]],slF (rS (rQ)) (pL) (cL) (L),qF true u1 v1 (x1),qF true u2 v2 (x2)] (Y:=Unit) (fun y=>True) (fun y=> .tuple #[]) (fun y=>[orA bo 60 48 (rR) ((A++(Po.iso L n x1 x2)))]) (fun y=>[]):=by
  induction n generalizing A u1 v1 x1 u2 v2 x2 with
  |zero=>exact hk.elim
  |succ n ih=>exact zdg hnL hmL hA hk (fun A u1 v1 x1 u2 v2 x2 hA hk=>by apply ih <;> assumption)
theorem zUd {p1:Option Addr} {n1:Nat} {c1:Nat} {l1:List (Option Rat)} {n:Nat} (hn1:l1.length=n1) (hm1:n1≤190) (hok:Po.sok (Po.vals l1)) (hb:Po.bd 40000000000 (Po.vals l1)) (hne:(Po.sturm (Po.vals l1)).length≠0) (hne2:(Po.cl (Po.vals l1)).length≠0) (hlS:(Po.sturm (Po.vals l1)).length≤400) (hA:(Po.iso (Po.sturm (Po.vals l1)) n (-(Po.bound (Po.cl (Po.vals l1)))) (Po.bound (Po.cl (Po.vals l1)))).length≤1000000) (hk:Po.isk (Po.sturm (Po.vals l1)) n (-(Po.bound (Po.cl (Po.vals l1)))) (Po.bound (Po.cl (Po.vals l1)))):Con yd 43 [.slice p1 n1 c1] [] [slF rE p1 c1 l1] (Y:=(Option Addr)×Nat) (fun y=>True) (fun y=> .tuple #[.slice (y.1) ((Po.iso (Po.sturm (Po.vals l1)) n (-(Po.bound (Po.cl (Po.vals l1)))) (Po.bound (Po.cl (Po.vals l1)))).length) (y.2),.int .i64 0]) (fun y=>[]) (fun y=>[slF rR (y.1) (y.2) (Po.iso (Po.sturm (Po.vals l1)) n (-(Po.bound (Po.cl (Po.vals l1)))) (Po.bound (Po.cl (Po.vals l1))))]):=by
 refine zl Tryz.func43 rfl rfl rfl (fun c=> ?_)
 show RunC _ _ _ _ _ [(0,.slice p1 n1 c1)] [] [slF rE p1 c1 l1]
 refine zP 0 rfl (fun hL0=> ?_)
 refine ze<|za<|e_p (zb rfl)<|e_p (zb rfl)<|zf<|zd<|ze<|za<|e_mv rfl<|zk rfl rfl (.c rfl .n) ce67 (zvc (p1:=p1) (n1:=n1) (c1:=c1) (l1:=l1) (hn1:=ass) (hm1:=ass) (hok:=ass)) (.c (j:=0) rfl .n) ?_
 rintro ⟨p91,c92⟩ -
 dsimp only [aq,nq,cq]
 refine zH rfl rfl (zq zr76 rfl) (fun b3=> ?_)
 refine zi 0 rfl rfl rfl rfl rfl sz76 rfl (.take .nil) .z<|zf<|zd<|ze<|ze<|za<|e_ru (zj 0 ty76 rfl rfl rfl)<|e_p (zD ye rfl)<|e_p (zna rfl rfl)<|zf<|zd<|zC rfl (fun h13=> ?_) (fun h13=> ?_)
 ·
  omega
 ·
  refine zB<|zd<|ze<|za<|e_mv rfl<|zk rfl rfl (.c rfl .n) ce78 (zTe (p1:=p1) (n1:=n1) (c1:=c1) (l1:=l1) (hn1:=ass) (hm1:=ass) (hb:=by exact Po.bd_mono hb dd) (hne:=ass)) (.c (j:=1) rfl .n) ?_
  rintro ⟨w34,w45⟩ -
  dsimp only [aq,nq,cq]
  refine e_mv rfl<|e_p (zm rfl rfl)<|e_p (zm rfl rfl)<|zH rfl rfl (zq zr28 rfl) (fun b6=> ?_)
  refine zi 0 rfl rfl rfl rfl rfl sz28 rfl (.t4 .nil) .z<|e_p (zb rfl)<|zf<|zd<|ze<|za<|zH rfl rfl (zq zr60 rfl) (fun b7=> ?_)
  refine zf<|zd<|ze<|za<|zH rfl rfl (zq zr82 rfl) (fun b8=> ?_)
  refine zf<|zd<|ze<|za<|e_p (zYb .n (.c rfl (.c rfl (.c rfl .n))))<|zi 0 rfl rfl rfl rfl rfl sz82 rfl (.take .nil) .z<|zf<|zd<|ze<|zIc 3 rfl (.s (.s (.s .z)))<|zIc 0 rfl .z<|zAc 48 rR<|c_mem (fun w mm=>mm.orClose 2 0 rfl rfl (by rfl)) ?_
  dsimp only [List.eraseIdx]
  refine zW (OW:=[orA b7 60 48 rR ([])]) (O:=[emA,boxA b6 28 (cw [w34,w45]),emA]) 4 mixed (.then .ret) kr<|e_u 0 rfl rfl (zr (j:=0) 0 ty82 rfl rfl rfl rfl)<|e_uw 1 rfl rfl (zc 2 ty28 rfl rfl (.t4 .nil))<|e_uw 3 rfl rfl (zc 2 ty28 rfl rfl (.t4 .nil))<|e_one 2 (zu rfl rfl rfl rfl (.c rfl .n) ce80 (zBe (k1:=true) (u1:=w34) (v1:=w45) (q1:=(Po.bound (Po.cl (Po.vals l1)))) (hl:=by exact Nat.le_trans (Po.bound_hq (Po.bd_cl hb) (Po.lead_ne (Po.cl_cl _) (fun e=>hne2 (by rw [e];rfl)))) dd)) (.c (j:=2) rfl .n) ?_)
  rintro ⟨w39,w410⟩ -
  dsimp only [aq,nq,cq]
  refine e_one 4 (zqg (first:=[]) (cap:=[.pointer (some ⟨b3,0,none⟩),.pointer (some ⟨b7,0,none⟩),.pointer (some ⟨b8,0,none⟩)]) (A':=fun y=>orA b7 60 48 rR (([])++(Po.iso (Po.sturm (Po.vals l1)) n (- (Po.bound (Po.cl (Po.vals l1)))) (Po.bound (Po.cl (Po.vals l1)))))) kr rfl rfl rfl rfl (.c rfl (.c rfl .n)) ce79 (zBg (pL:=p91) (nL:=(Po.sturm (Po.vals l1)).length) (cL:=c92) (L:=(Po.sturm (Po.vals l1))) (bl:=b3) (bo:=b7) (bd:=b8) (n:=n) (A:=[]) (u1:=w39) (v1:=w410) (x1:= - (Po.bound (Po.cl (Po.vals l1)))) (u2:=w34) (v2:=w45) (x2:=(Po.bound (Po.cl (Po.vals l1)))) (hnL:=by rfl) (hmL:=ass) (hA:=by show 0+_≤_;rw [Nat.zero_add];exact hA) (hk:=ass)) (.c (j:=2) rfl (.c (j:=1) rfl (.c (j:=4) rfl (.c (j:=0) rfl (.c (j:=3) rfl .n))))) ?_)
  rintro ⟨⟩ -
  dsimp only [aq,nq,cq]
  refine zU kr<|zd<|ze<|zig (fun w mm=>mm.orOpen 0 rfl) ?_
  rintro ⟨p11,c12⟩ -
  dsimp only [List.eraseIdx]
  refine za<|e_ru (zj 0 ty60 rfl rfl rfl)<|e_p (zb rfl)<|e_p (zb rfl)<|zf<|zd<|zE<|zYa 1 rfl (.s .z) ?_
  exact zua Tryz.results43 (p11,c12) trivial (zo rfl) (zo rfl) rfl (ho:=(.n:PickO _ _ _)) ((.c (j:=0) rfl .n):SelR _ _ _)
end Go.Proofs.YtbiaimgafknkmaaGreat.Sp
namespace Go.Proofs.YtbiaimgafknkmaaGreat.Sp
open Go
set_option linter.unusedVariables false
set_option maxRecDepth 100000
set_option maxHeartbeats 8000000
theorem zBf:Con yd 9 [] [] [] (Y:=Unit) (fun y=>True) (fun y=> .bool true) (fun y=>[]) (fun y=>[]):=by
 refine zl Tryz.func9 rfl rfl rfl (fun c=> ?_)
 show RunC _ _ _ _ _ [] [] []
 have hR:Po.eR.length=2:=rfl
 refine ze<|za<|e_p (zb rfl)<|zf<|zd<|ze<|za<|zqa rfl rfl (zQ (enc:=fun z:Int=>[.int .i64 z]) (ok:=InK .i64) (h1:=fun _=>rfl) (h2:=fun _=>rfl) (k:=2) yg inf3 rfl dd dd dd (.c (x:=(-1)) rfl rfl (fun _ _=>by exact zDa.2 om) (.c (x:=1) rfl rfl (fun _ _=>by exact zDa.2 om) .n))) (fun b1 _=> ?_)
 refine zV 0 rfl .z<|zk rfl rfl (.c rfl .n) ce40 (zYc (p1:=some ⟨b1,0,none⟩) (n1:=2) (c1:=2) (l1:=[(-1),1]) (hn1:=by rfl) (hm1:=dd)) (.c (j:=0) rfl .n) ?_
 rintro ⟨p92,c93⟩ -
 dsimp only [aq,nq,cq]
 refine zqa rfl rfl (zQ (enc:=fun z:Int=>[.int .i64 z]) (ok:=InK .i64) (h1:=fun _=>rfl) (h2:=fun _=>rfl) (k:=2) yg inf3 rfl dd dd dd (.c (x:=2) rfl rfl (fun _ _=>by exact zDa.2 om) (.c (x:=1) rfl rfl (fun _ _=>by exact zDa.2 om) .n))) (fun b4 _=> ?_)
 refine zV 0 rfl .z<|zk rfl rfl (.c rfl .n) ce40 (zYc (p1:=some ⟨b4,0,none⟩) (n1:=2) (c1:=2) (l1:=[2,1]) (hn1:=by rfl) (hm1:=dd)) (.c (j:=0) rfl .n) ?_
 rintro ⟨p95,c96⟩ -
 dsimp only [aq,nq,cq]
 refine zha (addQE 2 rfl)<|zha (addQE 1 rfl)<|zk rfl rfl (.c rfl (.c rfl .n)) ce17 (zyd (p1:=p92) (n1:=(Po.ofL ([(-1),1])).length) (c1:=c93) (l1:=((Po.ofL ([(-1),1])).map some)) (p2:=p95) (n2:=(Po.ofL ([2,1])).length) (c2:=c96) (l2:=((Po.ofL ([2,1])).map some)) (hn1:=by exact List.length_map _) (hm1:=dd) (hn2:=by exact List.length_map _) (hm2:=dd) (hm12:=dd) (hb1:=by rw [Po.vals_some];exact Po.bd_dec (by decide +kernel) dd) (hb2:=by rw [Po.vals_some];exact Po.bd_dec (by decide +kernel) dd) (hs:=by rw [Po.vals_some,Po.vals_some];exact fun k lo n _=>Po.cv_hq_of (K:=1) (L:=1) (N:=10) (Po.bd_cl (Po.bd_dec (by decide +kernel) dd)) (Po.bd_cl (Po.bd_dec (by decide +kernel) dd)) (by decide +kernel) dd k lo n)) (.c (j:=1) rfl (.c (j:=0) rfl .n)) ?_
 rintro ⟨p97,c98⟩ -
 dsimp only [aq,nq,cq]
 refine e_p (zb rfl)<|zf<|zd<|ze ?_
 have e9:(Po.mul (Po.vals ((Po.ofL ([(-1),1])).map some)) (Po.vals ((Po.ofL ([2,1])).map some)):List Rat)=Po.e1:=by rw [Po.vals_some,Po.vals_some];exact Po.ex_mul
 rw [e9]
 refine za<|e_mv rfl<|zqa rfl rfl (zQ (enc:=fun z:Int=>[.int .i64 z]) (ok:=InK .i64) (h1:=fun _=>rfl) (h2:=fun _=>rfl) (k:=2) yg inf3 rfl dd dd dd (.c (x:=(-1)) rfl rfl (fun _ _=>by exact zDa.2 om) (.c (x:=1) rfl rfl (fun _ _=>by exact zDa.2 om) .n))) (fun b10 _=> ?_)
 refine zV 0 rfl .z<|zk rfl rfl (.c rfl .n) ce40 (zYc (p1:=some ⟨b10,0,none⟩) (n1:=2) (c1:=2) (l1:=[(-1),1]) (hn1:=by rfl) (hm1:=dd)) (.c (j:=0) rfl .n) ?_
 rintro ⟨p911,c912⟩ -
 dsimp only [aq,nq,cq]
 refine zha (addQE 2 rfl)<|zha (addQE 1 rfl)<|zk rfl rfl (.c rfl (.c rfl .n)) ce26 (zBb (p1:=p97) (n1:=(Po.e1).length) (c1:=c98) (l1:=((Po.e1).map some)) (p2:=p911) (n2:=(Po.ofL ([(-1),1])).length) (c2:=c912) (l2:=((Po.ofL ([(-1),1])).map some)) (hn1:=by exact List.length_map _) (hm1:=dd) (hn2:=by exact List.length_map _) (hm2:=dd) (hm12:=dd) (hb2:=by rw [Po.vals_some];exact Po.bd_dec (by decide +kernel) dd) (hok:=by rw [Po.vals_some,Po.vals_some];exact (Po.dgo_of (Po.cb_dec (by decide +kernel) dd) (Po.cb_dec (by decide +kernel) dd) dd (by decide +kernel)).2)) (.c (j:=1) rfl (.c (j:=0) rfl .n)) ?_
 rintro ⟨p813,c814,p915,c916⟩ -
 dsimp only [aq,nq,cq]
 refine e_mv rfl<|e_p (zm rfl rfl)<|e_p (zm rfl rfl)<|e_p (zm rfl rfl)<|e_p (zb rfl)<|e_p (zb rfl)<|e_p (zb rfl)<|zf<|zd<|ze ?_
 have e17:(Po.dq (Po.vals ((Po.e1).map some)) (Po.vals ((Po.ofL ([(-1),1])).map some)):List Rat)=Po.ofL [2,1]:=by rw [Po.vals_some,Po.vals_some];exact Po.ex_q
 rw [e17]
 have e18:(Po.dr (Po.vals ((Po.e1).map some)) (Po.vals ((Po.ofL ([(-1),1])).map some)):List Rat)=([]:List Rat):=by rw [Po.vals_some,Po.vals_some];exact Po.ex_r
 rw [e18]
 have e19:(([]:List Rat).length:Nat)=0:=by rfl
 rw [e19]
 have e20:(Po.dc (Po.vals ((Po.ofL ([(-1),1])).map some)):Int)=0:=by rw [Po.vals_some];exact Po.ex_c
 rw [e20]
 refine za<|zqa rfl rfl (zQ (enc:=fun z:Int=>[.int .i64 z]) (ok:=InK .i64) (h1:=fun _=>rfl) (h2:=fun _=>rfl) (k:=3) yg inf3 rfl dd dd dd (.c (x:=(-2)) rfl rfl (fun _ _=>by exact zDa.2 om) (.c (x:=0) rfl rfl (fun _ _=>by exact zDa.2 om) (.c (x:=1) rfl rfl (fun _ _=>by exact zDa.2 om) .n)))) (fun b21 _=> ?_)
 refine zV 0 rfl .z<|zk rfl rfl (.c rfl .n) ce40 (zYc (p1:=some ⟨b21,0,none⟩) (n1:=3) (c1:=3) (l1:=[(-2),0,1]) (hn1:=by rfl) (hm1:=dd)) (.c (j:=0) rfl .n) ?_
 rintro ⟨p922,c923⟩ -
 dsimp only [aq,nq,cq]
 refine zha (addQE 0 rfl)<|zk rfl rfl (.c rfl .n) ce43 (zUd (p1:=p922) (n1:=(Po.ofL ([(-2),0,1])).length) (c1:=c923) (l1:=((Po.ofL ([(-2),0,1])).map some)) (n:=10) (hn1:=by exact List.length_map _) (hm1:=dd) (hok:=by rw [Po.vals_some];exact Po.ex_s2.1) (hb:=by rw [Po.vals_some];exact Po.bd_dec (by decide +kernel) dd) (hne:=by rw [Po.vals_some];exact Po.ex_ne2) (hne2:=by rw [Po.vals_some];decide +kernel) (hlS:=by rw [Po.vals_some];exact Nat.le_trans Po.ex_l2 dd) (hA:=by rw [Po.vals_some];rw [show Po.iso (Po.sturm (Po.ofL [(-2),0,1])) 10 (-Po.bound (Po.cl (Po.ofL [(-2),0,1]))) (Po.bound (Po.cl (Po.ofL [(-2),0,1])))=Po.eR from Po.ex_iso];decide) (hk:=by rw [Po.vals_some];exact Po.ex_k2)) (.c (j:=0) rfl .n) ?_
 rintro ⟨p924,c925⟩ -
 dsimp only [aq,nq,cq]
 refine e_mv rfl<|e_p (zm rfl rfl)<|e_p (zm rfl rfl)<|e_p (zb rfl)<|e_p (zb rfl)<|zf<|zd<|ze ?_
 have e26:(Po.iso (Po.sturm (Po.vals ((Po.ofL ([(-2),0,1])).map some))) 10 (-(Po.bound (Po.cl (Po.vals ((Po.ofL ([(-2),0,1])).map some))))) (Po.bound (Po.cl (Po.vals ((Po.ofL ([(-2),0,1])).map some)))):List (Rat×Rat))=Po.eR:=by rw [Po.vals_some];exact Po.ex_iso
 rw [e26]
 refine za<|zqa rfl rfl (zQ (enc:=fun z:Int=>[.int .i64 z]) (ok:=InK .i64) (h1:=fun _=>rfl) (h2:=fun _=>rfl) (k:=4) yg inf3 rfl dd dd dd (.c (x:=0) rfl rfl (fun _ _=>by exact zDa.2 om) (.c (x:=(-1)) rfl rfl (fun _ _=>by exact zDa.2 om) (.c (x:=0) rfl rfl (fun _ _=>by exact zDa.2 om) (.c (x:=1) rfl rfl (fun _ _=>by exact zDa.2 om) .n))))) (fun b27 _=> ?_)
 refine zV 0 rfl .z<|zk rfl rfl (.c rfl .n) ce40 (zYc (p1:=some ⟨b27,0,none⟩) (n1:=4) (c1:=4) (l1:=[0,(-1),0,1]) (hn1:=by rfl) (hm1:=dd)) (.c (j:=0) rfl .n) ?_
 rintro ⟨p928,c929⟩ -
 dsimp only [aq,nq,cq]
 refine zk rfl rfl (.c rfl .n) ce42 (zPa (z:=(-1)) (hz:=by first|rfl|decide|omega)) (.n) ?_
 rintro ⟨w330,w431⟩ -
 dsimp only [aq,nq,cq]
 refine zk rfl rfl (.c rfl .n) ce42 (zPa (z:=1) (hz:=by first|rfl|decide|omega)) (.n) ?_
 rintro ⟨w332,w433⟩ -
 dsimp only [aq,nq,cq]
 refine zha (addQE 2 rfl)<|zM rfl rfl (.c rfl (.c rfl (.c rfl .n))) ce45 (zUe (p1:=p928) (n1:=(Po.ofL ([0,(-1),0,1])).length) (c1:=c929) (l1:=((Po.ofL ([0,(-1),0,1])).map some)) (u1:=w330) (v1:=w431) (x1:=(((-1):Int):Rat)) (u2:=w332) (v2:=w433) (x2:=((1:Int):Rat)) (hn1:=by exact List.length_map _) (hm1:=dd) (hok:=by rw [Po.vals_some];exact Po.ex_s3.1) (hne:=by rw [Po.vals_some];exact Po.ex_ne3) (hlS:=by rw [Po.vals_some];exact Nat.le_trans Po.ex_l3 dd) (hx1:=by decide +kernel) (hx2:=by decide +kernel) (hv1:=by rw [Po.vals_some];exact Po.vok_sturm Po.ex_s3.2 (by decide +kernel)) (hv2:=by rw [Po.vals_some];exact Po.vok_sturm Po.ex_s3.2 (by decide +kernel)) (hle:=by decide +kernel)) (.c (j:=0) rfl (.c (j:=2) rfl (.c (j:=1) rfl .n)))<|e_mv rfl<|e_p (zm rfl rfl)<|e_p (zm rfl rfl)<|e_p (zb rfl)<|e_p (zb rfl)<|zf<|zd<|zQa (X:=Unit) (fun x=>True) (fun x=>[(0,.bool true)]) (fun x=>[]) (fun x=>[slF rE p928 c929 ((Po.ofL ([0,(-1),0,1])).map some),qF true w332 w433 ((1:Int):Rat),qF true w330 w431 (((-1):Int):Rat),slF rQ p928 c929 (Po.ofL ([0,(-1),0,1])),slF (rI .i64) (some ⟨b27,0,none⟩) 4 ([0,(-1),0,1]),slF rR p924 c925 (Po.eR),slF rE p922 c923 ((Po.ofL ([(-2),0,1])).map some),slF rQ p922 c923 (Po.ofL ([(-2),0,1])),slF (rI .i64) (some ⟨b21,0,none⟩) 3 ([(-2),0,1]),slF rQ p813 c814 (Po.ofL [2,1]),slF rQ p915 c916 ([]:List Rat),slF rE p911 c912 ((Po.ofL ([(-1),1])).map some),slF rE p97 c98 ((Po.e1).map some),slF rQ p911 c912 (Po.ofL ([(-1),1])),slF (rI .i64) (some ⟨b10,0,none⟩) 2 ([(-1),1]),slF rQ p97 c98 (Po.e1),slF rE p95 c96 ((Po.ofL ([2,1])).map some),slF rE p92 c93 ((Po.ofL ([(-1),1])).map some),slF rQ p95 c96 (Po.ofL ([2,1])),slF (rI .i64) (some ⟨b4,0,none⟩) 2 ([2,1]),slF rQ p92 c93 (Po.ofL ([(-1),1])),slF (rI .i64) (some ⟨b1,0,none⟩) 2 ([(-1),1])]) ?_ ?_
 ·
  have e34:(Po.bt (Po.sturm (Po.vals ((Po.ofL ([0,(-1),0,1])).map some))) (((-1):Int):Rat) ((1:Int):Rat):Int)=2:=by rw [Po.vals_some];exact Po.ex_bt
  rw [e34]
  refine zW (OW:=[]) (O:=[emA,emA,emA,emA,emA]) 100000 mixed (.then .ret) kr<|e_dm 0 rfl rfl rfl<|e_dm 1 rfl rfl rfl<|e_pv 2 rfl rfl (zJ (z:=0) rfl rfl (w64 dd))<|e_dm 3 rfl rfl rfl<|e_pv 4 rfl rfl (zJ (z:=0) rfl rfl (w64 dd))<|e_pv 5 rfl rfl (zna rfl rfl)<|e_dm 6 rfl rfl rfl<|e_dm 7 rfl rfl rfl<|e_one 8 (zGe rfl rfl rfl rfl (zQ (enc:=fun z:Int=>[.int .i64 z]) (ok:=InK .i64) (h1:=fun _=>rfl) (h2:=fun _=>rfl) (k:=3) yg inf3 rfl dd dd dd (.c (x:=(-2)) rfl rfl (fun _ _=>by exact zDa.2 om) (.c (x:=1) rfl rfl (fun _ _=>by exact zDa.2 om) (.c (x:=1) rfl rfl (fun _ _=>by exact zDa.2 om) .n)))) (fun b35 _=> ?_))
  refine zQb 0 rfl .z<|e_one 9 (zu rfl rfl rfl rfl (.c rfl .n) ce40 (zYc (p1:=some ⟨b35,0,none⟩) (n1:=3) (c1:=3) (l1:=[(-2),1,1]) (hn1:=by rfl) (hm1:=dd)) (.c (j:=0) rfl .n) ?_)
  rintro ⟨p936,c937⟩ -
  dsimp only [aq,nq,cq]
  refine e_one 10 (zKa rfl rfl rfl rfl (.c rfl (.c rfl .n)) ce12 (zTd (p1:=p97) (n1:=(Po.e1).length) (c1:=c98) (l1:=(Po.e1)) (p2:=p936) (n2:=(Po.ofL ([(-2),1,1])).length) (c2:=c937) (l2:=(Po.ofL ([(-2),1,1]))) (hn1:=by rfl) (hm1:=dd) (hn2:=by rfl) (hm2:=dd) (hb1:=by exact Po.bd_dec (by decide +kernel) dd) (hb2:=by exact Po.bd_dec (by decide +kernel) dd)) (.c (j:=17) rfl (.c (j:=0) rfl .n)) ?_)
  rw [show (decide ((Po.e1)=(Po.ofL ([(-2),1,1]))))=true from by exact decide_eq_true (by decide +kernel)]
  refine e_pv 11 rfl rfl (zy rfl rfl)<|e_dm 12 rfl rfl rfl<|e_dm 13 rfl rfl rfl<|e_one 14 (zGe rfl rfl rfl rfl (zQ (enc:=fun z:Int=>[.int .i64 z]) (ok:=InK .i64) (h1:=fun _=>rfl) (h2:=fun _=>rfl) (k:=2) yg inf3 rfl dd dd dd (.c (x:=2) rfl rfl (fun _ _=>by exact zDa.2 om) (.c (x:=1) rfl rfl (fun _ _=>by exact zDa.2 om) .n))) (fun b38 _=> ?_))
  refine zQb 0 rfl .z<|e_one 15 (zu rfl rfl rfl rfl (.c rfl .n) ce40 (zYc (p1:=some ⟨b38,0,none⟩) (n1:=2) (c1:=2) (l1:=[2,1]) (hn1:=by rfl) (hm1:=dd)) (.c (j:=0) rfl .n) ?_)
  rintro ⟨p939,c940⟩ -
  dsimp only [aq,nq,cq]
  refine e_one 16 (zKa rfl rfl rfl rfl (.c rfl (.c rfl .n)) ce12 (zTd (p1:=p813) (n1:=(Po.ofL [2,1]).length) (c1:=c814) (l1:=(Po.ofL [2,1])) (p2:=p939) (n2:=(Po.ofL ([2,1])).length) (c2:=c940) (l2:=(Po.ofL ([2,1]))) (hn1:=by rfl) (hm1:=dd) (hn2:=by rfl) (hm2:=dd) (hb1:=by exact Po.bd_dec (by decide +kernel) dd) (hb2:=by exact Po.bd_dec (by decide +kernel) dd)) (.c (j:=13) rfl (.c (j:=0) rfl .n)) ?_)
  rw [show (decide ((Po.ofL [2,1])=(Po.ofL ([2,1]))))=true from by exact decide_eq_true (by decide +kernel)]
  refine e_pv 17 rfl rfl (zy rfl rfl)<|e_dm 18 rfl rfl rfl<|e_dm 19 rfl rfl rfl<|e_pv 20 rfl rfl (zD ya rfl)<|e_pv 21 rfl rfl (zna rfl rfl)<|e_pv 22 rfl rfl (zy rfl rfl)<|e_dm 23 rfl rfl rfl<|e_dm 24 rfl rfl rfl<|e_pv 25 rfl rfl (zD yj rfl)<|e_pv 26 rfl rfl (zna rfl rfl) ?_
  rw [show (decide ((((Po.eR).length:Nat):Int)=2))=true from by exact decide_eq_true dd]
  refine e_pv 27 rfl rfl (zy rfl rfl)<|e_dm 28 rfl rfl rfl<|e_dm 29 rfl rfl rfl<|d_vl 30 rfl rfl kr kr rfl rfl (zja (x0:=((Po.eR).getD 0 ((0:Rat),(0:Rat)))) 9 0 rfl yj sz48 rfl cbo rfl rfl (gD (d:=((0:Rat),(0:Rat))) om)) ?_
  rintro ⟨b41,o42,w43,w44,w45,w46⟩ -
  dsimp only [aq,nq,cq]
  refine zTa open_rR<|e_u 31 rfl rfl (zO (j:=0) 0 ty48 rfl rfl rfl (.t8 .nil))<|e_one 32 (zu rfl rfl rfl rfl (.c rfl .n) ce42 (zPa (z:=(-3)) (hz:=by first|rfl|decide|omega)) (.n) ?_)
  rintro ⟨w347,w448⟩ -
  dsimp only [aq,nq,cq]
  refine e_one 33 (zu rfl rfl rfl rfl (.c rfl .n) ce42 (zPa (z:=0) (hz:=by first|rfl|decide|omega)) (.n) ?_)
  rintro ⟨w349,w450⟩ -
  dsimp only [aq,nq,cq]
  refine e_pv 34 rfl rfl (zI zr48 rfl yb (.c sz28 (.c sz28 .n)) (.c rfl (.c rfl .n)) (.c rfl rfl rfl (.t4 .nil) (.c rfl rfl rfl (.s4 (.t4 .nil)) .n)))<|e_one 35 (zKa rfl rfl rfl rfl (.c rfl (.c rfl .n)) ce39 (zNb (u1:=w43) (u2:=w45) (u3:=w347) (u4:=w349) (v1:=w44) (v2:=w46) (v3:=w448) (v4:=w450) (q1:=((Po.eR).getD 0 ((0:Rat),(0:Rat))).1) (q2:=((Po.eR).getD 0 ((0:Rat),(0:Rat))).2) (q3:=(((-3):Int):Rat)) (q4:=((0:Int):Rat)) (hl1:=by decide +kernel) (hl2:=by decide +kernel)) (.c (j:=3) rfl (.c (j:=4) rfl (.c (j:=1) rfl (.c (j:=0) rfl .n)))) ?_)
  rw [show (decide ((((Po.eR).getD 0 ((0:Rat),(0:Rat))).1)=(((-3):Int):Rat)∧(((Po.eR).getD 0 ((0:Rat),(0:Rat))).2)=((0:Int):Rat)))=true from by exact decide_eq_true (by decide +kernel)]
  refine e_pv 36 rfl rfl (zy rfl rfl)<|e_dm 37 rfl rfl rfl<|e_dm 38 rfl rfl rfl<|d_vl 39 rfl rfl kr kr rfl rfl (zja (x0:=((Po.eR).getD 1 ((0:Rat),(0:Rat)))) 14 1 rfl yj sz48 rfl cbo rfl rfl (gD (d:=((0:Rat),(0:Rat))) om)) ?_
  rintro ⟨b51,o52,w53,w54,w55,w56⟩ -
  dsimp only [aq,nq,cq]
  refine zTa open_rR<|e_u 40 rfl rfl (zO (j:=0) 0 ty48 rfl rfl rfl (.t8 .nil))<|e_one 41 (zu rfl rfl rfl rfl (.c rfl .n) ce42 (zPa (z:=0) (hz:=by first|rfl|decide|omega)) (.n) ?_)
  rintro ⟨w357,w458⟩ -
  dsimp only [aq,nq,cq]
  refine e_one 42 (zu rfl rfl rfl rfl (.c rfl .n) ce42 (zPa (z:=3) (hz:=by first|rfl|decide|omega)) (.n) ?_)
  rintro ⟨w359,w460⟩ -
  dsimp only [aq,nq,cq]
  refine e_pv 43 rfl rfl (zI zr48 rfl yb (.c sz28 (.c sz28 .n)) (.c rfl (.c rfl .n)) (.c rfl rfl rfl (.t4 .nil) (.c rfl rfl rfl (.s4 (.t4 .nil)) .n)))<|e_one 44 (zKa rfl rfl rfl rfl (.c rfl (.c rfl .n)) ce39 (zNb (u1:=w53) (u2:=w55) (u3:=w357) (u4:=w359) (v1:=w54) (v2:=w56) (v3:=w458) (v4:=w460) (q1:=((Po.eR).getD 1 ((0:Rat),(0:Rat))).1) (q2:=((Po.eR).getD 1 ((0:Rat),(0:Rat))).2) (q3:=((0:Int):Rat)) (q4:=((3:Int):Rat)) (hl1:=by decide +kernel) (hl2:=by decide +kernel)) (.c (j:=3) rfl (.c (j:=4) rfl (.c (j:=1) rfl (.c (j:=0) rfl .n)))) ?_)
  rw [show (decide ((((Po.eR).getD 1 ((0:Rat),(0:Rat))).1)=((0:Int):Rat)∧(((Po.eR).getD 1 ((0:Rat),(0:Rat))).2)=((3:Int):Rat)))=true from by exact decide_eq_true (by decide +kernel)]
  refine e_pv 45 rfl rfl (zy rfl rfl)<|e_dm 46 rfl rfl rfl<|e_dm 47 rfl rfl rfl<|e_pv 48 rfl rfl (zna rfl rfl)<|e_pv 49 rfl rfl (zy rfl rfl)<|e_pv 50 rfl rfl (zb rfl)<|zU kr ?_
  exact zka () (show True from by first|trivial|omega|simp_all) ((.c rfl .n):SubM _ _) (ho:=(.n:PickO _ _ _)) ((.of [14,15,16,17,18,19,20,21,22,23,24,25,26,27,28,29,30,31,32,33,34,35] rfl):SelR _ _ _)
 ·
  rintro ⟨⟩ -
  try dsimp only
  refine zE ?_
  exact zw Tryz.results9 () trivial (zo rfl) rfl (ho:=(.n:PickO _ _ _)) (.n:SelR _ _ _)
end Go.Proofs.YtbiaimgafknkmaaGreat.Sp
namespace Go.Proofs.YtbiaimgafknkmaaGreat.Po
open Go.Proofs.YtbiaimgafknkmaaGreat.Big
theorem few_all {l:List (Option Rat)} {n:Nat} (hn:l.length=n) (h:∀i,i<n→hq ((l.getD i none).getD 0)≤2) (i:Nat):hq ((l.getD i none).getD 0)≤2:=by
  by_cases hi:i<n
  · exact h i hi
  · rw [at_end (by omega)];decide
theorem few_bd {l:List (Option Rat)} (h:∀i,hq ((l.getD i none).getD 0)≤2):bd 2 (vals l):=fun i=>by rw [vals_get];exact h i
theorem ev_drop_hq {K L N:Nat} {x:Rat} {p:List Rat} (hx:hq x≤L) (h:bd K p) (hl:p.length≤N) (i:Nat):hq (ev x (p.drop i))≤1+N*(K+L+1):=by
  refine Nat.le_trans (ev_hq (K:=K) hx (l:=p.drop i) fun j=> ?_) (Nat.add_le_add_left (Nat.mul_le_mul_right _ (by rw [List.length_drop];omega)) _)
  have:(p.drop i).getD j 0=p.getD (i+j) 0:=by rw [List.getD_eq_getElem?_getD,List.getElem?_drop,←List.getD_eq_getElem?_getD]
  rw [this];exact h _
theorem scl_len (p:List Rat) (x:Rat):(scl p x).length≤p.length:=by
  unfold scl
  exact Nat.le_trans (cl_le_len _) (by rw [gen_len];exact Nat.le_refl _)
theorem cb_few {p:List Rat} (h:bd 2 p) (hl:p.length≤9):cb 20 p:=cb_mono (cb_of_bd h) (by omega)
theorem mul_clr (p q:List Rat):mul p (cl q)=mul p q:=by unfold mul;rw [cl_cl]
theorem dqr_spec {p q:List Rat} (hn:(cl q).length≠0):(dr p q).length<(cl q).length∧add (mul (dq p q) q) (dr p q)=cl p:=by
  have h:=divp_spec (p:=p) (q:=q) (fun e=>hn (by rw [e];rfl))
  unfold dq dr
  rw [if_neg hn,if_neg hn]
  rw [mul_clr] at h
  exact h
end Go.Proofs.YtbiaimgafknkmaaGreat.Po
namespace Go.Proofs.YtbiaimgafknkmaaGreat.Po
open Go.Proofs.YtbiaimgafknkmaaGreat.Big
theorem scl_cl (l:List Rat) (a:Rat):cl (scl l a)=scl l a:=cl_cl _
theorem last_ne {l:List Rat} (hl:cl l=l) (h:l.length≠0):l.getD (l.length - 1) 0≠0:=lead_ne hl (fun e=>h (by rw [e];rfl))
theorem len_le_of {l m:List Rat} (hl:cl l=l) (h:∀i,m.getD i 0=0→l.getD i 0=0):l.length≤m.length:=by
  by_cases h0:l.length=0
  · omega
  · refine Decidable.byContradiction fun k=>last_ne hl h0 (h _ (gD0 (by omega)))
theorem scl_length {l:List Rat} {a:Rat} (hl:cl l=l) (ha:a≠0):(scl l a).length=l.length:=by
  refine Nat.le_antisymm (scl_len l a) (len_le_of hl fun i h=> ?_)
  rw [scl_get] at h
  rcases Rat.mul_eq_zero.1 h with e|e
  · exact e
  · exact absurd e ha
theorem scl_lead {l:List Rat} {a:Rat} (hl:cl l=l) (ha:a≠0):lead (scl l a)=lead l*a:=by
  unfold lead
  rw [scl_length hl ha,scl_get]
theorem div_scale {x y a b:Rat} (ha:a≠0) (hb:b≠0):x*a / (y*b)*b=x / y*a:=by
  by_cases hy:y=0
  · rw [hy,Rat.zero_mul,Rat.div_def,Rat.div_def,Rat.inv_zero];grind
  · have hyb : y * b ≠ 0 := fun e => by rcases Rat.mul_eq_zero.1 e with k | k; exact hy k; exact hb k
    have h1:=Rat.div_mul_cancel (a:=x*a) hyb
    have h2:=Rat.div_mul_cancel (a:=x) hy
    have h3:(x*a / (y*b)*b)*y=(x / y*a)*y:=by
      have e1:(x*a / (y*b)*b)*y=x*a / (y*b)*(y*b):=by grind
      have e2:(x / y*a)*y=x / y*y*a:=by grind
      rw [e1,e2,h1,h2]
    have h4:(x*a / (y*b)*b - x / y*a)*y=0:=by rw [sub_mul',h3];grind
    rcases Rat.mul_eq_zero.1 h4 with k|k
    · grind
    · exact absurd k hy
theorem step_scale {q r:List Rat} {a b:Rat} (hq:cl q=q) (hr:cl r=r) (ha:a≠0) (hb:b≠0):sub (scl r a) (mul (dt (scl q b) (scl r a)) (scl q b))=scl (sub r (mul (dt q r) q)) a:=by
  refine zMa (sub_cl _ _) (scl_cl _ _) fun i=> ?_
  rw [sub_get,scl_get,scl_get,sub_get,mul_get,mul_get]
  unfold dt
  rw [C_mono,C_mono,scl_length hr ha,scl_length hq hb,scl_lead hr ha,scl_lead hq hb]
  split
  · rw [scl_get]
    have:=div_scale (x:=lead r) (y:=lead q) ha hb
    have e:lead r*a / (lead q*b)*(q.getD (i - (r.length - q.length)) 0*b)=lead r*a / (lead q*b)*b*q.getD (i - (r.length - q.length)) 0:=by grind
    rw [e,this];grind
  · grind
theorem dv_scale {q:List Rat} {a b:Rat} (hq:cl q=q) (ha:a≠0) (hb:b≠0):∀(n:Nat) (x y r:List Rat),cl r=r→(dv (scl q b) n y (scl r a)).2=scl (dv q n x r).2 a
  |0,_,_,_,_=>rfl
  |n+1,x,y,r,hr=>by
    unfold dv
    rw [scl_length hr ha,scl_length hq hb]
    split
    · rfl
    · rw [step_scale hq hr ha hb]
      exact dv_scale hq ha hb n _ _ _ (sub_cl _ _)
theorem dr_scale {p q:List Rat} {a b:Rat} (hp:cl p=p) (hq:cl q=q) (ha:a≠0) (hb:b≠0):dr (scl p a) (scl q b)=scl (dr p q) a:=by
  unfold dr
  rw [scl_cl,hq,scl_length hq hb]
  split
  · rfl
  · unfold divp
    rw [scl_cl,scl_cl,hq,hp,scl_length hp ha]
    exact dv_scale hq ha hb _ _ _ _ hp
theorem inv_ne {x:Rat} (h:x≠0):((1:Int):Rat) / x≠0:=fun e=>by
  have:=Rat.div_mul_cancel (a:=((1:Int):Rat)) h
  rw [e,Rat.zero_mul] at this
  exact absurd this (by decide +kernel)
theorem mo_scl {l:List Rat} (hl:cl l=l):∃a,a≠0∧mo l=scl l a:=by
  by_cases h:l.length=0
  · exact ⟨1,by decide +kernel,by unfold mo;rw [if_pos h,List.length_eq_zero_iff.1 h];rfl⟩
  · exact ⟨((1:Int):Rat) / lead l,inv_ne (last_ne hl h),by unfold mo;rw [if_neg h,scl_mul]⟩
theorem mo_of_scl {l:List Rat} {a:Rat} (hl:cl l=l) (ha:a≠0):mo (scl l a)=mo l:=by
  unfold mo
  rw [scl_length hl ha]
  split
  · rfl
  · rename_i h
    refine zMa (mul_cl _ _) (mul_cl _ _) fun i=> ?_
    rw [mul_one_get,mul_one_get,scl_get,scl_lead hl ha]
    have h0:lead l≠0:=last_ne hl h
    have e:=div_scale (x:=((1:Int):Rat)) (y:=lead l) (a:=1) (b:=a) (by decide +kernel) ha
    rw [Rat.mul_one,Rat.mul_one] at e
    have:l.getD i 0*a*(((1:Int):Rat) / (lead l*a))=l.getD i 0*(((1:Int):Rat) / (lead l*a)*a):=by grind
    rw [this,e]
theorem mo_length {l:List Rat} (hl:cl l=l):(mo l).length=l.length:=by
  obtain ⟨a,ha,e⟩:=mo_scl hl
  rw [e,scl_length hl ha]
def rg:Nat→List Rat→List Rat→List Rat
  |0,p,_=>p
  |n+1,p,q=>if q.length=0 then p else rg n q (dr p q)
theorem rg_ge:∀(n:Nat) (p q:List Rat),cl p=p→cl q=q→q.length≤n→mo (rg n p q)=ge n (mo p) (mo q)
  |0,_,_,_,_,_=>rfl
  |n+1,p,q,hp,hq,hn=>by
    by_cases h:q.length=0
    · have e1 : rg (n + 1) p q = p := if_pos h
      rw [e1,ge_nil (by rw [mo_length hq];exact h)]
    · have e1 : rg (n + 1) p q = rg n q (dr p q) := if_neg h
      have e2:ge (n+1) (mo p) (mo q)=ge n (mo q) (mo (dr (mo p) (mo q))):=if_neg (by rw [mo_length hq];exact h)
      obtain ⟨a,ha,ea⟩:=mo_scl hp
      obtain ⟨b,hb,eb⟩:=mo_scl hq
      have e3:mo (dr (mo p) (mo q))=mo (dr p q):=by rw [ea,eb,dr_scale hp hq ha hb,mo_of_scl (dr_cl _ _) ha]
      have:=dr_less (p:=p) hq h
      rw [e1,e2,e3]
      exact rg_ge n q (dr p q) hq (dr_cl _ _) (by omega)
theorem rg_gcd (p q:List Rat):mo (rg (cl q).length (cl p) (cl q))=gcd p q:=rg_ge _ _ _ (cl_cl p) (cl_cl q) (Nat.le_refl _)
theorem rg_nil {n:Nat} {p q:List Rat} (h:q.length=0):rg n p q=p:=by
  cases n with
  |zero=>rfl
  |succ n=>exact if_pos h
theorem rg_yes {n:Nat} {p q:List Rat} (h:q.length≠0) (hn:q.length≤n):rg n p q=rg (n - 1) q (dr p q):=by
  obtain ⟨m,rfl⟩:∃m,n=m+1:=⟨n - 1,by omega⟩
  exact if_neg h
def rgok:Nat→List Rat→List Rat→Prop
  |0,p,_=>bd 60000000000 p
  |n+1,p,q=>bd 60000000000 p∧(q.length≠0→dgo p q∧rgok n q (dr p q))
theorem rgok_bd {n:Nat} {p q:List Rat} (h:rgok n p q):bd 60000000000 p:=by
  cases n with
  |zero=>exact h
  |succ n=>exact h.1
theorem rgok_yes {n:Nat} {p q:List Rat} (k:rgok n p q) (h:q.length≠0) (hn:q.length≤n):dgo p q∧rgok (n - 1) q (dr p q):=by
  obtain ⟨m,rfl⟩:∃m,n=m+1:=⟨n - 1,by omega⟩
  exact k.2 h
theorem rgok_cb {N:Nat} (hN0:1≤N):∀(n K:Nat) (p q:List Rat),cl p=p→cl q=q→cb K p→cb K q→p.length+1≤N→q.length+1≤N→(K+1)*(N+1)^n≤60000000000→rgok n p q
  | 0, K, p, q, _, _, hp, _, _, _, hb => bd_mono (cb_bd hp) (by have : (K + 1) * (N + 1) ^ 0 = K + 1 := by simp
                                                                omega)
  |n+1,K,p,q,cp,cq,hp,hq,lp,lq,hb=>by
    have e1:(K+1)*(N+1)^(n+1)=(K+1)*(N+1)*(N+1)^n:=by rw [Nat.pow_succ,Nat.mul_assoc,Nat.mul_comm (N+1)]
    have e2:(K+1)*(N+1)≤(K+1)*(N+1)*(N+1)^n:=Nat.le_mul_of_pos_right _ (Nat.pow_pos (by omega))
    have e3:K+N*(K+1)+1=(K+1)*(N+1):=by rw [Nat.mul_comm (K+1),Nat.succ_mul];omega
    have e4:K+1≤(K+1)*(N+1):=Nat.le_mul_of_pos_right _ (by omega)
    refine ⟨bd_mono (cb_bd hp) (by omega),fun h0=> ?_⟩
    have hd:=(div_cb (N:=N) cp cq h0 hp hq (by omega)).2
    have hlt:=dr_less (p:=p) cq h0
    exact ⟨dgo_cb cp cq h0 hp hq lp (by omega) (by omega),rgok_cb hN0 n (K+N*(K+1)) q (dr p q) cq (dr_cl _ _) (cb_mono hq (by omega)) hd lq (by omega) (by rw [e3,←e1];exact hb)⟩
theorem mo_scl' (l:List Rat):mo l=if l.length=0 then [] else scl l (((1:Int):Rat) / lead l):=by unfold mo;rw [scl_mul]
end Go.Proofs.YtbiaimgafknkmaaGreat.Po
namespace Go.Proofs.YtbiaimgafknkmaaGreat.Po
open Go.Proofs.YtbiaimgafknkmaaGreat.Big
theorem ev_scl (x a:Rat) (l:List Rat):ev x (scl l a)=ev x l*a:=by
  rw [scl_mul,ev_mul]
  show ev x l*(0*x+a)=_
  grind
theorem ev_sub (x:Rat) (p q:List Rat):ev x (sub p q)=ev x p - ev x q:=by
  rw [← sub_scl,ev_add,ev_scl,show (((-1:Int):Int):Rat)= -1 by decide +kernel]
  grind
def syn (x:Rat):List Rat→List Rat
  |[]=>[]
  |[_]=>[]
  |_ :: b :: l=>ev x (b :: l) :: syn x (b :: l)
theorem syn_ev (x t:Rat):∀l:List Rat,ev t l=(t - x)*ev t (syn x l)+ev x l
  |[]=>by show (0:Rat)=(t - x)*0+0;grind
  |[a]=>by show 0*t+a=(t - x)*0+(0*x+a);grind
  |a :: b :: l=>by
    have ih:=syn_ev x t (b :: l)
    show ev t (b :: l)*t+a=(t - x)*(ev t (syn x (b :: l))*t+ev x (b :: l))+(ev x (b :: l)*x+a)
    rw [ih];grind
theorem syn_len (x:Rat):∀l:List Rat,(syn x l).length=l.length - 1
  |[]=>rfl
  |[_]=>rfl
  |a :: b :: l=>by
    show (syn x (b :: l)).length+1=l.length+1+1 - 1
    rw [syn_len x (b :: l)];rfl
theorem fresh:∀E:List Rat,∃t,∀e,e∈E→e<t
  |[]=>⟨0,fun e h=>by cases h⟩
  |a :: E=>by
    obtain ⟨t,ht⟩:=fresh E
    by_cases h:a<t
    · exact ⟨t,fun e he=>by rcases List.mem_cons.1 he with rfl|he;exact h;exact ht e he⟩
    · refine ⟨a + 1, fun e he => ?_⟩
      rcases List.mem_cons.1 he with rfl|he
      · grind
      · have:=ht e he;grind
theorem ev_vanish:∀(n:Nat) (l:List Rat),l.length≤n→∀E:List Rat,(∀t,t ∉ E→ev t l=0)→∀t,ev t l=0
  |0,l,hl,_,_,t=>by rw [List.length_eq_zero_iff.1 (show l.length=0 by omega)];rfl
  |n+1,l,hl,E,h,t=>by
    obtain ⟨s,hs⟩:=fresh E
    have hsE:s ∉ E:=fun k=>by have:=hs s k;grind
    have h0:=h s hsE
    have ih:=ev_vanish n (syn s l) (by rw [syn_len];omega) (s :: E) fun t ht=>by
      have h1:=h t fun k=>ht (List.mem_cons_of_mem _ k)
      have h2:=syn_ev s t l
      rw [h0,h1] at h2
      have h3:(t - s)*ev t (syn s l)=0:=by grind
      rcases Rat.mul_eq_zero.1 h3 with k|k
      · exact absurd (List.mem_cons.2 (.inl (by grind))) ht
      · exact k
    rw [syn_ev s t l,ih t,h0];grind
theorem ev_coef:∀l:List Rat,(∀t,ev t l=0)→∀i,l.getD i 0=0
  |[],_,i=>gD0 (Nat.zero_le _)
  |a :: l,h,i=>by
    have ha:a=0:=by
      have:=h 0
      have e:ev 0 (a :: l)=ev 0 l*0+a:=rfl
      rw [e] at this;grind
    have hl:=ev_vanish l.length l (Nat.le_refl _) [0] fun t ht=>by
      have:=h t
      have e:ev t (a :: l)=ev t l*t+a:=rfl
      rw [e,ha,Rat.add_zero] at this
      rcases Rat.mul_eq_zero.1 this with k|k
      · exact k
      · exact absurd (List.mem_cons.2 (.inl k)) ht
    cases i with
    |zero=>exact ha
    |succ i=>exact ev_coef l hl i
theorem ev_eq {p q:List Rat} (h:∀t,ev t p=ev t q) (i:Nat):p.getD i 0=q.getD i 0:=by
  have:=ev_coef (sub p q) (fun t=>by rw [ev_sub,h];grind) i
  rw [sub_get] at this;grind
theorem ev_ext' {p q:List Rat} (hp:cl p=p) (hq:cl q=q) (h:∀t,ev t p=ev t q):p=q:=zMa hp hq (ev_eq h)
theorem der_ext {p q:List Rat} (h:∀t,ev t p=ev t q):der p=der q:=zMa (der_cl _) (der_cl _) fun i=>by rw [der_get,der_get,ev_eq h]
theorem mo_ev {l:List Rat} (hl:cl l=l) (t:Rat):ev t (mo l)*lead l=ev t l:=by
  rw [mo_scl']
  split
  · rename_i h
    rw [List.length_eq_zero_iff.1 h]
    show (0:Rat)*_=0
    grind
  · rename_i h
    have h0:lead l≠0:=last_ne hl h
    rw [ev_scl,Rat.mul_assoc,Rat.div_mul_cancel h0,show ((1:Int):Rat)=1 by decide +kernel,Rat.mul_one]
theorem div_ev {p q:List Rat} (hp:cl p=p) (hq:cl q=q) (h:q.length≠0) (t:Rat):ev t p=ev t (dq p q)*ev t q+ev t (dr p q):=by
  have:=(dqr_spec (p:=p) (q:=q) (by rw [hq];exact h)).2
  rw [hp] at this
  rw [← this,ev_add,ev_mul]
  rw [this]
def dvd (g p:List Rat):Prop:=∃u:List Rat,∀t,ev t p=ev t g*ev t u
theorem ge_dvd:∀(n:Nat) (p q:List Rat),cl p=p→cl q=q→q.length≤n→dvd (ge n p q) p∧dvd (ge n p q) q
  |0,p,q,_,_,hn=>by
    refine ⟨⟨[1],fun t=> ?_⟩,⟨[],fun t=> ?_⟩⟩
    · show ev t p=ev t p*(0*t+1);grind
    · rw [List.length_eq_zero_iff.1 (show q.length = 0 by omega)]
      show (0:Rat)=_*0;grind
  |n+1,p,q,hp,hq,hn=>by
    by_cases h:q.length=0
    · rw [ge_nil h]
      refine ⟨⟨[1],fun t=> ?_⟩,⟨[],fun t=> ?_⟩⟩
      · show ev t p=ev t p*(0*t+1);grind
      · rw [List.length_eq_zero_iff.1 h]
        show (0:Rat)=_*0;grind
    · have e : ge (n + 1) p q = ge n q (mo (dr p q)) := if_neg h
      have hlt:=dr_less (p:=p) hq h
      have hml:=mo_len (dr p q)
      obtain ⟨⟨u,hu⟩,⟨v,hv⟩⟩:=ge_dvd n q (mo (dr p q)) hq (mo_cl _) (by omega)
      rw [e]
      refine ⟨⟨add (mul (dq p q) u) (mul v [lead (dr p q)]),fun t=> ?_⟩,u,hu⟩
      rw [div_ev hp hq h,ev_add,ev_mul,ev_mul,←mo_ev (dr_cl p q),hu,hv]
      show _=_*(_+_*(0*t+lead (dr p q)))
      grind
theorem gcd_dvd (p q:List Rat) (hp:cl p=p) (hq:cl q=q):dvd (gcd p q) p∧dvd (gcd p q) q:=by
  have h:=ge_dvd (cl q).length (mo (cl p)) (mo (cl q)) (mo_cl _) (mo_cl _) (mo_len _)
  obtain ⟨⟨u,hu⟩,⟨v,hv⟩⟩:=h
  unfold gcd
  refine ⟨⟨mul u [lead p],fun t=> ?_⟩,⟨mul v [lead q],fun t=> ?_⟩⟩
  · rw [ev_mul, ← Rat.mul_assoc, ← hu, hp, ← mo_ev hp]
    show _=_*(0*t+lead p);grind
  · rw [ev_mul, ← Rat.mul_assoc, ← hv, hq, ← mo_ev hq]
    show _=_*(0*t+lead q);grind
theorem co_top {f g:Nat→Rat} {a b:Nat} (hf:∀i,a<i→f i=0) (hg:∀i,b<i→g i=0):∀n,n≤a+b+1→co f g (a+b) n=if a<n then f a*g b else 0
  |0,_=>by rw [if_neg (by omega)];rfl
  |n+1,hn=>by
    show co f g (a+b) n+f n*g (a+b - n)=_
    rw [co_top hf hg n (by omega)]
    by_cases h1:n<a
    · rw [if_neg (by omega),if_neg (by omega),hg (a+b - n) (by omega)];grind
    · by_cases h2 : n = a
      · subst h2
        rw [if_neg (by omega),if_pos (by omega),show n+b - n=b by omega];grind
      · rw [if_pos (by omega),if_pos (by omega),hf n (by omega)];grind
theorem mul_length {p q:List Rat} (hp:cl p=p) (hq:cl q=q) (h1:p.length≠0) (h2:q.length≠0):(mul p q).length=p.length+q.length - 1:=by
  refine Nat.le_antisymm (mul_len p q) (Decidable.byContradiction fun k=> ?_)
  have e:=mul_get p q (p.length - 1+(q.length - 1))
  rw [gD0 (by omega)] at e
  unfold C at e
  rw [co_top (fun i hi=>gD0 (by omega)) (fun i hi=>gD0 (by omega)) _ (Nat.le_refl _),if_pos (by omega)] at e
  rcases Rat.mul_eq_zero.1 e.symm with k|k
  · exact last_ne hp h1 k
  · exact last_ne hq h2 k
theorem dr_dvd {p g:List Rat} (hp:cl p=p) (hg:cl g=g) (h:g.length≠0) (k:dvd g p):dr p g=[]:=by
  obtain ⟨u,hu⟩:=k
  have hlt:=dr_less (p:=p) hg h
  have e:dr p g=mul g (sub u (dq p g)):=ev_ext' (dr_cl _ _) (mul_cl _ _) fun t=>by
    have h1:=div_ev hp hg h t
    rw [ev_mul,ev_sub]
    rw [hu t] at h1
    grind
  by_cases h0:(sub u (dq p g)).length=0
  · rw [e,List.length_eq_zero_iff.1 h0,mul_comm',mul_nil]
  · have := mul_length hg (sub_cl u (dq p g)) h h0
    rw [← e] at this
    omega
theorem exact_mul {p g:List Rat} (hp:cl p=p) (hg:cl g=g) (h:g.length≠0) (k:dvd g p):mul (dq p g) g=p:=ev_ext' (mul_cl _ _) hp fun t=>by
  have:=div_ev hp hg h t
  rw [dr_dvd hp hg h k] at this
  rw [ev_mul,this]
  show _=_+(0:Rat);grind
theorem ev_lin (t x:Rat):ev t [-x,1]=t - x:=by show (0*t+1)*t+ -x=t - x;grind
theorem der_syn {x:Rat} {h:List Rat} (h0:ev x h=0) (t:Rat):ev t (der h)=ev t (syn x h)+(t - x)*ev t (der (syn x h)):=by
  have e:der h=der (mul [-x,1] (syn x h)):=der_ext fun t=>by rw [ev_mul,ev_lin,syn_ev x t h,h0];grind
  rw [e,der_mul,ev_add,ev_mul,ev_mul,ev_lin]
  have:ev t (der [-x,1])=1:=by
    have:der [-x,1]=[1]:=zMa (der_cl _) (by decide +kernel) fun i=>by
      rw [der_get]
      match i with
      |0=>show ((1:Int):Rat)*1=1;decide +kernel
      |i+1=>show _*(0:Rat)=0;rw [Rat.mul_zero]
    rw [this];show 0*t+1=1;grind
  rw [this];grind
theorem root_key (x:Rat) (q w:List Rat):∀(n:Nat) (h:List Rat) (k:Rat),h.length≤n→0≤k→(k≠0∨ev x h=0)→(∃t,ev t h≠0)→
    (∀t,k*ev t q*ev t h+(t - x)*ev t q*ev t (der h)=(t - x)*ev t h*ev t w)→ev x q=0
  |0,h,k,hn,_,_,⟨t,ht⟩,_=>absurd (by rw [List.length_eq_zero_iff.1 (show h.length=0 by omega)];rfl) ht
  |n+1,h,k,hn,hk,hc,⟨t0,ht0⟩,e=>by
    by_cases hx:ev x h=0
    · have hd := der_syn hx
      have hs:∀t,ev t h=(t - x)*ev t (syn x h):=fun t=>by rw [syn_ev x t h,hx];grind
      refine root_key x q w n (syn x h) (k+1) (by rw [syn_len];omega) (by grind) (.inl (by grind)) ⟨t0,fun z=>ht0 (by rw [hs,z];grind)⟩ fun t=> ?_
      have hv:=ev_vanish _ (sub (add (mul [k+1] (mul q (syn x h))) (mul [-x,1] (mul q (der (syn x h))))) (mul [-x,1] (mul (syn x h) w))) (Nat.le_refl _) [x] (fun s hs2=>by
        have hsx:s - x≠0:=fun z=>hs2 (List.mem_cons.2 (.inl (by grind)))
        rw [ev_sub,ev_add,ev_mul,ev_mul,ev_mul,ev_mul,ev_mul,ev_mul,ev_lin,show ev s [k+1]=k+1 by show 0*s+(k+1)=k+1;grind]
        have e1:=e s
        rw [hd s,hs s] at e1
        have e2:(s - x)*((k+1)*(ev s q*ev s (syn x h))+(s - x)*(ev s q*ev s (der (syn x h))) - (s - x)*(ev s (syn x h)*ev s w))=0:=by grind
        rcases Rat.mul_eq_zero.1 e2 with z|z
        · exact absurd z hsx
        · exact z) t
      rw [ev_sub,ev_add,ev_mul,ev_mul,ev_mul,ev_mul,ev_mul,ev_mul,ev_lin,show ev t [k+1]=k+1 by show 0*t+(k+1)=k+1;grind] at hv
      grind
    · have hk0 : k ≠ 0 := hc.resolve_right hx
      have e1:=e x
      have e2:k*ev x q*ev x h=0:=by grind
      rcases Rat.mul_eq_zero.1 e2 with z|z
      · rcases Rat.mul_eq_zero.1 z with z | z
        · exact absurd z hk0
        · exact z
      · exact absurd z hx
theorem ev_some {l:List Rat} (hl:cl l=l) (h:l.length≠0):∃t,ev t l≠0:=Classical.byContradiction fun k=>last_ne hl h (ev_coef l (fun t=>Decidable.byContradiction fun z=>k ⟨t,z⟩) _)
theorem sqf_root {p:List Rat} (hp:(cl p).length≠0) (x:Rat):ev x (sqf p)=0↔ev x p=0:=by
  have hc:=cl_cl p
  have hg:=gcd_cl (cl p) (der (cl p))
  have hn:(gcd (cl p) (der (cl p))).length≠0:=gcd_ne (by rw [hc];exact hp)
  obtain ⟨d1,v,hv⟩:=gcd_dvd (cl p) (der (cl p)) hc (der_cl _)
  have hm:=exact_mul hc hg hn d1
  have he:sqf p=mo (dq (cl p) (gcd (cl p) (der (cl p)))):=if_neg hp
  generalize hG:gcd (cl p) (der (cl p))=g at*
  generalize hQ:dq (cl p) g=q at*
  have hqc:cl q=q:=by rw [← hQ];exact dq_cl _ _
  have hpx:ev x p=ev x q*ev x g:=by rw [← ev_cl,←hm,ev_mul]
  have hqn:q.length≠0:=fun z=>by
    rw [List.length_eq_zero_iff.1 z,mul_nil] at hm
    exact hp (by rw [← hm];rfl)
  have hq0:ev x (sqf p)=0↔ev x q=0:=by
    have:=mo_ev hqc x
    rw [he]
    constructor
    · intro z;rw [z] at this;grind
    · intro z
      rw [z] at this
      rcases Rat.mul_eq_zero.1 this with k|k
      · exact k
      · exact absurd k (last_ne hqc hqn)
  rw [hq0,hpx]
  constructor
  · intro z;rw [z];grind
  · intro z
    rcases Rat.mul_eq_zero.1 z with z|z
    · exact z
    · refine root_key x q (sub v (der q)) g.length g 0 (Nat.le_refl _) (by grind) (.inr z) (ev_some hg hn) fun t => ?_
      have e1:ev t (der (cl p))=ev t (der q)*ev t g+ev t q*ev t (der g):=by
        have:der (cl p)=der (mul q g):=by rw [hm]
        rw [this,der_mul,ev_add,ev_mul,ev_mul]
      rw [hv t] at e1
      rw [ev_sub]
      grind
end Go.Proofs.YtbiaimgafknkmaaGreat.Po
namespace Go.Proofs.YtbiaimgafknkmaaGreat.Po
open Go.Proofs.YtbiaimgafknkmaaGreat.Big
def rf (S:List (List Rat)):Nat→Rat→Rat→Rat×Rat
  |0,a,b=>(a,b)
  |k+1,a,b=>if bt S a (mid a b)=1 then rf S k a (mid a b) else rf S k (mid a b) b
def rfz (S:List (List Rat)) (a b:Rat) (k:Int):Rat×Rat:=if a<b then rf S k.toNat a b else (a,b)
def rfe (S:List (List Rat)) (rt:Rat→Bool) (a b:Rat) (k:Int):Int×Rat×Rat:=
  if S.length=0 then (14,0,0) else if k<0∨200<k then (2,0,0) else if b<a then (5,0,0) else if (sgq (a - b)=0∧rt a=false)∨(sgq (a - b)<0∧bt S a b≠1) then (6,0,0)
  else if rt (rfz S a b k).2=true then (0,(rfz S a b k).2,(rfz S a b k).2) else (0,(rfz S a b k).1,(rfz S a b k).2)
def rtp (p:List Rat) (x:Rat):Bool:=decide (ev x p=0)
theorem mid_lt {a b:Rat} (h:a<b):a<mid a b∧mid a b<b:=by
  unfold mid
  have e:Rat.divInt 1 2=1 / 2:=by decide +kernel
  rw [e]
  constructor <;> grind
theorem mid_ref (a b:Rat):(a+b) / ((2:Int):Rat)=mid a b:=by
  unfold mid
  rw [Rat.div_def,show (((2:Int):Rat))⁻¹ =Rat.divInt 1 2 by decide +kernel]
theorem mid_grow {a b:Rat} {M:Nat} (ha:hq a+2≤M) (hb:hq b+2≤M):hq (mid a b)+2≤2*M:=by
  have:=mid_hq (Nat.le_refl (hq a)) (Nat.le_refl (hq b))
  omega
theorem pow4 (i:Nat):4*2^(i+1)=2*(4*2^i):=by rw [Nat.pow_succ];omega
theorem pow4_le {i:Nat} (h:i≤12):4*2^i≤16384:=Nat.le_trans (Nat.mul_le_mul_left 4 (Nat.pow_le_pow_right (by decide) h)) (by decide)
theorem rf_yes {S:List (List Rat)} {k:Nat} {a b:Rat} (hk:0<k) (h:bt S a (mid a b)=1):rf S k a b=rf S (k - 1) a (mid a b):=by
  obtain ⟨m,rfl⟩:∃m,k=m+1:=⟨k - 1,by omega⟩
  exact if_pos h
theorem rf_no {S:List (List Rat)} {k:Nat} {a b:Rat} (hk:0<k) (h:¬bt S a (mid a b)=1):rf S k a b=rf S (k - 1) (mid a b) b:=by
  obtain ⟨m,rfl⟩:∃m,k=m+1:=⟨k - 1,by omega⟩
  exact if_neg h
theorem sqf_nil (p:List Rat):(sqf p).length=0↔(cl p).length=0:=by
  constructor
  · intro h
    refine Decidable.byContradiction fun k=> ?_
    have he:sqf p=mo (dq (cl p) (gcd (cl p) (der (cl p)))):=if_neg k
    have hn:(gcd (cl p) (der (cl p))).length≠0:=gcd_ne (by rw [cl_cl];exact k)
    have hm:=exact_mul (cl_cl p) (gcd_cl (cl p) (der (cl p))) hn (gcd_dvd (cl p) (der (cl p)) (cl_cl p) (der_cl _)).1
    rw [he,mo_length (dq_cl _ _)] at h
    rw [List.length_eq_zero_iff.1 h,mul_nil] at hm
    exact k (by rw [← hm];rfl)
  · intro h
    unfold sqf
    rw [if_pos h];rfl
theorem sturm_nil (p:List Rat):(sturm p).length=0↔(cl p).length=0:=by
  rw [← sqf_nil]
  unfold sturm
  split
  · rename_i h;exact ⟨fun _=>h,fun _=>rfl⟩
  · rename_i h;exact ⟨fun k=>by simp at k,fun k=>absurd k h⟩
theorem sturm_head {p:List Rat} (h:(sturm p).length≠0):(sturm p).getD 0 []=sqf p:=by
  unfold sturm at*
  split
  · rename_i k;rw [if_pos k] at h;exact absurd rfl h
  · rfl
theorem rfe_same (p:List Rat) (a b:Rat) (k:Int):rfe (sturm p) (rtp ((sturm p).getD 0 [])) a b k=rfe (sturm p) (rtp p) a b k:=by
  by_cases h:(sturm p).length=0
  · unfold rfe;rw [if_pos h,if_pos h]
  · have:rtp ((sturm p).getD 0 [])=rtp p:=funext fun x=>by
      unfold rtp
      rw [sturm_head h]
      exact decide_eq_decide.2 (sqf_root (fun e=>h ((sturm_nil p).2 e)) x)
    rw [this]
theorem rfe0 {S:List (List Rat)} {rt:Rat→Bool} {a b:Rat} {k:Int} (h:S.length=0):rfe S rt a b k=(14,0,0):=if_pos h
theorem rfe1 {S:List (List Rat)} {rt:Rat→Bool} {a b:Rat} {k:Int} (h:S.length≠0) (h1:k<0∨200<k):rfe S rt a b k=(2,0,0):=by unfold rfe;rw [if_neg h,if_pos h1]
theorem rfe2 {S:List (List Rat)} {rt:Rat→Bool} {a b:Rat} {k:Int} (h:S.length≠0) (h1:¬(k<0∨200<k)) (h2:b<a):rfe S rt a b k=(5,0,0):=by unfold rfe;rw [if_neg h,if_neg h1,if_pos h2]
theorem rfe3 {S:List (List Rat)} {rt:Rat→Bool} {a b:Rat} {k:Int} (h:S.length≠0) (h1:¬(k<0∨200<k)) (h2:¬b<a) (h3:(sgq (a - b)=0∧rt a=false)∨(sgq (a - b)<0∧bt S a b≠1)):rfe S rt a b k=(6,0,0):=by unfold rfe;rw [if_neg h,if_neg h1,if_neg h2,if_pos h3]
theorem rfe4 {S:List (List Rat)} {rt:Rat→Bool} {a b lo hi:Rat} {k:Int} (h:S.length≠0) (h1:¬(k<0∨200<k)) (h2:¬b<a) (h3:¬((sgq (a - b)=0∧rt a=false)∨(sgq (a - b)<0∧bt S a b≠1))) (h4:rfz S a b k=(lo,hi)) (h5:rt hi=true):rfe S rt a b k=(0,hi,hi):=by unfold rfe;rw [if_neg h,if_neg h1,if_neg h2,if_neg h3,h4,if_pos h5]
theorem rfe5 {S:List (List Rat)} {rt:Rat→Bool} {a b lo hi:Rat} {k:Int} (h:S.length≠0) (h1:¬(k<0∨200<k)) (h2:¬b<a) (h3:¬((sgq (a - b)=0∧rt a=false)∨(sgq (a - b)<0∧bt S a b≠1))) (h4:rfz S a b k=(lo,hi)) (h5:rt hi=false):rfe S rt a b k=(0,lo,hi):=by unfold rfe;rw [if_neg h,if_neg h1,if_neg h2,if_neg h3,h4,if_neg (by rw [h5];exact Bool.false_ne_true)]
theorem rfe_ab {S:List (List Rat)} {rt:Rat→Bool} {a b lo hi:Rat} {k:Int} (h:S.length≠0) (h1:¬(k<0∨200<k)) (h2:¬b<a) (h3:¬((sgq (a - b)=0∧rt a=false)∨(sgq (a - b)<0∧bt S a b≠1))) (h4:rfz S a b k=(lo,hi)) (h5:¬a<b→lo=a∧hi=b) (h6:sgq (a - b)<0→¬rt hi=true):rfe S rt a b k=(0,lo,hi):=by
  by_cases hs:sgq (a - b)<0
  · exact rfe5 h h1 h2 h3 h4 (by have:=h6 hs;cases e:rt hi <;> simp_all)
  · have hg : ¬ 0 < sgq (a - b) := fun e => h2 (lt_sgq.1 e)
    have h0:sgq (a - b)=0:=by omega
    have e0:a=b:=sgq_sub_zero.1 h0
    obtain ⟨e1,e2⟩:=h5 (fun e=>by rw [e0] at e;grind)
    have hr:rt hi=true:=by
      rw [e2,←e0]
      cases e:rt a with
      |true=>rfl
      |false=>exact absurd (.inl ⟨h0,e⟩) h3
    rw [rfe4 h h1 h2 h3 h4 hr,e1,e2,e0]
theorem sgqn {a b:Rat}:sgq (a - b)<0↔a<b:=by
  rw [sgq_lt]
  constructor <;> intro h <;> grind
theorem rfz_run {S:List (List Rat)} {a0 b0 a b:Rat} {k:Int} {i:Nat} (h:(a0<b0→rf S (k.toNat - i) a b=rf S k.toNat a0 b0)∧(¬a0<b0→a=a0∧b=b0)) (hi:a0<b0→k.toNat≤i):rfz S a0 b0 k=(a,b):=by
  unfold rfz
  split
  · rename_i hl
    rw [← h.1 hl,show k.toNat - i=0 by have:=hi hl;omega];rfl
  · rename_i hl
    obtain ⟨e1,e2⟩:=h.2 hl
    rw [e1,e2]
def rsok (p:List Rat):Prop:=sok p∧rgok (der (cl p)).length (cl p) (der (cl p))
theorem rsok_of {p:List Rat} (hl:p.length≤5) (h:cb 20 p):rsok p:=by
  refine ⟨(sok_of hl h).1,?_⟩
  have hP:cb 20 (cl p):=cb_cl h
  have hPl:=cl_le_len p
  have hD:cb 23 (der (cl p)):=cb_der hP (by omega)
  have hDl:=der_len (cl p)
  have hn:(der (cl p)).length≤4:=by omega
  have hpw:=pow_le (N:=6) hn 23
  have h6:(23+1)*(6+1)^4=57624:=by decide
  exact rgok_cb (N:=6) (by decide) _ 23 _ _ (cl_cl p) (der_cl _) (cb_mono hP (by decide)) hD (by omega) (by omega) (by omega)
theorem rf_hq {S:List (List Rat)}:∀(n M:Nat) (a b:Rat),hq a+2≤M→hq b+2≤M→hq (rf S n a b).1+2≤M*2^n∧hq (rf S n a b).2+2≤M*2^n
  |0,M,a,b,ha,hb=>by rw [Nat.pow_zero,Nat.mul_one];exact ⟨ha,hb⟩
  |n+1,M,a,b,ha,hb=>by
    have hm:=mid_grow ha hb
    have e:M*2^(n+1)=(2*M)*2^n:=by rw [Nat.pow_succ,Nat.mul_comm (2^n) 2,←Nat.mul_assoc,Nat.mul_comm M 2]
    unfold rf
    rw [e]
    split
    · exact rf_hq n (2*M) a (mid a b) (by omega) hm
    · exact rf_hq n (2*M) (mid a b) b hm (by omega)
theorem rfe_hq {S:List (List Rat)} {rt:Rat→Bool} {a b:Rat} {k:Int} (ha:hq a≤2) (hb:hq b≤2) (hk:k≤12∨200<k):hq (rfe S rt a b k).2.1≤20000∧hq (rfe S rt a b k).2.2≤20000:=by
  have h0:hq (0:Rat)≤20000:=by rw [hq_zero];decide
  by_cases hk2:k<0∨200<k
  · unfold rfe
    repeat' split
    all_goals first|exact ⟨h0,h0⟩|(exfalso;simp_all;done)
  · have hz:hq (rfz S a b k).1≤20000∧hq (rfz S a b k).2≤20000:=by
      unfold rfz
      split
      · have h1 := rf_hq (S := S) k.toNat 4 a b (by omega) (by omega)
        have h2:4*2^k.toNat≤4*2^12:=Nat.mul_le_mul_left 4 (Nat.pow_le_pow_right (by decide) (by omega))
        have h3:4*2^12=16384:=by decide
        omega
      · exact ⟨by show hq a≤_;omega,by show hq b≤_;omega⟩
    unfold rfe
    repeat' split
    all_goals first|exact ⟨h0,h0⟩|exact ⟨hz.2,hz.2⟩|exact hz
theorem va_ref {s t:Int} (hs: -1≤s∧s≤1) (ht: -1≤t∧t≤1) (h0:t≠0):s*t<0↔s≠0∧t≠s:=by
  rcases (show s= -1∨s=0∨s=1 by omega) with rfl|rfl|rfl <;> rcases (show t= -1∨t=1 by omega) with rfl|rfl <;> decide
end Go.Proofs.YtbiaimgafknkmaaGreat.Po
namespace Go.Proofs.YtbiaimgafknkmaaGreat.Sp
open Go
set_option linter.unusedVariables false
set_option maxRecDepth 100000
set_option maxHeartbeats 8000000
theorem zeg:Con yd 153 [] [] [] (Y:=Wd×Wd) (fun y=>True) (fun y=> .agg #[y.1.b,y.1.l,y.2.b,y.2.l]) (fun y=>[]) (fun y=>[qF true y.1 y.2 ((1:Int):Rat)]):=by
 refine zl Tryz.func153 rfl rfl rfl (fun c=> ?_)
 show RunC _ _ _ _ _ [] [] []
 refine ze<|za<|zH rfl rfl (zq zr28 rfl) (fun b1=> ?_)
 refine zf<|zd<|ze<|za<|zk rfl rfl (.c rfl .n) ce42 (zPa (z:=1) (hz:=cbd)) (.n) ?_
 rintro ⟨w32,w43⟩ -
 dsimp only [aq,nq,cq]
 refine zi 0 rfl rfl rfl rfl rfl sz28 rfl (.t4 .nil) .z<|zf<|zd<|zE ?_
 exact zw Tryz.results153 (w32,w43) trivial (zn 0 ty28 rfl rfl (.t4 .nil)) rfl (ho:=(.n:PickO _ _ _)) ((.c (j:=0) rfl .n):SelR _ _ _)
theorem zpd {p1:Option Addr} {n1:Nat} {c1:Nat} {l1:List Rat} (hn1:l1.length=n1) (hm1:n1≤800) (hcl:Po.cl l1=l1) (hb:Po.bd 60000000000 l1):Con yd 149 [.slice p1 n1 c1] [] [slF rQ p1 c1 l1] (Y:=(Option Addr)×Nat) (fun y=>True) (fun y=> .slice (y.1) ((Po.mo l1).length) (y.2)) (fun y=>[]) (fun y=>[slF rQ (y.1) (y.2) (Po.mo l1)]):=by
 refine zl Tryz.func149 rfl rfl rfl (fun c=> ?_)
 show RunC _ _ _ _ _ [(0,.slice p1 n1 c1)] [] [slF rQ p1 c1 l1]
 refine zP 0 rfl (fun hL0=> ?_)
 refine ze<|za<|e_p (zb rfl)<|zf<|zd<|ze<|ze<|za<|e_mv rfl<|e_p (zD ya rfl)<|e_p (zna rfl rfl)<|zf<|zd<|zC rfl (fun h7=> ?_) (fun h7=> ?_)
 ·
  refine ze<|za<|e_mv rfl<|e_p (zb rfl)<|zf<|zd<|zE<|zp ?_
  have hv9:(Po.mo l1)=l1:=(if_pos om).trans (List.length_eq_zero_iff.1 om).symm
  exact zw Tryz.results149 (p1,c1) trivial (zo rfl) (by rw [hv9,hn1]) (ho:=(.n:PickO _ _ _)) ((.e (j:=0) rfl (by rw [hv9]) .n):SelR _ _ _)
 ·
  have hne:l1≠[]:=fun e=>h7 (by rw [← hn1,e];rfl)
  have hl0:=Po.lead_ne hcl hne
  have hlq:=Po.lead_hq hb
  have hiq:=Po.inv_hq hb
  have h1q:yc ((1:Int):Rat)=1:=by decide
  refine zB<|zd<|ze<|za<|zk rfl rfl (.n) ce153 (zeg) (.n) ?_
  rintro ⟨w31,w42⟩ -
  dsimp only [aq,nq,cq]
  refine e_mv rfl<|zk rfl rfl (.c rfl .n) ce62 (zVc (p1:=p1) (n1:=n1) (c1:=c1) (l1:=l1) (hn1:=ass) (hm1:=by first|omega|rfl|assumption|decide) (h0:=by first|omega|rfl|assumption|decide)) (.c (j:=1) rfl .n) ?_
  rintro ⟨w33,w44⟩ -
  dsimp only [aq,nq,cq]
  refine zk rfl rfl (.c rfl (.c rfl .n)) ce61 (zLb (k1:=true) (u1:=w31) (v1:=w42) (q1:=((1:Int):Rat)) (k2:=true) (u2:=w33) (v2:=w44) (q2:=(Po.lead l1)) (hl:=om)) (.c (j:=1) rfl (.c (j:=0) rfl .n)) ?_
  rintro ⟨w35,w46⟩ -
  dsimp only [aq,nq,cq]
  refine e_mv rfl<|e_p (zm rfl rfl)<|e_p (zm rfl rfl)<|zH rfl rfl (zq zr28 rfl) (fun b7=> ?_)
  refine zi 0 rfl rfl rfl rfl rfl sz28 rfl (.t4 .nil) .z<|e_p (zb rfl)<|zf<|zd<|ze ?_
  obtain ⟨kq,hkq⟩:∃z:Rat,z=((1:Int):Rat) / (Po.lead l1):=⟨_,rfl⟩
  rw [← hkq]
  have e8:(decide ((Po.lead l1)≠0))=true:=by exact decide_eq_true hl0
  rw [e8]
  refine za<|e_mv rfl<|e_ru (zc 0 ty28 rfl rfl (.t4 .nil))<|zha (addQe 0 rfl)<|zha (addQE 4 rfl)<|zk rfl rfl (.c rfl (.c rfl .n)) ce20 (zuc (p1:=p1) (n1:=n1) (c1:=c1) (l1:=(l1.map some)) (u1:=w35) (v1:=w46) (x1:=(some kq)) (hn1:=by exact (List.length_map _).trans hn1) (hm1:=by first|omega|rfl|assumption|decide) (hb:=by intro i;rw [Po.msome];have h1:=hb i;show _+yc kq+1≤_;have h2:yc kq≤1+60000000000:=hkq ▸ hiq;omega)) (.c (j:=0) rfl (.c (j:=1) rfl .n)) ?_
  rintro ⟨p99,c910⟩ -
  dsimp only [aq,nq,cq]
  refine e_p (zb rfl)<|zf<|zd<|zE ?_
  have e11:(Po.scl (Po.vals (l1.map some)) ((some kq).getD 0):List Rat)=Po.mo l1:=by rw [Po.mo_scl',if_neg om,Po.vals_some,hkq];rfl
  rw [e11]
  exact zw Tryz.results149 (p99,c910) trivial (zo rfl) rfl (ho:=(.n:PickO _ _ _)) ((.c (j:=0) rfl .n):SelR _ _ _)
theorem zCf {p1:Option Addr} {n1:Nat} {c1:Nat} {l1:List (Option Rat)} {p2:Option Addr} {n2:Nat} {c2:Nat} {l2:List (Option Rat)} (hn1:l1.length=n1) (hm1:n1≤190) (hn2:l2.length=n2) (hm2:n2≤190) (hb1:Po.bd 60000000000 (Po.vals l1)) (hb2:Po.bd 60000000000 (Po.vals l2)) (hok:Po.rgok (Po.cl (Po.vals l2)).length (Po.cl (Po.vals l1)) (Po.cl (Po.vals l2))):Con yd 148 [.slice p1 n1 c1,.slice p2 n2 c2] [] [slF rE p1 c1 l1,slF rE p2 c2 l2] (Y:=(Option Addr)×Nat) (fun y=>True) (fun y=> .slice (y.1) ((Po.gcd (Po.vals l1) (Po.vals l2)).length) (y.2)) (fun y=>[]) (fun y=>[slF rQ (y.1) (y.2) (Po.gcd (Po.vals l1) (Po.vals l2))]):=by
 refine zl Tryz.func148 rfl rfl rfl (fun c=> ?_)
 show RunC _ _ _ _ _ [(0,.slice p1 n1 c1),(1,.slice p2 n2 c2)] [] [slF rE p1 c1 l1,slF rE p2 c2 l2]
 refine zP 0 rfl (fun hL0=> ?_)
 refine zP 1 rfl (fun hL1=> ?_)
 have hPl:(Po.cl (Po.vals l1)).length≤n1:=by rw [← hn1,←Po.vals_len l1];exact Po.cl_le_len _
 have hQl:(Po.cl (Po.vals l2)).length≤n2:=by rw [← hn2,←Po.vals_len l2];exact Po.cl_le_len _
 refine ze<|za<|e_p (zb rfl)<|zf<|zd<|ze<|za<|e_mv rfl<|zk rfl rfl (.c rfl .n) ce28 (zHa (p1:=p1) (n1:=n1) (c1:=c1) (l1:=l1) (hn1:=ass) (hm1:=by first|omega|rfl|assumption|exact Po.cl_cl _) (hb1:=by exact Po.bd_mono hb1 dd)) (.c (j:=0) rfl .n) ?_
 rintro ⟨p91,c92⟩ -
 dsimp only [aq,nq,cq]
 refine e_p (zb rfl)<|zf<|zd<|ze<|za<|e_mv rfl<|zk rfl rfl (.c rfl .n) ce28 (zHa (p1:=p2) (n1:=n2) (c1:=c2) (l1:=l2) (hn1:=ass) (hm1:=by first|omega|rfl|assumption|exact Po.cl_cl _) (hb1:=by exact Po.bd_mono hb2 dd)) (.c (j:=2) rfl .n) ?_
 rintro ⟨p93,c94⟩ -
 dsimp only [aq,nq,cq]
 refine e_p (zb rfl)<|zf<|zd<|ze<|zv<|zfa (X:=Nat×(List Rat)×(List Rat)×(Option Addr)×Nat×(Option Addr)×Nat) (fun x:Nat×(List Rat)×(List Rat)×(Option Addr)×Nat×(Option Addr)×Nat=>(x.2.1.length≤190∧x.2.2.1.length≤x.1∧x.1≤190)∧(Po.cl x.2.1=x.2.1∧Po.cl x.2.2.1=x.2.2.1)∧Po.rgok x.1 x.2.1 x.2.2.1∧Po.mo (Po.rg x.1 x.2.1 x.2.2.1)=(Po.gcd (Po.vals l1) (Po.vals l2))) (fun x=>[(6,.slice (x.2.2.2.2.2.1) (x.2.2.1.length) (x.2.2.2.2.2.2)),(5,.slice (x.2.2.2.1) (x.2.1.length) (x.2.2.2.2.1)),(4,.slice none 0 0)]) (fun x=>[]) (fun x=>[slF rQ (x.2.2.2.1) (x.2.2.2.2.1) (x.2.1),slF rQ (x.2.2.2.2.2.1) (x.2.2.2.2.2.2) (x.2.2.1),slF rQ p93 c94 (Po.cl (Po.vals l2)),slF rQ p91 c92 (Po.cl (Po.vals l1)),slF rE p1 c1 l1,slF rE p2 c2 l2]) (fun x:Nat×(List Rat)×(List Rat)×(Option Addr)×Nat×(Option Addr)×Nat=>x.2.2.1.length) (((Po.cl (Po.vals l2)).length),(Po.cl (Po.vals l1)),(Po.cl (Po.vals l2)),p91,c92,p93,c94) (show ((Po.cl (Po.vals l1)).length≤190∧(Po.cl (Po.vals l2)).length≤((Po.cl (Po.vals l2)).length)∧((Po.cl (Po.vals l2)).length)≤190)∧(Po.cl (Po.cl (Po.vals l1))=(Po.cl (Po.vals l1))∧Po.cl (Po.cl (Po.vals l2))=(Po.cl (Po.vals l2)))∧Po.rgok ((Po.cl (Po.vals l2)).length) (Po.cl (Po.vals l1)) (Po.cl (Po.vals l2))∧Po.mo (Po.rg ((Po.cl (Po.vals l2)).length) (Po.cl (Po.vals l1)) (Po.cl (Po.vals l2)))=(Po.gcd (Po.vals l1) (Po.vals l2)) from by exact ⟨⟨by omega,by omega,by omega⟩,⟨Po.cl_cl _,Po.cl_cl _⟩,hok,Po.rg_gcd _ _⟩) ((.of rfl):SubM _ _) (ho:=(.n:PickO _ _ _)) ((.of [1,0,0,1,2,3] rfl):SelR _ _ _) ?_
 rintro ⟨f,p,q,pp,cp,pq,ck⟩ hI
 replace hI:(p.length≤190∧q.length≤f∧f≤190)∧(Po.cl p=p∧Po.cl q=q)∧Po.rgok f p q∧Po.mo (Po.rg f p q)=(Po.gcd (Po.vals l1) (Po.vals l2)):=hI
 try dsimp only
 obtain ⟨⟨hpl,hqf,hf⟩,⟨hcp,hcq⟩,hgk,hge⟩:=hI
 refine ze<|ze<|za<|e_mv rfl<|e_p (zD ya rfl)<|e_p (zwa rfl rfl)<|zf<|zd<|zC rfl (fun h16=> ?_) (fun h16=> ?_)
 ·
  have hg:=Po.rgok_yes hgk (show q.length≠0 by omega) om
  have hrl:=(Po.dqr_len p q).2
  refine zB<|zd<|zv<|ze<|za<|e_mv rfl<|e_mv rfl<|zha (addQE 0 rfl)<|zha (addQE 2 rfl)<|zk rfl rfl (.c rfl (.c rfl .n)) ce27 (zbc (p1:=pp) (n1:=p.length) (c1:=cp) (l1:=(p.map some)) (p2:=pq) (n2:=q.length) (c2:=ck) (l2:=(q.map some)) (hn1:=by exact List.length_map _) (hm1:=by first|omega|rfl|assumption|exact Po.cl_cl _) (hn2:=by exact List.length_map _) (hm2:=by first|omega|rfl|assumption|exact Po.cl_cl _) (hm12:=by first|omega|rfl|assumption|exact Po.cl_cl _) (hb2:=by rw [Po.vals_some];exact hg.1.1) (hok:=by rw [Po.vals_some,Po.vals_some];exact hg.1.2) (hb1:=by rw [Po.vals_some];exact Po.rgok_bd hgk)) (.c (j:=1) rfl (.c (j:=0) rfl .n)) ?_
  rintro ⟨p85,c86,p97,c98⟩ -
  dsimp only [aq,nq,cq]
  refine e_mv rfl<|e_p (zm rfl rfl)<|e_p (zm rfl rfl)<|e_p (zm rfl rfl)<|e_p (zb rfl)<|e_p (zb rfl)<|e_p (zb rfl)<|zf<|zd<|ze ?_
  have e9:(Po.dr (Po.vals (p.map some)) (Po.vals (q.map some)):List Rat)=Po.dr p q:=by rw [Po.vals_some,Po.vals_some]
  rw [e9]
  refine za<|e_mv rfl<|e_p (zb rfl)<|zf<|zd<|za<|e_mv rfl<|e_p (zb rfl)<|zf<|zL<|zT ((f - 1),q,(Po.dr p q),pq,ck,p97,c98) (show (q.length≤190∧(Po.dr p q).length≤(f - 1)∧(f - 1)≤190)∧(Po.cl q=q∧Po.cl (Po.dr p q)=(Po.dr p q))∧Po.rgok (f - 1) q (Po.dr p q)∧Po.mo (Po.rg (f - 1) q (Po.dr p q))=(Po.gcd (Po.vals l1) (Po.vals l2)) from by have h9:=Po.dr_less (p:=p) hcq (show q.length≠0 by omega);exact ⟨⟨by omega,by omega,by omega⟩,⟨hcq,Po.dr_cl _ _⟩,hg.2,by rw [← Po.rg_yes om hqf];exact hge⟩) (by have h8:=Po.dr_less (p:=p) hcq (show q.length≠0 by omega);(show (Po.dr p q).length<q.length;omega)) ((.of rfl):SubM _ _) (ho:=(.n:PickO _ _ _)) ((.of [5,1,6,7,8,9] rfl):SelR _ _ _)
 ·
  refine zca<|zh<|zh<|zt<|zd<|ze<|za<|e_mv rfl<|zk rfl rfl (.c rfl .n) ce149 (zpd (p1:=pp) (n1:=p.length) (c1:=cp) (l1:=p) (hn1:=by first|omega|rfl|assumption|exact Po.cl_cl _) (hm1:=by first|omega|rfl|assumption|exact Po.cl_cl _) (hcl:=ass) (hb:=by exact Po.rgok_bd hgk)) (.c (j:=0) rfl .n) ?_
  rintro ⟨p910,c911⟩ -
  dsimp only [aq,nq,cq]
  refine e_p (zb rfl)<|zf<|zd<|zE ?_
  have hv9:Po.mo p=(Po.gcd (Po.vals l1) (Po.vals l2)):=by rw [← hge,Po.rg_nil om]
  exact zw Tryz.results148 (p910,c911) trivial (zo rfl) (by rw [← hv9]) (ho:=(.n:PickO _ _ _)) ((.e (j:=0) rfl (by rw [← hv9]) .n):SelR _ _ _)
theorem zfg {p1:Option Addr} {n1:Nat} {c1:Nat} {l1:List (Option Rat)} (hn1:l1.length=n1) (hm1:n1≤190) (hok:Po.sqok (Po.vals l1)) (hrg:Po.rgok (Po.der (Po.cl (Po.vals l1))).length (Po.cl (Po.vals l1)) (Po.der (Po.cl (Po.vals l1)))):Con yd 133 [.slice p1 n1 c1] [] [slF rE p1 c1 l1] (Y:=(Option Addr)×Nat) (fun y=>True) (fun y=> .slice (y.1) ((Po.sqf (Po.vals l1)).length) (y.2)) (fun y=>[]) (fun y=>[slF rQ (y.1) (y.2) (Po.sqf (Po.vals l1))]):=by
 refine zl Tryz.func133 rfl rfl rfl (fun c=> ?_)
 show RunC _ _ _ _ _ [(0,.slice p1 n1 c1)] [] [slF rE p1 c1 l1]
 refine zP 0 rfl (fun hL0=> ?_)
 refine ze<|za<|e_p (zb rfl)<|zf<|zd<|ze<|za<|e_mv rfl<|zk rfl rfl (.c rfl .n) ce28 (zHa (p1:=p1) (n1:=n1) (c1:=c1) (l1:=l1) (hn1:=ass) (hm1:=by first|omega|rfl|assumption|exact Po.cl_cl _) (hb1:=by exact Po.bd_mono hok.1 dd)) (.c (j:=0) rfl .n) ?_
 rintro ⟨p91,c92⟩ -
 dsimp only [aq,nq,cq]
 refine e_p (zb rfl)<|zf<|zd<|ze<|ze ?_
 obtain ⟨P,hP⟩:∃z,z=(Po.cl (Po.vals l1)):=⟨_,rfl⟩
 have e3:(Po.cl (Po.vals l1):List Rat)=P:=by exact hP.symm
 rw [e3]
 have hPl:P.length≤n1:=by rw [hP,←hn1,←Po.vals_len l1];exact Po.cl_le_len _
 have hPd:=Po.der_len P
 have hbP:Po.bd 60000000000 P:=by rw [hP];exact Po.bd_cl hok.1
 have hbD:Po.bd 60000000000 (Po.der P):=by rw [hP];exact hok.2.1
 refine za<|e_mv rfl<|e_p (zD ya rfl)<|e_p (zna rfl rfl)<|zf<|zd<|zC rfl (fun h10=> ?_) (fun h10=> ?_)
 ·
  refine ze<|za<|e_mv rfl<|e_p (zb rfl)<|zf<|zd<|zE<|zp ?_
  have hv9:(Po.sqf (Po.vals l1))=P:=(if_pos (by rw [← hP];omega)).trans (List.length_eq_zero_iff.1 om).symm
  exact zw Tryz.results133 (p91,c92) trivial (zo rfl) (by rw [hv9]) (ho:=(.n:PickO _ _ _)) ((.e (j:=0) rfl (by rw [hv9]) .n):SelR _ _ _)
 ·
  obtain ⟨hk1,hk2,hk3⟩:=hok.2.2 (by rw [← hP];omega)
  rw [← hP] at hk1 hk2 hk3
  have hgl:=Po.gcd_len P (Po.der P)
  have hdl:=(Po.dqr_len P (Po.gcd P (Po.der P))).1
  have hPc:Po.cl P=P:=by rw [hP];exact Po.cl_cl _
  refine zB<|zd<|ze<|za<|e_mv rfl<|e_mv rfl<|e_mv rfl<|zha (addQE 0 rfl)<|zk rfl rfl (.c rfl .n) ce34 (zWc (p1:=p91) (n1:=(P).length) (c1:=c92) (l1:=((P).map some)) (hn1:=by exact List.length_map _) (hm1:=by first|omega|rfl|assumption|exact Po.cl_cl _) (hb1:=by intro i;rw [Po.msome];exact Nat.le_trans (hbP i) dd)) (.c (j:=0) rfl .n) ?_
  rintro ⟨p94,c95⟩ -
  dsimp only [aq,nq,cq]
  have e6:(Po.der (Po.vals ((P).map some)):List Rat)=Po.der P:=by rw [Po.vals_some]
  rw [e6]
  refine zha (addQE 0 rfl)<|zk rfl rfl (.c rfl (.c rfl .n)) ce148 (zCf (p1:=p91) (n1:=(P).length) (c1:=c92) (l1:=((P).map some)) (p2:=p94) (n2:=(Po.der P).length) (c2:=c95) (l2:=((Po.der P).map some)) (hn1:=by exact List.length_map _) (hm1:=by first|omega|rfl|assumption|exact Po.cl_cl _) (hn2:=by exact List.length_map _) (hm2:=by first|omega|rfl|assumption|exact Po.cl_cl _) (hb1:=by rw [Po.vals_some];exact hbP) (hb2:=by rw [Po.vals_some];exact hbD) (hok:=by rw [Po.vals_some,Po.vals_some];rw [Po.der_cl,hPc,hP];exact hrg)) (.c (j:=2) rfl (.c (j:=0) rfl .n)) ?_
  rintro ⟨p97,c98⟩ -
  dsimp only [aq,nq,cq]
  have e9:(Po.gcd (Po.vals ((P).map some)) (Po.vals ((Po.der P).map some)):List Rat)=Po.gcd P (Po.der P):=by rw [Po.vals_some,Po.vals_some]
  rw [e9]
  refine zha (addQE 0 rfl)<|zk rfl rfl (.c rfl (.c rfl .n)) ce27 (zbc (p1:=p91) (n1:=(P).length) (c1:=c92) (l1:=((P).map some)) (p2:=p97) (n2:=(Po.gcd P (Po.der P)).length) (c2:=c98) (l2:=((Po.gcd P (Po.der P)).map some)) (hn1:=by exact List.length_map _) (hm1:=by first|omega|rfl|assumption|exact Po.cl_cl _) (hn2:=by exact List.length_map _) (hm2:=by first|omega|rfl|assumption|exact Po.cl_cl _) (hm12:=by first|omega|rfl|assumption|exact Po.cl_cl _) (hb2:=by rw [Po.vals_some];exact hk2.1) (hok:=by rw [Po.vals_some,Po.vals_some];exact hk2.2) (hb1:=by rw [Po.vals_some];exact hbP)) (.c (j:=4) rfl (.c (j:=0) rfl .n)) ?_
  rintro ⟨p810,c811,p912,c913⟩ -
  dsimp only [aq,nq,cq]
  refine e_mv rfl<|e_p (zm rfl rfl)<|e_p (zm rfl rfl)<|e_p (zm rfl rfl)<|e_p (zb rfl)<|e_p (zb rfl)<|e_p (zb rfl)<|zf<|zd<|ze ?_
  have e14:(Po.dq (Po.vals ((P).map some)) (Po.vals ((Po.gcd P (Po.der P)).map some)):List Rat)=Po.dq P (Po.gcd P (Po.der P)):=by rw [Po.vals_some,Po.vals_some]
  rw [e14]
  refine za<|e_mv rfl<|zk rfl rfl (.c rfl .n) ce149 (zpd (p1:=p810) (n1:=(Po.dq P (Po.gcd P (Po.der P))).length) (c1:=c811) (l1:=(Po.dq P (Po.gcd P (Po.der P)))) (hn1:=by first|omega|rfl|assumption|exact Po.cl_cl _) (hm1:=by first|omega|rfl|assumption|exact Po.cl_cl _) (hcl:=by exact Po.dq_cl _ _) (hb:=by exact hk3)) (.c (j:=0) rfl .n) ?_
  rintro ⟨p915,c916⟩ -
  dsimp only [aq,nq,cq]
  refine e_p (zb rfl)<|zf<|zd<|zE ?_
  have hv9:(Po.sqf (Po.vals l1))=Po.mo (Po.dq P (Po.gcd P (Po.der P))):=by unfold Po.sqf;rw [← hP,if_neg om]
  exact zw Tryz.results133 (p915,c916) trivial (zo rfl) (by rw [hv9]) (ho:=(.n:PickO _ _ _)) ((.e (j:=0) rfl (by rw [hv9]) .n):SelR _ _ _)
end Go.Proofs.YtbiaimgafknkmaaGreat.Sp
namespace Go.Proofs.YtbiaimgafknkmaaGreat.Sp
open Go
set_option linter.unusedVariables false
set_option maxRecDepth 100000
set_option maxHeartbeats 8000000
theorem zZc {p1:Option Addr} {n1:Nat} {c1:Nat} {l1:List (Option Rat)} (hn1:l1.length=n1) (hm1:n1≤1000) (hb1:∀i,yc ((Po.vals l1).getD i 0)≤1000000000000):Con yd 33 [.slice p1 n1 c1] [] [slF rE p1 c1 l1] (Y:=Unit) (fun y=>True) (fun y=> .int .i64 ((((Po.cl (Po.vals l1)).length:Nat):Int) - 1)) (fun y=>[]) (fun y=>[]):=by
 refine zl Tryz.func33 rfl rfl rfl (fun c=> ?_)
 show RunC _ _ _ _ _ [(0,.slice p1 n1 c1)] [] [slF rE p1 c1 l1]
 refine zP 0 rfl (fun hL0=> ?_)
 have hcl:(Po.cl (Po.vals l1)).length≤n1:=by rw [← hn1,←Po.vals_len l1];exact Po.cl_le_len _
 refine ze<|za<|e_p (zb rfl)<|zf<|zd<|ze<|za<|e_mv rfl<|zk rfl rfl (.c rfl .n) ce28 (zHa (p1:=p1) (n1:=n1) (c1:=c1) (l1:=l1) (hn1:=ass) (hm1:=ass) (hb1:=ass)) (.c (j:=0) rfl .n) ?_
 rintro ⟨p91,c92⟩ -
 dsimp only [aq,nq,cq]
 refine e_p (zD ya rfl)<|e_p (zZ (z:=((((Po.cl (Po.vals l1)).length:Nat):Int) - 1)) rfl rfl (w64 om))<|e_p (zb rfl)<|zf<|zd<|zE ?_
 exact zw Tryz.results33 () trivial (zo rfl) rfl (ho:=(.n:PickO _ _ _)) (.n:SelR _ _ _)
end Go.Proofs.YtbiaimgafknkmaaGreat.Sp
namespace Go.Proofs.YtbiaimgafknkmaaGreat.Sp
open Go
set_option linter.unusedVariables false
set_option maxRecDepth 100000
set_option maxHeartbeats 8000000
theorem zVe {p1:Option Addr} {n1:Nat} {c1:Nat} {l1:List (Option Rat)} (hn1:l1.length=n1) (hm1:n1≤190) (hok:Po.rsok (Po.vals l1)):Con yd 105 [.slice p1 n1 c1] [] [slF rE p1 c1 l1] (Y:=(Option Addr)×Nat) (fun y=>True) (fun y=> .slice (y.1) ((Po.sturm (Po.vals l1)).length) (y.2)) (fun y=>[]) (fun y=>[slF (rS rQ) (y.1) (y.2) (Po.sturm (Po.vals l1))]):=by
 refine zl Tryz.func105 rfl rfl rfl (fun c=> ?_)
 show RunC _ _ _ _ _ [(0,.slice p1 n1 c1)] [] [slF rE p1 c1 l1]
 refine zP 0 rfl (fun hL0=> ?_)
 refine ze<|za<|e_p (zb rfl)<|zf<|zd<|ze<|za<|e_mv rfl<|zk rfl rfl (.c rfl .n) ce133 (zfg (p1:=p1) (n1:=n1) (c1:=c1) (l1:=l1) (hn1:=ass) (hm1:=ass) (hok:=by exact hok.1.1) (hrg:=by exact hok.2)) (.c (j:=0) rfl .n) ?_
 rintro ⟨p91,c92⟩ -
 dsimp only [aq,nq,cq]
 refine e_p (zb rfl)<|zf<|zd<|ze<|ze ?_
 obtain ⟨A0,hA0⟩:∃z,z=(Po.sqf (Po.vals l1)):=⟨_,rfl⟩
 have e3:(Po.sqf (Po.vals l1):List Rat)=A0:=by exact hA0.symm
 rw [e3]
 have hAl:A0.length≤n1:=by rw [hA0,←hn1,←Po.vals_len l1];exact Po.sqf_len _
 have hAc:Po.cl A0=A0:=by rw [hA0];exact Po.sqf_cl _
 obtain ⟨⟨hk1,hk2,hk3,hk4⟩,hk5⟩:=hok
 rw [← hA0] at hk2 hk3 hk4
 have hAd:=Po.der_len A0
 refine za<|e_mv rfl<|e_p (zD ya rfl)<|e_p (zna rfl rfl)<|zf<|zd<|zC rfl (fun h13=> ?_) (fun h13=> ?_)
 ·
  refine ze<|za<|zqa rfl rfl (zea (rS rQ) ye inf23) (fun b4 _=> ?_)
  refine e_p (zb rfl)<|zf<|zd<|zE<|zp<|zYa 0 rfl .z ?_
  have hv9:(Po.sturm (Po.vals l1))=[]:=if_pos (by rw [← hA0];omega)
  exact zw Tryz.results105 (some ⟨b4,0,none⟩,0) trivial (zo rfl) (by rw [hv9];rfl) (ho:=(.n:PickO _ _ _)) ((.e (j:=0) rfl (by rw [hv9]) .n):SelR _ _ _)
 ·
  refine zB<|zd<|ze<|za<|e_mv rfl<|zqa rfl rfl (zdc 0 rfl ye inf23 rfl (by first|rfl|assumption|(simp;done)|omega)) (fun b5 _=> ?_)
  refine e_p (zb rfl)<|zf<|zd<|ze<|za<|e_mv rfl<|zha (addQE 0 rfl)<|zk rfl rfl (.c rfl .n) ce34 (zWc (p1:=p91) (n1:=(A0).length) (c1:=c92) (l1:=((A0).map some)) (hn1:=by exact List.length_map _) (hm1:=by first|omega|rfl|assumption|decide) (hb1:=by intro i;rw [Po.msome];exact Nat.le_trans (hk2 i) dd)) (.c (j:=0) rfl .n) ?_
  rintro ⟨p96,c97⟩ -
  dsimp only [aq,nq,cq]
  refine e_p (zb rfl)<|zf<|zd<|ze<|zv ?_
  have e8:(Po.der (Po.vals ((A0).map some)):List Rat)=Po.der A0:=by rw [Po.vals_some]
  rw [e8]
  refine zfa (X:=Nat×(List Rat)×(List Rat)×(Option Addr)×Nat×(Option Addr)×Nat×(Option Addr)×Nat×(List (List Rat))) (fun x:Nat×(List Rat)×(List Rat)×(Option Addr)×Nat×(Option Addr)×Nat×(Option Addr)×Nat×(List (List Rat))=>Po.bd 60000000000 x.2.1∧(x.2.1.length≤190∧x.2.2.1.length≤x.1∧x.1≤190∧x.2.2.2.2.2.2.2.2.2.length+x.1≤200)∧(Po.cl x.2.1=x.2.1∧Po.cl x.2.2.1=x.2.2.1)∧Po.stok x.1 x.2.1 x.2.2.1∧x.2.2.2.2.2.2.2.2.2++Po.st x.1 x.2.1 x.2.2.1=(Po.sturm (Po.vals l1))) (fun x=>[(4,.slice (x.2.2.2.2.2.2.2.1) (x.2.2.2.2.2.2.2.2.2.length) (x.2.2.2.2.2.2.2.2.1)),(5,.slice (x.2.2.2.2.2.1) (x.2.2.1.length) (x.2.2.2.2.2.2.1)),(3,.slice (x.2.2.2.1) (x.2.1.length) (x.2.2.2.2.1)),(2,.slice none 0 0)]) (fun x=>[rowA 23 (rS rQ) (x.2.2.2.2.2.2.2.1) (x.2.2.2.2.2.2.2.2.1) (x.2.2.2.2.2.2.2.2.2)]) (fun x=>[slF rQ (x.2.2.2.1) (x.2.2.2.2.1) (x.2.1),slF rQ (x.2.2.2.2.2.1) (x.2.2.2.2.2.2.1) (x.2.2.1),slF rQ p96 c97 (Po.der A0),slF rE p91 c92 ((A0).map some),slF rQ p91 c92 A0,slF rE p1 c1 l1]) (fun x:Nat×(List Rat)×(List Rat)×(Option Addr)×Nat×(Option Addr)×Nat×(Option Addr)×Nat×(List (List Rat))=>x.2.2.1.length) (A0.length,A0,(Po.der A0),p91,c92,p96,c97,some ⟨b5,0,none⟩,1,[A0]) (show Po.bd 60000000000 A0∧(A0.length≤190∧(Po.der A0).length≤A0.length∧A0.length≤190∧([A0]).length+A0.length≤200)∧(Po.cl A0=A0∧Po.cl (Po.der A0)=(Po.der A0))∧Po.stok A0.length A0 (Po.der A0)∧([A0])++Po.st A0.length A0 (Po.der A0)=(Po.sturm (Po.vals l1)) from by exact ⟨hk2,⟨by omega,by omega,by omega,by show 1+A0.length≤200;omega⟩,⟨hAc,Po.der_cl _⟩,hk4,by unfold Po.sturm;rw [← hA0,if_neg om];rfl⟩) ((.e rfl (by first|rfl|(congr 1;omega)|simp_all) (.c rfl (.e rfl (by first|rfl|(congr 1;omega)|simp_all) (.c rfl .n)))):SubM _ _) (ho:=((.e (i:=0) rfl (by first|rfl|(congr 1;omega)|simp_all) .n):PickO _ _ _)) ((.e (j:=2) rfl (by first|rfl|simp_all) (.of [0,0,1,2,3] rfl)):SelR _ _ _) ?_
  rintro ⟨f,a,b,pa,ca,pb,cb,pR,cR,A⟩ hI
  replace hI:Po.bd 60000000000 a∧(a.length≤190∧b.length≤f∧f≤190∧A.length+f≤200)∧(Po.cl a=a∧Po.cl b=b)∧Po.stok f a b∧A++Po.st f a b=(Po.sturm (Po.vals l1)):=hI
  try dsimp only
  obtain ⟨hba,⟨hal,hbf,hf,hAf⟩,⟨hca,hcb⟩,hsk,hst⟩:=hI
  refine ze<|ze<|za<|e_mv rfl<|e_p (zD ya rfl)<|e_p (zwa rfl rfl)<|zf<|zd<|zC rfl (fun h20=> ?_) (fun h20=> ?_)
  ·
   have hg:=Po.stok_yes hsk (show b.length≠0 by omega) om
   have hrl:=(Po.dqr_len a b).2
   refine zB<|zd<|zv<|ze<|za<|e_mv rfl<|e_mv rfl<|zqa rfl rfl (zdc 1 rfl ye inf23 rfl (by first|rfl|assumption|(simp;done)|omega)) (fun b9 _=> ?_)
   refine zV 0 rfl .z<|zya 1 rfl rfl rfl (zma 0 rfl ye inf23 dd rfl rfl (by first|rfl|assumption|(simp;done)|omega) rfl (by first|rfl|assumption|(simp;done)|omega) om om) (fun _=>(.s .z)) ?_
   rintro ⟨p10,c11⟩ -
   dsimp only [aq,nq,cq]
   refine e_p (zb rfl)<|zf<|zd<|ze<|za<|e_mv rfl<|e_mv rfl<|zha (addQE 1 rfl)<|zha (addQE 3 rfl)<|zk rfl rfl (.c rfl (.c rfl .n)) ce27 (zbc (p1:=pa) (n1:=a.length) (c1:=ca) (l1:=(a.map some)) (p2:=pb) (n2:=b.length) (c2:=cb) (l2:=(b.map some)) (hn1:=by exact List.length_map _) (hm1:=by first|omega|rfl|assumption|decide) (hn2:=by exact List.length_map _) (hm2:=by first|omega|rfl|assumption|decide) (hm12:=by first|omega|rfl|assumption|decide) (hb2:=by rw [Po.vals_some];exact hg.2.1.1) (hok:=by rw [Po.vals_some,Po.vals_some];exact hg.2.1.2) (hb1:=by rw [Po.vals_some];exact hba)) (.c (j:=1) rfl (.c (j:=0) rfl .n)) ?_
   rintro ⟨p812,c813,p914,c915⟩ -
   dsimp only [aq,nq,cq]
   refine e_mv rfl<|e_p (zm rfl rfl)<|e_p (zm rfl rfl)<|e_p (zm rfl rfl)<|e_p (zb rfl)<|e_p (zb rfl)<|e_p (zb rfl)<|zf<|zd<|ze ?_
   have e16:(Po.dr (Po.vals (a.map some)) (Po.vals (b.map some)):List Rat)=Po.dr a b:=by rw [Po.vals_some,Po.vals_some]
   rw [e16]
   refine za<|e_mv rfl<|e_p (zb rfl)<|zf<|zd<|za<|e_mv rfl<|zk rfl rfl (.c rfl .n) ce42 (zPa (z:=(-1)) (hz:=by first|omega|rfl|assumption|decide)) (.n) ?_
   rintro ⟨w317,w418⟩ -
   dsimp only [aq,nq,cq]
   refine zha (addQe 0 rfl)<|zha (addQE 3 rfl)<|zk rfl rfl (.c rfl (.c rfl .n)) ce20 (zuc (p1:=p914) (n1:=(Po.dr a b).length) (c1:=c915) (l1:=((Po.dr a b).map some)) (u1:=w317) (v1:=w418) (x1:=(some (((-1):Int):Rat))) (hn1:=by exact List.length_map _) (hm1:=by first|omega|rfl|assumption|decide) (hb:=by intro i;rw [Po.msome];have h1:=hg.2.2.1 i;have h2:yc ((-1:Int):Rat)=1:=dd;show _+yc ((-1:Int):Rat)+1≤_;omega)) (.c (j:=0) rfl (.c (j:=1) rfl .n)) ?_
   rintro ⟨p919,c920⟩ -
   dsimp only [aq,nq,cq]
   refine e_p (zb rfl)<|zf<|zL ?_
   have e21:(Po.scl (Po.vals ((Po.dr a b).map some)) ((some (((-1):Int):Rat)).getD 0):List Rat)=Po.mul (Po.dr a b) [((-1:Int):Rat)]:=by rw [Po.vals_some];exact Po.scl_mul _ _
   rw [e21]
   refine zT ((f - 1),b,(Po.mul (Po.dr a b) [((-1:Int):Rat)]),pb,cb,p919,c920,p10,c11,(A++([b]))) (show Po.bd 60000000000 b∧(b.length≤190∧(Po.mul (Po.dr a b) [((-1:Int):Rat)]).length≤(f - 1)∧(f - 1)≤190∧(A++([b])).length+(f - 1)≤200)∧(Po.cl b=b∧Po.cl (Po.mul (Po.dr a b) [((-1:Int):Rat)])=(Po.mul (Po.dr a b) [((-1:Int):Rat)]))∧Po.stok (f - 1) b (Po.mul (Po.dr a b) [((-1:Int):Rat)])∧(A++([b]))++Po.st (f - 1) b (Po.mul (Po.dr a b) [((-1:Int):Rat)])=(Po.sturm (Po.vals l1)) from by have h9:=Po.sdr_len (a:=a) hcb (show b.length≠0 by omega) hbf;exact ⟨hg.1,⟨by omega,h9,by omega,by rw [List.length_append];show A.length+1+(f - 1)≤200;omega⟩,⟨hcb,Po.mul_cl _ _⟩,hg.2.2.2,by rw [List.append_assoc,List.singleton_append,←Po.st_yes om hbf];exact hst⟩) (by have h9:=Po.sdr_len (n:=b.length) (a:=a) hcb (show b.length≠0 by omega) (Nat.le_refl _);(show (Po.mul (Po.dr a b) [((-1:Int):Rat)]).length<b.length;omega)) ((.e rfl (by simp) (.of rfl)):SubM _ _) (ho:=((.c (i:=1) rfl .n):PickO _ _ _)) ((.of [10,0,11,12,13,14] rfl):SelR _ _ _)
  ·
   refine zca<|zh<|zh<|zt<|zd<|ze<|za<|e_mv rfl<|e_p (zb rfl)<|zf<|zd<|zE<|zYa 0 rfl .z ?_
   have hv9:A=(Po.sturm (Po.vals l1)):=by rw [← hst,Po.st_nil om,List.append_nil]
   exact zw Tryz.results105 (pR,cR) trivial (zo rfl) (by rw [← hv9]) (ho:=(.n:PickO _ _ _)) ((.e (j:=0) rfl (by rw [← hv9]) .n):SelR _ _ _)
theorem zEe {pL:Option Addr} {nL:Nat} {cL:Nat} {L:List (List Rat)} {u1:Wd} {v1:Wd} {x1:Rat} (hnL:L.length=nL) (hmL:nL≤400) (hx:yc x1≤100000000000) (hv:Po.vok L x1):Con yd 106 [.slice pL nL cL,.agg #[u1.b,u1.l,v1.b,v1.l]] [] [slF (rS rQ) pL cL L,qF true u1 v1 x1] (Y:=Unit) (fun y=>True) (fun y=> .int .i64 (Po.vr L x1)) (fun y=>[]) (fun y=>[]):=by
 refine zl Tryz.func106 rfl rfl rfl (fun c=> ?_)
 show RunC _ _ _ _ _ [(0,.slice pL nL cL),(1,.agg #[u1.b,u1.l,v1.b,v1.l])] [] [slF (rS rQ) pL cL L,qF true u1 v1 x1]
 refine zP 0 rfl (fun hL0=> ?_)
 refine ze<|za<|zH rfl rfl (zN rfl rfl) (fun b1=> ?_)
 refine e_p (zb rfl)<|zf<|zd<|ze<|za<|e_p (zb rfl)<|zf<|zd<|ze<|za<|e_p (zb rfl)<|zf<|zd<|ze<|ze<|za<|e_p (zb rfl)<|zf<|zd<|zv<|zfa (X:=Nat×Int×Int) (fun x:Nat×Int×Int=>(x.1≤nL∧0≤x.2.1∧x.2.1≤x.1∧ -1≤x.2.2∧x.2.2≤1)∧Po.va x1 (L.drop x.1) x.2.1 x.2.2=Po.vr L x1) (fun x=>[(6,.int .i64 (x.2.2)),(5,.int .i64 (x.2.1)),(7,.int .i64 ((x.1:Nat):Int)),(4,.int .i64 0),(3,.pointer (some ⟨b1,0,none⟩)),(0,.slice pL nL cL)]) (fun x=>[boxA b1 28 (cw [u1,v1])]) (fun x=>[slF (rS rQ) pL cL L,qF true u1 v1 x1]) (fun x:Nat×Int×Int=>nL - x.1) (0,0,0) (show (0≤nL∧0≤0∧0≤0∧ -1≤0∧0≤1)∧Po.va x1 (L.drop 0) 0 0=Po.vr L x1 from by exact ⟨by omega,rfl⟩) ((.c rfl (.c rfl (.e rfl (by first|rfl|(congr 1;omega)|simp_all) (.of rfl)))):SubM _ _) (ho:=((.c (i:=0) rfl .n):PickO _ _ _)) ((.of [0,1] rfl):SelR _ _ _) ?_
 rintro ⟨i,n,s⟩ hI
 replace hI:(i≤nL∧0≤n∧n≤i∧ -1≤s∧s≤1)∧Po.va x1 (L.drop i) n s=Po.vr L x1:=hI
 try dsimp only [cw]
 obtain ⟨⟨hi,hn0,hni,hs1,hs2⟩,hvr⟩:=hI
 have hss: -1≤s∧s≤1:=⟨hs1,hs2⟩
 refine ze<|ze<|za<|e_mv rfl<|e_mv rfl<|e_p (zD ye rfl)<|e_p (zY rfl rfl)<|zf<|zd<|zC rfl (fun h13=> ?_) (fun h13=> ?_)
 ·
  have hiL:i<nL:=by omega
  have hw:=hv (L.getD i []) (by rw [List.getD_eq_getElem?_getD,List.getElem?_eq_getElem om];exact List.getElem_mem _)
  have hva:=Po.va_step x1 (show i<L.length by omega) n s
  refine zB<|zd<|ze<|zv<|ze<|zW (OW:=[]) (O:=[boxA b1 28 (cw [u1,v1])]) 100000 mixed (.then (.block (.then (.then (.block (.then .ret)))))) kr<|e_dm 0 rfl rfl rfl<|e_dm 1 rfl rfl rfl<|d_vl 2 rfl rfl kr kr rfl rfl (zja (x0:=(L.getD i [])) 0 i rfl ye sz23 rfl (by first|rfl|assumption|(simp;done)|omega) rfl rfl (gD (d:=[]) om)) ?_
  rintro ⟨b2,o3,p4,c5⟩ -
  dsimp only [aq,nq,cq]
  refine e_u 3 rfl rfl (zr (j:=0) 0 ty23 rfl rfl rfl rfl)<|e_u 4 rfl rfl (zc 0 ty28 rfl rfl (.t4 .nil))<|zTa (addQe 3 rfl)<|zTa (addQE 2 rfl)<|e_one 5 (zu rfl rfl rfl rfl (.c rfl (.c rfl .n)) ce35 (zSd (p1:=p4) (n1:=(L.getD i []).length) (c1:=c5) (l1:=((L.getD i []).map some)) (u1:=u1) (v1:=v1) (x1:=(some x1)) (hn1:=by exact List.length_map _) (hm1:=by exact Nat.le_trans hw.1 dd) (hx:=by exact Nat.le_trans hx dd) (hb1:=by intro j;rw [Po.msome];exact Nat.le_trans (hw.2.1 j) dd) (hs:=by intro j;rw [Po.vals_some];exact hw.2.2 j)) (.c (j:=0) rfl (.c (j:=1) rfl .n)) ?_)
  rintro ⟨w36,w47⟩ -
  dsimp only [aq,nq,cq]
  have e8:(Po.ev ((some x1).getD 0) (Po.vals ((L.getD i []).map some)):Rat)=Po.ev x1 (L.getD i []):=by rw [Po.vals_some];rfl
  rw [e8]
  refine e_one 6 (zKa rfl rfl rfl rfl (.c rfl .n) ce63 (zTb (k1:=true) (u1:=w36) (v1:=w47) (q1:=(Po.ev x1 (L.getD i []))) (hl:=by exact Nat.le_trans (hw.2.2 0) dd)) (.c (j:=0) rfl .n) ?_)
  refine e_pv 7 rfl rfl (zb rfl)<|zU kr<|zd<|ze<|za<|e_mv rfl<|e_p (zfb rfl rfl)<|zf<|zd<|zC rfl (fun h21=> ?_) (fun h21=> ?_)
  ·
   rw [if_neg h21] at hva
   have hvr9:=Po.va_ref hss (ym (Po.ev x1 (L.getD i []))) h21
   refine ze<|zQa (X:=Unit) (fun x=>True) (fun x=>[(30,.bool (decide ((s≠0)∧(yf (Po.ev x1 (L.getD i []))≠s)))),(8,.int .i64 (yf (Po.ev x1 (L.getD i [])))),(6,.int .i64 s),(5,.int .i64 n),(7,.int .i64 ((i:Nat):Int)),(4,.int .i64 0),(3,.pointer (some ⟨b1,0,none⟩)),(0,.slice pL nL cL)]) (fun x=>[boxA b1 28 (cw [u1,v1])]) (fun x=>[qF true w36 w47 (Po.ev x1 (L.getD i [])),slF rE p4 c5 ((L.getD i []).map some),eF u1 v1 (some x1),atF b2 o3 [.slice p4 ((L.getD i []).length) c5],slF rQ p4 c5 (L.getD i []),slF (rS rQ) pL cL L,qF true u1 v1 x1]) ?_ ?_
   ·
    refine za<|e_mv rfl<|e_p (zfb rfl rfl)<|zS rfl rfl (zaa rfl) (fun h9=> ?_) (fun h9=> ?_)
    ·
     refine e_mv rfl<|e_mv rfl<|e_p (zfb rfl rfl)<|e_p (zy rfl rfl)<|zf ?_
     exact zka () (show True from by first|trivial|omega|simp_all) ((.e rfl (congrArg Value.bool cbu) (.of rfl)):SubM _ _) (ho:=((.c (i:=0) rfl .n):PickO _ _ _)) ((.of [0,1,2,3,4,5,6] rfl):SelR _ _ _)
    ·
     refine e_no<|e_no<|e_no<|e_p (zy rfl rfl)<|zf ?_
     exact zka () (show True from by first|trivial|omega|simp_all) ((.e rfl (congrArg Value.bool cbu) (.of rfl)):SubM _ _) (ho:=((.c (i:=0) rfl .n):PickO _ _ _)) ((.of [0,1,2,3,4,5,6] rfl):SelR _ _ _)
   ·
    rintro ⟨⟩ -
    try dsimp only [cw]
    refine zC rfl (fun h25=> ?_) (fun h25=> ?_)
    ·
     rw [if_pos (hvr9.2 h25)] at hva
     refine za<|e_mv rfl<|e_p (zJ (z:=(n+1)) rfl rfl (w64 om))<|e_p (zb rfl)<|zf<|zd<|za<|e_mv rfl<|e_p (zb rfl)<|zf<|zL<|zd<|za<|e_mv rfl<|e_p (zJ (z:=(((i+1):Nat):Int)) rfl rfl (w64 om))<|e_p (zb rfl)<|zf<|zT ((i+1),(n+1),yf (Po.ev x1 (L.getD i []))) (show ((i+1)≤nL∧0≤(n+1)∧(n+1)≤(i+1)∧ -1≤(yf (Po.ev x1 (L.getD i [])))∧(yf (Po.ev x1 (L.getD i [])))≤1)∧Po.va x1 (L.drop (i+1)) (n+1) (yf (Po.ev x1 (L.getD i [])))=Po.vr L x1 from by have h9:=ym (Po.ev x1 (L.getD i []));exact ⟨by omega,hva.symm.trans hvr⟩) (by show nL - (i+1)<nL - i;omega) ((.of rfl):SubM _ _) (ho:=((.c (i:=0) rfl .n):PickO _ _ _)) ((.of [5,6] rfl):SelR _ _ _)
    ·
     rw [if_neg (fun k=>h25 (hvr9.1 k))] at hva
     refine zB<|zd<|za<|e_mv rfl<|e_p (zb rfl)<|zf<|zL<|zd<|za<|e_mv rfl<|e_p (zJ (z:=(((i+1):Nat):Int)) rfl rfl (w64 om))<|e_p (zb rfl)<|zf<|zT ((i+1),n,yf (Po.ev x1 (L.getD i []))) (show ((i+1)≤nL∧0≤n∧n≤(i+1)∧ -1≤(yf (Po.ev x1 (L.getD i [])))∧(yf (Po.ev x1 (L.getD i [])))≤1)∧Po.va x1 (L.drop (i+1)) n (yf (Po.ev x1 (L.getD i [])))=Po.vr L x1 from by have h9:=ym (Po.ev x1 (L.getD i []));exact ⟨by omega,hva.symm.trans hvr⟩) (by show nL - (i+1)<nL - i;omega) ((.of rfl):SubM _ _) (ho:=((.c (i:=0) rfl .n):PickO _ _ _)) ((.of [5,6] rfl):SelR _ _ _)
  ·
   rw [if_pos (Decidable.not_not.1 h21)] at hva
   refine zB<|zL<|zd<|za<|e_mv rfl<|e_p (zJ (z:=(((i+1):Nat):Int)) rfl rfl (w64 om))<|e_p (zb rfl)<|zf<|zT ((i+1),n,s) (show ((i+1)≤nL∧0≤n∧n≤(i+1)∧ -1≤s∧s≤1)∧Po.va x1 (L.drop (i+1)) n s=Po.vr L x1 from by exact ⟨by omega,hva.symm.trans hvr⟩) (by show nL - (i+1)<nL - i;omega) ((.of rfl):SubM _ _) (ho:=((.c (i:=0) rfl .n):PickO _ _ _)) ((.of [5,6] rfl):SelR _ _ _)
 ·
  refine zca<|zh<|zh<|zt<|zd<|ze<|za<|e_mv rfl<|e_p (zb rfl)<|zf<|zd<|zE ?_
  have hv9:n=Po.vr L x1:=by rw [← hvr,List.drop_eq_nil_of_le om];rfl
  exact zw Tryz.results106 () trivial (zo rfl) (by rw [hv9]) (ho:=(.n:PickO _ _ _)) (.n:SelR _ _ _)
theorem zqd {p1:Option Addr} {n1:Nat} {c1:Nat} {l1:List (Option Rat)} {u1:Wd} {v1:Wd} {x1:Rat} {u2:Wd} {v2:Wd} {x2:Rat} (hn1:l1.length=n1) (hm1:n1≤190) (hok:Po.rsok (Po.vals l1)) (hne:(Po.cl (Po.vals l1)).length≠0) (hlS:(Po.sturm (Po.vals l1)).length≤400) (hx1:yc x1≤100000000000) (hx2:yc x2≤100000000000) (hv1:Po.vok (Po.sturm (Po.vals l1)) x1) (hv2:Po.vok (Po.sturm (Po.vals l1)) x2) (hle:¬x2<x1):Con yd 72 [.slice p1 n1 c1,.agg #[u1.b,u1.l,v1.b,v1.l],.agg #[u2.b,u2.l,v2.b,v2.l]] [] [slF rE p1 c1 l1,qF true u1 v1 x1,qF true u2 v2 x2] (Y:=Unit) (fun y=>True) (fun y=> .tuple #[.int .i64 (Po.bt (Po.sturm (Po.vals l1)) x1 x2),.int .i64 0]) (fun y=>[]) (fun y=>[]):=by
 refine zl Tryz.func72 rfl rfl rfl (fun c=> ?_)
 show RunC _ _ _ _ _ [(0,.slice p1 n1 c1),(1,.agg #[u1.b,u1.l,v1.b,v1.l]),(2,.agg #[u2.b,u2.l,v2.b,v2.l])] [] [slF rE p1 c1 l1,qF true u1 v1 x1,qF true u2 v2 x2]
 refine zP 0 rfl (fun hL0=> ?_)
 have g1:=Po.vr_rng (Po.sturm (Po.vals l1)) x1
 have g2:=Po.vr_rng (Po.sturm (Po.vals l1)) x2
 refine ze<|za<|zH rfl rfl (zN rfl rfl) (fun b1=> ?_)
 refine zH rfl rfl (zN rfl rfl) (fun b2=> ?_)
 refine e_p (zb rfl)<|e_p (zb rfl)<|zf<|zd<|ze<|ze<|za<|e_mv rfl<|zM rfl rfl (.c rfl .n) ce33 (zZc (p1:=p1) (n1:=n1) (c1:=c1) (l1:=l1) (hn1:=ass) (hm1:=by first|omega|rfl|assumption|decide) (hb1:=by exact Po.bd_mono hok.1.1.1 dd)) (.c (j:=0) rfl .n)<|e_p (zY rfl rfl)<|zf<|zd<|zC rfl (fun h13=> ?_) (fun h13=> ?_)
 ·
  omega
 ·
  refine zB<|zd<|ze<|ze<|za<|e_ru (zc 1 ty28 rfl rfl (.t4 .nil))<|e_ru (zc 0 ty28 rfl rfl (.t4 .nil))<|zM rfl rfl (.c rfl (.c rfl .n)) ce44 (zzb (k1:=true) (u1:=u1) (v1:=v1) (q1:=x1) (k2:=true) (u2:=u2) (v2:=v2) (q2:=x2) (hl:=by first|omega|rfl|assumption|decide)) (.c (j:=1) rfl (.c (j:=2) rfl .n))<|e_p (zwa rfl rfl)<|zf<|zd<|zC rfl (fun h17=> ?_) (fun h17=> ?_)
  ·
   exact absurd (Po.lt_sgq.1 h17) hle
  ·
   refine zB<|zd<|ze<|za<|e_mv rfl<|zk rfl rfl (.c rfl .n) ce105 (zVe (p1:=p1) (n1:=n1) (c1:=c1) (l1:=l1) (hn1:=ass) (hm1:=ass) (hok:=ass)) (.c (j:=0) rfl .n) ?_
   rintro ⟨p93,c94⟩ -
   dsimp only [aq,nq,cq]
   refine e_p (zb rfl)<|zf<|zd<|ze<|zW (OW:=[]) (O:=[boxA b2 28 (cw [u2,v2]),boxA b1 28 (cw [u1,v1])]) 100000 mixed (.then .ret) kr<|e_dm 0 rfl rfl rfl<|e_u 1 rfl rfl (zc 1 ty28 rfl rfl (.t4 .nil))<|e_dm 3 rfl rfl rfl<|e_u 4 rfl rfl (zc 0 ty28 rfl rfl (.t4 .nil))<|e_one 2 (zKa rfl rfl rfl rfl (.c rfl (.c rfl .n)) ce106 (zEe (pL:=p93) (nL:=(Po.sturm (Po.vals l1)).length) (cL:=c94) (L:=(Po.sturm (Po.vals l1))) (u1:=u1) (v1:=v1) (x1:=x1) (hnL:=by rfl) (hmL:=ass) (hx:=ass) (hv:=ass)) (.c (j:=0) rfl (.c (j:=2) rfl .n)) ?_)
   refine e_one 5 (zKa rfl rfl rfl rfl (.c rfl (.c rfl .n)) ce106 (zEe (pL:=p93) (nL:=(Po.sturm (Po.vals l1)).length) (cL:=c94) (L:=(Po.sturm (Po.vals l1))) (u1:=u2) (v1:=v2) (x1:=x2) (hnL:=by rfl) (hmL:=ass) (hx:=ass) (hv:=ass)) (.c (j:=0) rfl (.c (j:=3) rfl .n)) ?_)
   refine e_pv 6 rfl rfl (zZ (z:=((Po.vr (Po.sturm (Po.vals l1)) x1) - (Po.vr (Po.sturm (Po.vals l1)) x2))) rfl rfl (w64 om))<|e_pv 7 rfl rfl (zb rfl)<|e_pv 8 rfl rfl (zb rfl)<|zU kr<|zd<|zE ?_
   exact zua Tryz.results72 () trivial (zo rfl) (zo rfl) rfl (ho:=(.n:PickO _ _ _)) (.n:SelR _ _ _)
theorem zle {u1:Wd} {v1:Wd} {x1:Rat} {u2:Wd} {v2:Wd} {x2:Rat} (hx1:yc x1≤100000000000) (hx2:yc x2≤100000000000):Con yd 74 [.agg #[u1.b,u1.l,v1.b,v1.l],.agg #[u2.b,u2.l,v2.b,v2.l]] [] [qF true u1 v1 x1,qF true u2 v2 x2] (Y:=Wd×Wd) (fun y=>True) (fun y=> .agg #[y.1.b,y.1.l,y.2.b,y.2.l]) (fun y=>[]) (fun y=>[qF true y.1 y.2 (Po.mid x1 x2)]):=by
 refine zl Tryz.func74 rfl rfl rfl (fun c=> ?_)
 show RunC _ _ _ _ _ [(0,.agg #[u1.b,u1.l,v1.b,v1.l]),(1,.agg #[u2.b,u2.l,v2.b,v2.l])] [] [qF true u1 v1 x1,qF true u2 v2 x2]
 refine ze<|za<|zH rfl rfl (zN rfl rfl) (fun b1=> ?_)
 refine zH rfl rfl (zN rfl rfl) (fun b2=> ?_)
 refine zH rfl rfl (zq zr28 rfl) (fun b3=> ?_)
 refine zf<|zd<|ze<|za<|e_ru (zc 2 ty28 rfl rfl (.t4 .nil))<|e_ru (zc 1 ty28 rfl rfl (.t4 .nil))<|zk rfl rfl (.c rfl (.c rfl .n)) ce23 (zKb (k1:=true) (u1:=u1) (v1:=v1) (q1:=x1) (k2:=true) (u2:=u2) (v2:=v2) (q2:=x2) (hl:=by first|omega|rfl|assumption|decide)) (.c (j:=0) rfl (.c (j:=1) rfl .n)) ?_
 rintro ⟨w34,w45⟩ -
 dsimp only [aq,nq,cq]
 refine zk rfl rfl (.c rfl .n) ce42 (zPa (z:=2) (hz:=by first|omega|rfl|assumption|decide)) (.n) ?_
 rintro ⟨w36,w47⟩ -
 dsimp only [aq,nq,cq]
 refine zk rfl rfl (.c rfl (.c rfl .n)) ce61 (zLb (k1:=true) (u1:=w34) (v1:=w45) (q1:=x1+x2) (k2:=true) (u2:=w36) (v2:=w47) (q2:=((2:Int):Rat)) (hl:=by have h1:=Big.hq_add x1 x2;have h5:yc ((2:Int):Rat)=1:=dd;omega)) (.c (j:=1) rfl (.c (j:=0) rfl .n)) ?_
 rintro ⟨w38,w49⟩ -
 dsimp only [aq,nq,cq]
 refine e_mv rfl<|e_p (zm rfl rfl)<|e_p (zm rfl rfl)<|zH rfl rfl (zq zr28 rfl) (fun b10=> ?_)
 refine zi 0 rfl rfl rfl rfl rfl sz28 rfl (.t4 .nil) .z<|e_p (zb rfl)<|zf<|zd<|ze ?_
 have e11:(decide (((2:Int):Rat)≠0))=true:=by exact decide_eq_true (by decide +kernel)
 rw [e11]
 refine za<|e_ru (zc 0 ty28 rfl rfl (.t4 .nil))<|zi 1 rfl rfl rfl rfl rfl sz28 rfl (.t4 .nil) (.s .z)<|zf<|zd<|zE ?_
 exact zw Tryz.results74 (w38,w49) trivial (zn 1 ty28 rfl rfl (.t4 .nil)) rfl (ho:=(.n:PickO _ _ _)) ((.e (j:=0) rfl (by rw [← Po.mid_ref]) .n):SelR _ _ _)
theorem zad {p1:Option Addr} {n1:Nat} {c1:Nat} {l1:List (Option Rat)} {u1:Wd} {v1:Wd} {x1:Rat} (hn1:l1.length=n1) (hm1:n1≤1000) (hx:yc x1≤100000000000) (hb1:∀i,yc ((l1.getD i none).getD 0)≤200000000000) (hs:∀i,yc (Po.ev x1 ((Po.vals l1).drop i))≤200000000000):Con yd 73 [.slice p1 n1 c1,.agg #[u1.b,u1.l,v1.b,v1.l]] [] [slF rE p1 c1 l1,qF true u1 v1 x1] (Y:=Unit) (fun y=>True) (fun y=> .bool (decide (Po.ev x1 (Po.vals l1)=0))) (fun y=>[]) (fun y=>[]):=by
 refine zl Tryz.func73 rfl rfl rfl (fun c=> ?_)
 show RunC _ _ _ _ _ [(0,.slice p1 n1 c1),(1,.agg #[u1.b,u1.l,v1.b,v1.l])] [] [slF rE p1 c1 l1,qF true u1 v1 x1]
 refine zP 0 rfl (fun hL0=> ?_)
 refine ze<|za<|zH rfl rfl (zN rfl rfl) (fun b1=> ?_)
 refine e_p (zb rfl)<|zf<|zd<|ze<|za<|e_mv rfl<|e_ru (zc 0 ty28 rfl rfl (.t4 .nil))<|zha (addQe 1 rfl)<|zk rfl rfl (.c rfl (.c rfl .n)) ce35 (zSd (p1:=p1) (n1:=n1) (c1:=c1) (l1:=l1) (u1:=u1) (v1:=v1) (x1:=(some x1)) (hn1:=ass) (hm1:=ass) (hx:=by exact Nat.le_trans hx dd) (hb1:=ass) (hs:=by exact hs)) (.c (j:=1) rfl (.c (j:=0) rfl .n)) ?_
 rintro ⟨w32,w43⟩ -
 dsimp only [aq,nq,cq]
 refine zM rfl rfl (.c rfl .n) ce63 (zTb (k1:=true) (u1:=w32) (v1:=w43) (q1:=(Po.ev ((some x1).getD 0) (Po.vals l1))) (hl:=by exact Nat.le_trans (hs 0) dd)) (.c (j:=0) rfl .n)<|e_p (zna rfl rfl)<|e_p (zb rfl)<|zf<|zd<|zE ?_
 exact zw Tryz.results73 () trivial (zo rfl) (congrArg Value.bool (decide_eq_decide.2 Big.sgq_zero.symm)) (ho:=(.n:PickO _ _ _)) (.n:SelR _ _ _)
theorem zbd {pL:Option Addr} {nL:Nat} {cL:Nat} {L:List (List Rat)} {bl:Nat} {u1:Wd} {v1:Wd} {x1:Rat} (hnL:L.length=nL) (h0:0<nL) (hx:yc x1≤100000000000) (hv:Po.vok L x1):Con yd 69 [.agg #[u1.b,u1.l,v1.b,v1.l],.pointer (some ⟨bl,0,none⟩)] [] [atF bl 0 [.slice pL nL cL],slF (rS rQ) pL cL L,qF true u1 v1 x1] (Y:=Unit) (fun y=>True) (fun y=> .bool (decide (Po.ev x1 (L.getD 0 [])=0))) (fun y=>[]) (fun y=>[]):=by
 refine zl Tryz.func69 rfl rfl rfl (fun c=> ?_)
 show RunC _ _ _ _ _ [(0,.agg #[u1.b,u1.l,v1.b,v1.l]),(1,.pointer (some ⟨bl,0,none⟩))] [] [atF bl 0 [.slice pL nL cL],slF (rS rQ) pL cL L,qF true u1 v1 x1]
 refine zP 1 rfl (fun hL1=> ?_)
 have hw:=hv (L.getD 0 []) (by rw [List.getD_eq_getElem?_getD,List.getElem?_eq_getElem om];exact List.getElem_mem _)
 refine ze<|za<|zH rfl rfl (zN rfl rfl) (fun b1=> ?_)
 refine e_p (zb rfl)<|zf<|zd<|ze<|zW (OW:=[]) (O:=[boxA b1 28 (cw [u1,v1])]) 100000 mixed (.then .ret) kr<|e_u 0 rfl rfl (zr (j:=0) 0 ty76 rfl rfl rfl rfl)<|d_vl 1 rfl rfl kr kr rfl rfl (zja (x0:=(L.getD 0 [])) 1 0 rfl ye sz23 rfl (by first|rfl|assumption|(simp;done)|omega) rfl rfl (gD (d:=[]) om)) ?_
 rintro ⟨b2,o3,p4,c5⟩ -
 dsimp only [aq,nq,cq]
 refine e_u 2 rfl rfl (zr (j:=0) 0 ty23 rfl rfl rfl rfl)<|e_u 3 rfl rfl (zc 0 ty28 rfl rfl (.t4 .nil))<|zTa (addQe 4 rfl)<|zTa (addQE 2 rfl)<|e_one 4 (zu rfl rfl rfl rfl (.c rfl (.c rfl .n)) ce21 (zRd (p1:=p4) (n1:=(L.getD 0 []).length) (c1:=c5) (l1:=((L.getD 0 []).map some)) (u1:=u1) (v1:=v1) (x1:=(some x1)) (hn1:=by exact List.length_map _) (hm1:=by exact Nat.le_trans hw.1 dd) (hx:=by exact Nat.le_trans hx dd) (hb1:=by intro j;rw [Po.msome];exact Nat.le_trans (hw.2.1 j) dd) (hs:=by intro j;rw [Po.vals_some];exact hw.2.2 j)) (.c (j:=0) rfl (.c (j:=1) rfl .n)) ?_)
 rintro ⟨w36,w47⟩ -
 dsimp only [aq,nq,cq]
 refine e_one 5 (zKa rfl rfl rfl rfl (.c rfl .n) ce65 (zPc (k1:=true) (u1:=w36) (v1:=w47) (q1:=(Po.ev ((some x1).getD 0) (Po.vals ((L.getD 0 []).map some))))) (.c (j:=0) rfl .n) ?_)
 refine e_pv 6 rfl rfl (zna rfl rfl)<|e_pv 7 rfl rfl (zb rfl)<|zU kr<|zd<|zE ?_
 exact zw Tryz.results69 () trivial (zo rfl) (congrArg Value.bool (decide_eq_decide.2 (by rw [Po.vals_some];exact Big.sgq_zero.symm))) (ho:=(.n:PickO _ _ _)) (.n:SelR _ _ _)
end Go.Proofs.YtbiaimgafknkmaaGreat.Sp
namespace Go.Proofs.YtbiaimgafknkmaaGreat.Sp
open Go
set_option linter.unusedVariables false
set_option maxRecDepth 100000
set_option maxHeartbeats 8000000
theorem zme {p1:Option Addr} {n1:Nat} {c1:Nat} {l1:List (Option Rat)} {u1:Wd} {v1:Wd} {x1:Option Rat} {u2:Wd} {v2:Wd} {x2:Option Rat} {k:Int} (hn1:l1.length=n1) (hm1:n1≤190) (hok:Po.rsok (Po.vals l1)) (hlS:(Po.sturm (Po.vals l1)).length≤400) (hvk:∀z,yc z≤100000→Po.vok (Po.sturm (Po.vals l1)) z) (hev:∀z,yc z≤100000→∀i,yc (Po.ev z ((Po.vals l1).drop i))≤200000000000) (hx1:yc (x1.getD 0)≤2) (hx2:yc (x2.getD 0)≤2) (hk:k≤12∨200<k):Con yd 37 [.slice p1 n1 c1,.agg #[u1.b,u1.l,v1.b,v1.l,u2.b,u2.l,v2.b,v2.l],.int .i64 k] [] [slF rE p1 c1 l1,eF u1 v1 x1,eF u2 v2 x2] (Y:=Wd×Wd×Wd×Wd) (fun y=>True) (fun y=> .tuple #[.agg #[y.1.b,y.1.l,y.2.1.b,y.2.1.l,y.2.2.1.b,y.2.2.1.l,y.2.2.2.b,y.2.2.2.l],.int .i64 ((Po.rfe (Po.sturm (Po.vals l1)) (Po.rtp ((Po.sturm (Po.vals l1)).getD 0 [])) (x1.getD 0) (x2.getD 0) k).1)]) (fun y=>[]) (fun y=>[qF (decide ((Po.rfe (Po.sturm (Po.vals l1)) (Po.rtp ((Po.sturm (Po.vals l1)).getD 0 [])) (x1.getD 0) (x2.getD 0) k).1=0)) y.1 y.2.1 ((Po.rfe (Po.sturm (Po.vals l1)) (Po.rtp ((Po.sturm (Po.vals l1)).getD 0 [])) (x1.getD 0) (x2.getD 0) k).2.1),qF (decide ((Po.rfe (Po.sturm (Po.vals l1)) (Po.rtp ((Po.sturm (Po.vals l1)).getD 0 [])) (x1.getD 0) (x2.getD 0) k).1=0)) y.2.2.1 y.2.2.2 ((Po.rfe (Po.sturm (Po.vals l1)) (Po.rtp ((Po.sturm (Po.vals l1)).getD 0 [])) (x1.getD 0) (x2.getD 0) k).2.2)]):=by
 refine zl Tryz.func37 rfl rfl rfl (fun c=> ?_)
 show RunC _ _ _ _ _ [(0,.slice p1 n1 c1),(1,.agg #[u1.b,u1.l,v1.b,v1.l,u2.b,u2.l,v2.b,v2.l]),(2,.int .i64 k)] [] [slF rE p1 c1 l1,eF u1 v1 x1,eF u2 v2 x2]
 refine zP 0 rfl (fun hL0=> ?_)
 refine zJc (qF x1.isSome u1 v1 (x1.getD 0)) (eF_weak 1 rfl)<|zJc (qF x2.isSome u2 v2 (x2.getD 0)) (eF_weak 3 rfl)<|ze<|za<|zH rfl rfl (zN rfl rfl) (fun b1=> ?_)
 refine zH rfl rfl (zq zr48 rfl) (fun b2=> ?_)
 refine e_p (zb rfl)<|zf<|zd<|ze<|za<|e_mv rfl<|zk rfl rfl (.c rfl .n) ce67 (zvc (p1:=p1) (n1:=n1) (c1:=c1) (l1:=l1) (hn1:=ass) (hm1:=ass) (hok:=by exact hok.1)) (.c (j:=2) rfl .n) ?_
 rintro ⟨p93,c94⟩ -
 dsimp only [aq,nq,cq]
 refine zH rfl rfl (zq zr76 rfl) (fun b5=> ?_)
 refine zi 0 rfl rfl rfl rfl rfl sz76 rfl (.take .nil) .z<|zf<|zd<|ze<|ze<|za<|e_ru (zj 0 ty76 rfl rfl rfl)<|e_p (zD ye rfl)<|e_p (zna rfl rfl)<|zf<|zd<|zC rfl (fun h19=> ?_) (fun h19=> ?_)
 ·
  refine ze<|za<|e_p (zI zr48 rfl yb (.c sz28 (.c sz28 .n)) .n .n)<|zi 1 rfl rfl rfl rfl rfl sz48 rfl (.t8 .nil) (.s .z)<|e_p (zb rfl)<|zf<|zd<|zE<|zp<|zSa (qF false wz wz 0) (fun g _=>qF_none g) ?_
  have hv9:(Po.rfe (Po.sturm (Po.vals l1)) (Po.rtp ((Po.sturm (Po.vals l1)).getD 0 [])) (x1.getD 0) (x2.getD 0) k)=(14,0,0):=Po.rfe0 om
  exact zua yk (wz,wz,wz,wz) trivial (zn 1 ty48 rfl rfl (.t8 .nil)) (zo rfl) (by rw [hv9];rfl) (ho:=(.n:PickO _ _ _)) ((.e (j:=0) rfl (by rw [hv9];rfl) (.e (j:=0) rfl (by rw [hv9];rfl) .n)):SelR _ _ _)
 ·
  have hS0:(Po.sturm (Po.vals l1)).length≠0:=by omega
  refine zB<|zd<|ze<|zQa (X:=Unit) (fun x=>True) (fun x=>[(26,.bool (decide ((k<0)∨(200<k)))),(8,.pointer (some ⟨b5,0,none⟩)),(7,.int .i64 0),(6,.pointer (some ⟨b2,0,none⟩)),(4,.pointer (some ⟨b1,0,none⟩)),(2,.int .i64 k)]) (fun x=>[boxA b5 76 [.slice p93 ((Po.sturm (Po.vals l1)).length) c94],boxA b2 48 (cw [wz,wz,wz,wz]),boxA b1 48 (cw [u1,v1,u2,v2])]) (fun x=>[slF (rS rQ) p93 c94 (Po.sturm (Po.vals l1)),qF x2.isSome u2 v2 (x2.getD 0),qF x1.isSome u1 v1 (x1.getD 0),slF rE p1 c1 l1,eF u1 v1 x1,eF u2 v2 x2]) ?_ ?_
  ·
   refine za<|e_mv rfl<|e_p (zY rfl rfl)<|zS rfl rfl (zaa rfl) (fun h6=> ?_) (fun h6=> ?_)
   ·
    refine e_no<|e_no<|e_p (zy rfl rfl)<|zf ?_
    exact zka () (show True from by first|trivial|omega|simp_all) ((.e rfl (congrArg Value.bool cbu) (.of rfl)):SubM _ _) (ho:=((.of [0,0,0] rfl):PickO _ _ _)) ((.of [0,1,2,3,4,5] rfl):SelR _ _ _)
   ·
    refine e_mv rfl<|e_p (zwa rfl rfl)<|e_p (zy rfl rfl)<|zf ?_
    exact zka () (show True from by first|trivial|omega|simp_all) ((.e rfl (congrArg Value.bool cbu) (.of rfl)):SubM _ _) (ho:=((.of [0,0,0] rfl):PickO _ _ _)) ((.of [0,1,2,3,4,5] rfl):SelR _ _ _)
  ·
   rintro ⟨⟩ -
   try dsimp only [cw]
   refine zC rfl (fun h26=> ?_) (fun h26=> ?_)
   ·
    refine ze<|za<|e_p (zI zr48 rfl yb (.c sz28 (.c sz28 .n)) .n .n)<|zi 1 rfl rfl rfl rfl rfl sz48 rfl (.t8 .nil) (.s .z)<|e_p (zb rfl)<|zf<|zd<|zE<|zp<|zSa (qF false wz wz 0) (fun g _=>qF_none g) ?_
    have hv9:(Po.rfe (Po.sturm (Po.vals l1)) (Po.rtp ((Po.sturm (Po.vals l1)).getD 0 [])) (x1.getD 0) (x2.getD 0) k)=(2,0,0):=Po.rfe1 hS0 h26
    exact zua yk (wz,wz,wz,wz) trivial (zn 1 ty48 rfl rfl (.t8 .nil)) (zo rfl) (by rw [hv9];rfl) (ho:=(.n:PickO _ _ _)) ((.e (j:=0) rfl (by rw [hv9];rfl) (.e (j:=0) rfl (by rw [hv9];rfl) .n)):SelR _ _ _)
   ·
    refine zB<|zd<|ze<|zW (OW:=[]) (O:=[boxA b5 76 [.slice p93 ((Po.sturm (Po.vals l1)).length) c94],boxA b2 48 (cw [wz,wz,wz,wz]),boxA b1 48 (cw [u1,v1,u2,v2])]) 8 mixed (.then .ret) kr<|e_pv 0 rfl rfl (zg yb rfl sz28 rfl rfl)<|e_u 1 rfl rfl (zc 2 ty28 rfl rfl (.t4 .nil))<|e_pv 3 rfl rfl (zg yb rfl sz28 rfl rfl)<|e_u 4 rfl rfl (zc 2 ty28 rfl rfl (.s4 (.t4 .nil)))<|zFd (m':=[(32,.agg (cw [u2,v2]).toArray),(29,.agg (cw [u1,v1]).toArray),(8,.pointer (some ⟨b5,0,none⟩)),(7,.int .i64 0),(6,.pointer (some ⟨b2,0,none⟩)),(2,.int .i64 k)]) (R':=[slF (rS rQ) p93 c94 (Po.sturm (Po.vals l1)),qF x2.isSome u2 v2 (x2.getD 0),qF x1.isSome u1 v1 (x1.getD 0),slF rE p1 c1 l1,eF u1 v1 x1,eF u2 v2 x2]) ((.of rfl):SubM _ _) (List.Perm.refl _) (List.Perm.refl _) ((.of [0,1,2,3,4,5] rfl):SelR _ _ _)<|zCa (X:=Wd×Wd×Wd×Wd×Nat×Nat) (k':=0) (L':=(lb 10 1023)) (fun (u2_1,u2_2,u5_1,u5_2,u6_1,u7_1)=>([(10,.pointer (some ⟨u7_1,0,none⟩)),(9,.pointer (some ⟨u6_1,0,none⟩)),(8,.pointer (some ⟨b5,0,none⟩)),(7,.int .i64 0),(6,.pointer (some ⟨b2,0,none⟩)),(2,.int .i64 k)],[boxA u7_1 28 (cw [u5_1,u5_2]),boxA u6_1 28 (cw [u2_1,u2_2])],[boxA b5 76 [.slice p93 ((Po.sturm (Po.vals l1)).length) c94],boxA b2 48 (cw [wz,wz,wz,wz]),boxA b1 48 (cw [u1,v1,u2,v2])],[qF true u5_1 u5_2 (x2.getD 0),qF true u2_1 u2_2 (x1.getD 0),slF (rS rQ) p93 c94 (Po.sturm (Po.vals l1)),qF x2.isSome u2 v2 (x2.getD 0),qF x1.isSome u1 v1 (x1.getD 0),slF rE p1 c1 l1,eF u1 v1 x1,eF u2 v2 x2])) ?_ (fun hD0=> ?_)
    ·
     rintro ⟨u2_1,u2_2,u5_1,u5_2,u6_1,u7_1⟩
     dsimp only [cw]
     refine zU kr<|zd<|ze<|za<|e_ru (zc 1 ty28 rfl rfl (.t4 .nil))<|e_ru (zc 0 ty28 rfl rfl (.t4 .nil))<|zM rfl rfl (.c rfl (.c rfl .n)) ce68 (zIb (k1:=true) (u1:=u2_1) (v1:=u2_2) (q1:=(x1.getD 0)) (k2:=true) (u2:=u5_1) (v2:=u5_2) (q2:=(x2.getD 0)) (hl:=om)) (.c (j:=1) rfl (.c (j:=0) rfl .n))<|e_p (zb rfl)<|zf<|zd<|ze<|ze<|za<|e_mv rfl<|e_p (zwa rfl rfl)<|zf<|zd<|zC rfl (fun h38=> ?_) (fun h38=> ?_)
     ·
      refine ze<|za<|e_p (zI zr48 rfl yb (.c sz28 (.c sz28 .n)) .n .n)<|zi 3 rfl rfl rfl rfl rfl sz48 rfl (.t8 .nil) (.s (.s (.s .z)))<|e_p (zb rfl)<|zf<|zd<|zE<|zp<|zSa (qF false wz wz 0) (fun g _=>qF_none g) ?_
      have hv9:(Po.rfe (Po.sturm (Po.vals l1)) (Po.rtp ((Po.sturm (Po.vals l1)).getD 0 [])) (x1.getD 0) (x2.getD 0) k)=(5,0,0):=Po.rfe2 hS0 h26 (Po.lt_sgq.1 h38)
      exact zua yk (wz,wz,wz,wz) trivial (zn 3 ty48 rfl rfl (.t8 .nil)) (zo rfl) (by rw [hv9];rfl) (ho:=(.n:PickO _ _ _)) ((.e (j:=0) rfl (by rw [hv9];rfl) (.e (j:=0) rfl (by rw [hv9];rfl) .n)):SelR _ _ _)
     ·
      have hle:¬(x2.getD 0)<(x1.getD 0):=fun e=>h38 (Po.lt_sgq.2 e)
      refine zB<|zd<|ze<|zIc 2 rfl (.s (.s .z))<|za<|e_p (zYb .n (.c rfl .n))<|e_p (zb rfl)<|zf<|zd<|ze<|zQa (X:=Unit) (fun x=>True) (fun x=>[(59,.bool (decide ((yf ((x1.getD 0) - (x2.getD 0))=0∧(Po.rtp ((Po.sturm (Po.vals l1)).getD 0 [])) (x1.getD 0)=false)∨(yf ((x1.getD 0) - (x2.getD 0))<0∧Po.bt (Po.sturm (Po.vals l1)) (x1.getD 0) (x2.getD 0)≠1)))),(12,.func (.func 69) #[] #[.pointer (some ⟨b5,0,none⟩)]),(11,.int .i64 (yf ((x1.getD 0) - (x2.getD 0)))),(10,.pointer (some ⟨u7_1,0,none⟩)),(9,.pointer (some ⟨u6_1,0,none⟩)),(8,.pointer (some ⟨b5,0,none⟩)),(7,.int .i64 0),(6,.pointer (some ⟨b2,0,none⟩)),(2,.int .i64 k)]) (fun x=>[boxA u7_1 28 (cw [u5_1,u5_2]),boxA u6_1 28 (cw [u2_1,u2_2]),boxA b2 48 (cw [wz,wz,wz,wz]),boxA b1 48 (cw [u1,v1,u2,v2])]) (fun x=>[atF b5 0 [.slice p93 ((Po.sturm (Po.vals l1)).length) c94],qF true u5_1 u5_2 (x2.getD 0),qF true u2_1 u2_2 (x1.getD 0),slF (rS rQ) p93 c94 (Po.sturm (Po.vals l1)),qF x2.isSome u2 v2 (x2.getD 0),qF x1.isSome u1 v1 (x1.getD 0),slF rE p1 c1 l1,eF u1 v1 x1,eF u2 v2 x2]) ?_ ?_
      ·
       refine za<|e_mv rfl<|e_p (zna rfl rfl)<|zS rfl rfl (zaa rfl) (fun h7=> ?_) (fun h7=> ?_)
       ·
        refine e_mv rfl<|e_ru (zc 1 ty28 rfl rfl (.t4 .nil))<|zgd (first:=[]) (cap:=[.pointer (some ⟨b5,0,none⟩)]) rfl rfl rfl (.c rfl .n) ce69 (zbd (pL:=p93) (nL:=(Po.sturm (Po.vals l1)).length) (cL:=c94) (L:=(Po.sturm (Po.vals l1))) (bl:=b5) (u1:=u2_1) (v1:=u2_2) (x1:=(x1.getD 0)) (hnL:=by rfl) (h0:=om) (hx:=by first|omega|rfl|assumption) (hv:=by exact hvk _ om)) (.c (j:=0) rfl (.c (j:=3) rfl (.c (j:=2) rfl .n))) ?_
        rintro ⟨⟩ -
        dsimp only [aq,nq,cq]
        refine e_p (zZa rfl)<|e_p (zy rfl rfl)<|zS rfl rfl (zaa rfl) (fun h8=> ?_) (fun h8=> ?_)
        ·
         refine e_no<|e_no<|e_no<|e_no<|e_no<|e_no<|e_no<|e_no<|e_no<|e_p (zy rfl rfl)<|zf ?_
         exact zka () (show True from by first|trivial|omega|simp_all) ((.e rfl (congrArg Value.bool (by first|omega|(simp_all [Po.rtp];done)|(simp_all [Po.rtp];omega))) (.of rfl)):SubM _ _) (ho:=((.of [0,0,1,1] rfl):PickO _ _ _)) ((.of [0,1,2,3,4,5,6,7,8] rfl):SelR _ _ _)
        ·
         refine e_mv rfl<|e_p (zY rfl rfl)<|zS rfl rfl (zaa rfl) (fun h9=> ?_) (fun h9=> ?_)
         ·
          refine e_ru (zr (j:=0) 0 ty76 rfl rfl rfl rfl)<|e_ru (zc 1 ty28 rfl rfl (.t4 .nil))<|e_ru (zc 0 ty28 rfl rfl (.t4 .nil))<|zM rfl rfl (.c rfl (.c rfl (.c rfl .n))) ce70 (zpc (pL:=p93) (nL:=(Po.sturm (Po.vals l1)).length) (cL:=c94) (L:=(Po.sturm (Po.vals l1))) (u1:=u2_1) (v1:=u2_2) (x1:=(x1.getD 0)) (u2:=u5_1) (v2:=u5_2) (x2:=(x2.getD 0)) (hnL:=by rfl) (hmL:=by exact hlS) (hx1:=by first|omega|rfl|assumption) (hx2:=by first|omega|rfl|assumption) (hv1:=by exact hvk _ om) (hv2:=by exact hvk _ om)) (.c (j:=3) rfl (.c (j:=2) rfl (.c (j:=1) rfl .n)))<|e_p (zfb rfl rfl)<|e_p (zy rfl rfl)<|e_p (zy rfl rfl)<|zf ?_
          exact zka () (show True from by first|trivial|omega|simp_all) ((.e rfl (congrArg Value.bool (by first|omega|(simp_all [Po.rtp];done)|(simp_all [Po.rtp];omega))) (.of rfl)):SubM _ _) (ho:=((.of [0,0,1,1] rfl):PickO _ _ _)) ((.of [0,1,2,3,4,5,6,7,8] rfl):SelR _ _ _)
         ·
          refine e_no<|e_no<|e_no<|e_no<|e_no<|e_p (zy rfl rfl)<|e_p (zy rfl rfl)<|zf ?_
          exact zka () (show True from by first|trivial|omega|simp_all) ((.e rfl (congrArg Value.bool (by first|omega|(simp_all [Po.rtp];done)|(simp_all [Po.rtp];omega))) (.of rfl)):SubM _ _) (ho:=((.of [0,0,1,1] rfl):PickO _ _ _)) ((.of [0,1,2,3,4,5,6,7,8] rfl):SelR _ _ _)
       ·
        refine e_no<|e_no<|e_no<|e_no<|e_p (zy rfl rfl)<|e_mv rfl<|e_mv rfl<|e_p (zY rfl rfl)<|zS rfl rfl (zaa rfl) (fun h10=> ?_) (fun h10=> ?_)
        ·
         refine e_ru (zr (j:=0) 0 ty76 rfl rfl rfl rfl)<|e_ru (zc 1 ty28 rfl rfl (.t4 .nil))<|e_ru (zc 0 ty28 rfl rfl (.t4 .nil))<|zM rfl rfl (.c rfl (.c rfl (.c rfl .n))) ce70 (zpc (pL:=p93) (nL:=(Po.sturm (Po.vals l1)).length) (cL:=c94) (L:=(Po.sturm (Po.vals l1))) (u1:=u2_1) (v1:=u2_2) (x1:=(x1.getD 0)) (u2:=u5_1) (v2:=u5_2) (x2:=(x2.getD 0)) (hnL:=by rfl) (hmL:=by exact hlS) (hx1:=by first|omega|rfl|assumption) (hx2:=by first|omega|rfl|assumption) (hv1:=by exact hvk _ om) (hv2:=by exact hvk _ om)) (.c (j:=3) rfl (.c (j:=2) rfl (.c (j:=1) rfl .n)))<|e_p (zfb rfl rfl)<|e_p (zy rfl rfl)<|e_p (zy rfl rfl)<|zf ?_
         exact zka () (show True from by first|trivial|omega|simp_all) ((.e rfl (congrArg Value.bool (by first|omega|(simp_all [Po.rtp];done)|(simp_all [Po.rtp];omega))) (.of rfl)):SubM _ _) (ho:=((.of [0,0,1,1] rfl):PickO _ _ _)) ((.of [0,1,2,3,4,5,6,7,8] rfl):SelR _ _ _)
        ·
         refine e_no<|e_no<|e_no<|e_no<|e_no<|e_p (zy rfl rfl)<|e_p (zy rfl rfl)<|zf ?_
         exact zka () (show True from by first|trivial|omega|simp_all) ((.e rfl (congrArg Value.bool (by first|omega|(simp_all [Po.rtp];done)|(simp_all [Po.rtp];omega))) (.of rfl)):SubM _ _) (ho:=((.of [0,0,1,1] rfl):PickO _ _ _)) ((.of [0,1,2,3,4,5,6,7,8] rfl):SelR _ _ _)
      ·
       rintro ⟨⟩ -
       try dsimp only [cw]
       refine zC rfl (fun h59=> ?_) (fun h59=> ?_)
       ·
        refine ze<|za<|e_p (zI zr48 rfl yb (.c sz28 (.c sz28 .n)) .n .n)<|zi 2 rfl rfl rfl rfl rfl sz48 rfl (.t8 .nil) (.s (.s .z))<|e_p (zb rfl)<|zf<|zd<|zE<|zp<|zSa (qF false wz wz 0) (fun g _=>qF_none g) ?_
        have hv9:(Po.rfe (Po.sturm (Po.vals l1)) (Po.rtp ((Po.sturm (Po.vals l1)).getD 0 [])) (x1.getD 0) (x2.getD 0) k)=(6,0,0):=Po.rfe3 hS0 h26 hle h59
        exact zua yk (wz,wz,wz,wz) trivial (zn 2 ty48 rfl rfl (.t8 .nil)) (zo rfl) (by rw [hv9];rfl) (ho:=(.n:PickO _ _ _)) ((.e (j:=0) rfl (by rw [hv9];rfl) (.e (j:=0) rfl (by rw [hv9];rfl) .n)):SelR _ _ _)
       ·
        refine zB<|zd<|ze<|ze<|za<|e_p (zb rfl)<|zf<|zd<|zv<|zfa (X:=Nat×Rat×Rat×Wd×Wd×Wd×Wd) (fun x:Nat×Rat×Rat×Wd×Wd×Wd×Wd=>x.1≤k.toNat∧yc x.2.1+2≤4*2^x.1∧yc x.2.2.1+2≤4*2^x.1∧((x1.getD 0)<(x2.getD 0)→x.2.1<x.2.2.1)∧(((x1.getD 0)<(x2.getD 0)→Po.rf (Po.sturm (Po.vals l1)) (k.toNat - x.1) x.2.1 x.2.2.1=Po.rf (Po.sturm (Po.vals l1)) k.toNat (x1.getD 0) (x2.getD 0))∧(¬(x1.getD 0)<(x2.getD 0)→x.2.1=(x1.getD 0)∧x.2.2.1=(x2.getD 0)))) (fun x=>[(13,.int .i64 ((x.1:Nat):Int)),(12,.func (.func 69) #[] #[.pointer (some ⟨b5,0,none⟩)]),(11,.int .i64 (yf ((x1.getD 0) - (x2.getD 0)))),(10,.pointer (some ⟨u7_1,0,none⟩)),(9,.pointer (some ⟨u6_1,0,none⟩)),(8,.pointer (some ⟨b5,0,none⟩)),(7,.int .i64 0),(6,.pointer (some ⟨b2,0,none⟩)),(2,.int .i64 k)]) (fun x=>[boxA u7_1 28 (cw [x.2.2.2.2.2.1,x.2.2.2.2.2.2]),boxA u6_1 28 (cw [x.2.2.2.1,x.2.2.2.2.1]),boxA b2 48 (cw [wz,wz,wz,wz]),boxA b1 48 (cw [u1,v1,u2,v2])]) (fun x=>[qF true x.2.2.2.1 x.2.2.2.2.1 (x.2.1),qF true x.2.2.2.2.2.1 x.2.2.2.2.2.2 (x.2.2.1),atF b5 0 [.slice p93 ((Po.sturm (Po.vals l1)).length) c94],qF true u5_1 u5_2 (x2.getD 0),qF true u2_1 u2_2 (x1.getD 0),slF (rS rQ) p93 c94 (Po.sturm (Po.vals l1)),qF x2.isSome u2 v2 (x2.getD 0),qF x1.isSome u1 v1 (x1.getD 0),slF rE p1 c1 l1,eF u1 v1 x1,eF u2 v2 x2]) (fun x:Nat×Rat×Rat×Wd×Wd×Wd×Wd=>k.toNat - x.1) (0,(x1.getD 0),(x2.getD 0),u2_1,u2_2,u5_1,u5_2) (show 0≤k.toNat∧yc (x1.getD 0)+2≤4*2^0∧yc (x2.getD 0)+2≤4*2^0∧((x1.getD 0)<(x2.getD 0)→(x1.getD 0)<(x2.getD 0))∧(((x1.getD 0)<(x2.getD 0)→Po.rf (Po.sturm (Po.vals l1)) (k.toNat - 0) (x1.getD 0) (x2.getD 0)=Po.rf (Po.sturm (Po.vals l1)) k.toNat (x1.getD 0) (x2.getD 0))∧(¬(x1.getD 0)<(x2.getD 0)→(x1.getD 0)=(x1.getD 0)∧(x2.getD 0)=(x2.getD 0))) from by exact ⟨Nat.zero_le _,by show _≤4;omega,by show _≤4;omega,fun e=>e,fun _=>rfl,fun _=>⟨rfl,rfl⟩⟩) ((.e rfl (by first|rfl|(congr 1;omega)|simp_all) (.of rfl)):SubM _ _) (ho:=((.of [0,0,0,0] rfl):PickO _ _ _)) ((.e (j:=2) rfl rfl (.e (j:=1) rfl rfl (.of [0,1,2,3,4,5,6,7,8] rfl))):SelR _ _ _) ?_
        rintro ⟨i,a,b,ua,va,ub,vb⟩ hI
        replace hI:i≤k.toNat∧yc a+2≤4*2^i∧yc b+2≤4*2^i∧((x1.getD 0)<(x2.getD 0)→a<b)∧(((x1.getD 0)<(x2.getD 0)→Po.rf (Po.sturm (Po.vals l1)) (k.toNat - i) a b=Po.rf (Po.sturm (Po.vals l1)) k.toNat (x1.getD 0) (x2.getD 0))∧(¬(x1.getD 0)<(x2.getD 0)→a=(x1.getD 0)∧b=(x2.getD 0))):=hI
        try dsimp only [cw]
        obtain ⟨hi,ha,hb,hlt,hrf⟩:=hI
        have hk12:k.toNat≤12:=by omega
        have hp:=Po.pow4_le (show i≤12 by omega)
        refine ze<|zQa (X:=Unit) (fun x=>True) (fun x=>[(67,.bool (decide ((((i:Nat):Int)<k)∧(yf ((x1.getD 0) - (x2.getD 0))<0)))),(13,.int .i64 ((i:Nat):Int)),(12,.func (.func 69) #[] #[.pointer (some ⟨b5,0,none⟩)]),(11,.int .i64 (yf ((x1.getD 0) - (x2.getD 0)))),(10,.pointer (some ⟨u7_1,0,none⟩)),(9,.pointer (some ⟨u6_1,0,none⟩)),(8,.pointer (some ⟨b5,0,none⟩)),(7,.int .i64 0),(6,.pointer (some ⟨b2,0,none⟩)),(2,.int .i64 k)]) (fun x=>[boxA u7_1 28 (cw [ub,vb]),boxA u6_1 28 (cw [ua,va]),boxA b2 48 (cw [wz,wz,wz,wz]),boxA b1 48 (cw [u1,v1,u2,v2])]) (fun x=>[qF true ua va a,qF true ub vb b,atF b5 0 [.slice p93 ((Po.sturm (Po.vals l1)).length) c94],qF true u5_1 u5_2 (x2.getD 0),qF true u2_1 u2_2 (x1.getD 0),slF (rS rQ) p93 c94 (Po.sturm (Po.vals l1)),qF x2.isSome u2 v2 (x2.getD 0),qF x1.isSome u1 v1 (x1.getD 0),slF rE p1 c1 l1,eF u1 v1 x1,eF u2 v2 x2]) ?_ ?_
        ·
         refine za<|e_mv rfl<|e_mv rfl<|e_p (zY rfl rfl)<|zS rfl rfl (zaa rfl) (fun h11=> ?_) (fun h11=> ?_)
         ·
          refine e_mv rfl<|e_p (zY rfl rfl)<|e_p (zy rfl rfl)<|zf ?_
          exact zka () (show True from by first|trivial|omega|simp_all) ((.e rfl (congrArg Value.bool cbu) (.of rfl)):SubM _ _) (ho:=((.of [0,0,0,0] rfl):PickO _ _ _)) ((.of [0,1,2,3,4,5,6,7,8,9,10] rfl):SelR _ _ _)
         ·
          refine e_no<|e_no<|e_p (zy rfl rfl)<|zf ?_
          exact zka () (show True from by first|trivial|omega|simp_all) ((.e rfl (congrArg Value.bool cbu) (.of rfl)):SubM _ _) (ho:=((.of [0,0,0,0] rfl):PickO _ _ _)) ((.of [0,1,2,3,4,5,6,7,8,9,10] rfl):SelR _ _ _)
        ·
         rintro ⟨⟩ -
         try dsimp only [cw]
         refine zC rfl (fun h67=> ?_) (fun h67=> ?_)
         ·
          have hab:=hlt (Po.sgqn.1 h67.2)
          obtain ⟨hm1,hm2⟩:=Po.mid_lt hab
          have hmg:=Po.mid_grow ha hb
          refine zB<|zd<|ze<|zv<|ze<|za<|e_ru (zc 1 ty28 rfl rfl (.t4 .nil))<|e_ru (zc 0 ty28 rfl rfl (.t4 .nil))<|zk rfl rfl (.c rfl (.c rfl .n)) ce71 (zXc (u1:=ua) (v1:=va) (x1:=a) (u2:=ub) (v2:=vb) (x2:=b) (hx1:=by first|omega|rfl|assumption) (hx2:=by first|omega|rfl|assumption)) (.c (j:=0) rfl (.c (j:=1) rfl .n)) ?_
          rintro ⟨w312,w413⟩ -
          dsimp only [aq,nq,cq]
          refine zH rfl rfl (zq zr28 rfl) (fun b14=> ?_)
          refine zi 0 rfl rfl rfl rfl rfl sz28 rfl (.t4 .nil) .z<|zf<|zd<|ze<|za<|e_ru (zr (j:=0) 3 ty76 rfl rfl rfl rfl)<|e_ru (zc 2 ty28 rfl rfl (.t4 .nil))<|e_ru (zc 0 ty28 rfl rfl (.t4 .nil))<|zM rfl rfl (.c rfl (.c rfl (.c rfl .n))) ce70 (zpc (pL:=p93) (nL:=(Po.sturm (Po.vals l1)).length) (cL:=c94) (L:=(Po.sturm (Po.vals l1))) (u1:=ua) (v1:=va) (x1:=a) (u2:=w312) (v2:=w413) (x2:=(Po.mid a b)) (hnL:=by rfl) (hmL:=by exact hlS) (hx1:=by first|omega|rfl|assumption) (hx2:=by first|omega|rfl|assumption) (hv1:=by exact hvk _ om) (hv2:=by exact hvk _ om)) (.c (j:=6) rfl (.c (j:=1) rfl (.c (j:=0) rfl .n)))<|e_p (zna rfl rfl)<|zf<|zd<|zC rfl (fun h77=> ?_) (fun h77=> ?_)
          ·
           refine za<|e_ru (zc 0 ty28 rfl rfl (.t4 .nil))<|zi 1 rfl rfl rfl rfl rfl sz28 rfl (.t4 .nil) (.s .z)<|zf<|zL<|zd<|za<|e_mv rfl<|e_p (zJ (z:=(((i+1):Nat):Int)) rfl rfl (w64 om))<|e_p (zb rfl)<|zf<|zT ((i+1),a,(Po.mid a b),ua,va,w312,w413) (show (i+1)≤k.toNat∧yc a+2≤4*2^(i+1)∧yc (Po.mid a b)+2≤4*2^(i+1)∧((x1.getD 0)<(x2.getD 0)→a<(Po.mid a b))∧(((x1.getD 0)<(x2.getD 0)→Po.rf (Po.sturm (Po.vals l1)) (k.toNat - (i+1)) a (Po.mid a b)=Po.rf (Po.sturm (Po.vals l1)) k.toNat (x1.getD 0) (x2.getD 0))∧(¬(x1.getD 0)<(x2.getD 0)→a=(x1.getD 0)∧(Po.mid a b)=(x2.getD 0))) from by exact ⟨by omega,by rw [Po.pow4];omega,by rw [Po.pow4];omega,fun _=>hm1,fun e=>(Po.rf_yes (k:=k.toNat - i) om h77).symm.trans (hrf.1 e),fun e=>absurd (Po.sgqn.1 h67.2) e⟩) (by show k.toNat - (i+1)<k.toNat - i;omega) ((.of rfl):SubM _ _) (ho:=((.of [1,1,1,1] rfl):PickO _ _ _)) ((.c (j:=1) rfl (.e (j:=0) rfl rfl (.of [3,4,5,6,7,8,9,10,11] rfl))):SelR _ _ _)
          ·
           refine za<|e_ru (zc 0 ty28 rfl rfl (.t4 .nil))<|zi 2 rfl rfl rfl rfl rfl sz28 rfl (.t4 .nil) (.s (.s .z))<|zf<|zL<|zd<|za<|e_mv rfl<|e_p (zJ (z:=(((i+1):Nat):Int)) rfl rfl (w64 om))<|e_p (zb rfl)<|zf<|zT ((i+1),(Po.mid a b),b,w312,w413,ub,vb) (show (i+1)≤k.toNat∧yc (Po.mid a b)+2≤4*2^(i+1)∧yc b+2≤4*2^(i+1)∧((x1.getD 0)<(x2.getD 0)→(Po.mid a b)<b)∧(((x1.getD 0)<(x2.getD 0)→Po.rf (Po.sturm (Po.vals l1)) (k.toNat - (i+1)) (Po.mid a b) b=Po.rf (Po.sturm (Po.vals l1)) k.toNat (x1.getD 0) (x2.getD 0))∧(¬(x1.getD 0)<(x2.getD 0)→(Po.mid a b)=(x1.getD 0)∧b=(x2.getD 0))) from by exact ⟨by omega,by rw [Po.pow4];omega,by rw [Po.pow4];omega,fun _=>hm2,fun e=>(Po.rf_no (k:=k.toNat - i) om h77).symm.trans (hrf.1 e),fun e=>absurd (Po.sgqn.1 h67.2) e⟩) (by show k.toNat - (i+1)<k.toNat - i;omega) ((.of rfl):SubM _ _) (ho:=((.of [1,1,1,1] rfl):PickO _ _ _)) ((.e (j:=0) rfl rfl (.of [2,3,4,5,6,7,8,9,10,11] rfl)):SelR _ _ _)
         ·
          refine zca<|zh<|zh<|zt<|zd<|ze<|zQa (X:=Unit) (fun x=>True) (fun x=>[(86,.bool (decide ((yf ((x1.getD 0) - (x2.getD 0))<0)∧(Po.ev b ((Po.sturm (Po.vals l1)).getD 0 [])=0)))),(10,.pointer (some ⟨u7_1,0,none⟩)),(9,.pointer (some ⟨u6_1,0,none⟩)),(7,.int .i64 0),(6,.pointer (some ⟨b2,0,none⟩))]) (fun x=>[boxA u7_1 28 (cw [ub,vb]),boxA u6_1 28 (cw [ua,va]),boxA b2 48 (cw [wz,wz,wz,wz]),boxA b1 48 (cw [u1,v1,u2,v2])]) (fun x=>[qF true ua va a,qF true ub vb b,atF b5 0 [.slice p93 ((Po.sturm (Po.vals l1)).length) c94],qF true u5_1 u5_2 (x2.getD 0),qF true u2_1 u2_2 (x1.getD 0),slF (rS rQ) p93 c94 (Po.sturm (Po.vals l1)),qF x2.isSome u2 v2 (x2.getD 0),qF x1.isSome u1 v1 (x1.getD 0),slF rE p1 c1 l1,eF u1 v1 x1,eF u2 v2 x2]) ?_ ?_
          ·
           refine za<|e_mv rfl<|e_p (zY rfl rfl)<|zS rfl rfl (zaa rfl) (fun h15=> ?_) (fun h15=> ?_)
           ·
            refine e_mv rfl<|e_ru (zc 0 ty28 rfl rfl (.t4 .nil))<|zgd (first:=[]) (cap:=[.pointer (some ⟨b5,0,none⟩)]) rfl rfl rfl (.c rfl .n) ce69 (zbd (pL:=p93) (nL:=(Po.sturm (Po.vals l1)).length) (cL:=c94) (L:=(Po.sturm (Po.vals l1))) (bl:=b5) (u1:=ub) (v1:=vb) (x1:=b) (hnL:=by rfl) (h0:=om) (hx:=by first|omega|rfl|assumption) (hv:=by exact hvk _ om)) (.c (j:=2) rfl (.c (j:=5) rfl (.c (j:=1) rfl .n))) ?_
            rintro ⟨⟩ -
            dsimp only [aq,nq,cq]
            refine e_p (zy rfl rfl)<|zf ?_
            exact zka () (show True from by first|trivial|omega|simp_all) ((.e rfl (congrArg Value.bool cbu) (.of rfl)):SubM _ _) (ho:=((.of [0,0,0,0] rfl):PickO _ _ _)) ((.of [0,1,2,3,4,5,6,7,8,9,10] rfl):SelR _ _ _)
           ·
            refine e_no<|e_no<|e_no<|e_p (zy rfl rfl)<|zf ?_
            exact zka () (show True from by first|trivial|omega|simp_all) ((.e rfl (congrArg Value.bool cbu) (.of rfl)):SubM _ _) (ho:=((.of [0,0,0,0] rfl):PickO _ _ _)) ((.of [0,1,2,3,4,5,6,7,8,9,10] rfl):SelR _ _ _)
          ·
           rintro ⟨⟩ -
           try dsimp only [cw]
           refine zC rfl (fun h86=> ?_) (fun h86=> ?_)
           ·
            refine za<|e_ru (zc 0 ty28 rfl rfl (.t4 .nil))<|zi 1 rfl rfl rfl rfl rfl sz28 rfl (.t4 .nil) (.s .z)<|zf<|zd<|ze<|za<|e_ru (zc 1 ty28 rfl rfl (.t4 .nil))<|e_ru (zc 0 ty28 rfl rfl (.t4 .nil))<|e_p (zI zr48 rfl yb (.c sz28 (.c sz28 .n)) (.c rfl (.c rfl .n)) (.c rfl rfl rfl (.t4 .nil) (.c rfl rfl rfl (.s4 (.t4 .nil)) .n)))<|zi 2 rfl rfl rfl rfl rfl sz48 rfl (.t8 .nil) (.s (.s .z))<|e_p (zb rfl)<|zf<|zd<|zE ?_
            have hz:=Po.rfz_run (k:=k) hrf (fun e=>by have:=Po.sgqn.2 e;omega)
            have hv9:(Po.rfe (Po.sturm (Po.vals l1)) (Po.rtp ((Po.sturm (Po.vals l1)).getD 0 [])) (x1.getD 0) (x2.getD 0) k)=(0,b,b):=Po.rfe4 hS0 h26 hle h59 hz (decide_eq_true h86.2)
            exact zua yk (ub,vb,ub,vb) trivial (zn 2 ty48 rfl rfl (.t8 .nil)) (zo rfl) (by rw [hv9]) (ho:=(.n:PickO _ _ _)) ((.e (j:=1) rfl (by rw [hv9];rfl) (.e (j:=1) rfl (by rw [hv9];rfl) .n)):SelR _ _ _)
           ·
            refine zB<|zd<|ze<|za<|e_ru (zc 1 ty28 rfl rfl (.t4 .nil))<|e_ru (zc 0 ty28 rfl rfl (.t4 .nil))<|e_p (zI zr48 rfl yb (.c sz28 (.c sz28 .n)) (.c rfl (.c rfl .n)) (.c rfl rfl rfl (.t4 .nil) (.c rfl rfl rfl (.s4 (.t4 .nil)) .n)))<|zi 2 rfl rfl rfl rfl rfl sz48 rfl (.t8 .nil) (.s (.s .z))<|e_p (zb rfl)<|zf<|zd<|zE ?_
            have hz:=Po.rfz_run (k:=k) hrf (fun e=>by have:=Po.sgqn.2 e;omega)
            have hv9:(Po.rfe (Po.sturm (Po.vals l1)) (Po.rtp ((Po.sturm (Po.vals l1)).getD 0 [])) (x1.getD 0) (x2.getD 0) k)=(0,a,b):=Po.rfe_ab hS0 h26 hle h59 hz hrf.2 (fun e1 e2=>h86 ⟨e1,of_decide_eq_true e2⟩)
            exact zua yk (ua,va,ub,vb) trivial (zn 2 ty48 rfl rfl (.t8 .nil)) (zo rfl) (by rw [hv9]) (ho:=(.n:PickO _ _ _)) ((.e (j:=0) rfl (by rw [hv9];rfl) (.e (j:=1) rfl (by rw [hv9];rfl) .n)):SelR _ _ _)
    refine zCa (X:=Wd×Wd×Wd×Wd×Nat×Nat) (k':=1) (L':=(lb 10 511)) (fun (u2_1,u2_2,u5_1,u5_2,u6_1,u7_1)=>([(10,.pointer (some ⟨u7_1,0,none⟩)),(9,.pointer (some ⟨u6_1,0,none⟩)),(33,.agg (cw [u5_1,u5_2]).toArray),(8,.pointer (some ⟨b5,0,none⟩)),(7,.int .i64 0),(6,.pointer (some ⟨b2,0,none⟩)),(2,.int .i64 k)],[boxA u6_1 28 (cw [u2_1,u2_2]),boxA u7_1 28 (cw [wz,wz])],[boxA b5 76 [.slice p93 ((Po.sturm (Po.vals l1)).length) c94],boxA b2 48 (cw [wz,wz,wz,wz]),boxA b1 48 (cw [u1,v1,u2,v2])],[qF true u5_1 u5_2 (x2.getD 0),qF true u2_1 u2_2 (x1.getD 0),slF (rS rQ) p93 c94 (Po.sturm (Po.vals l1)),qF x2.isSome u2 v2 (x2.getD 0),qF x1.isSome u1 v1 (x1.getD 0),slF rE p1 c1 l1,eF u1 v1 x1,eF u2 v2 x2])) ?_ (fun hD1=> ?_)
    ·
     rintro ⟨u2_1,u2_2,u5_1,u5_2,u6_1,u7_1⟩
     dsimp only [cw]
     refine zEb 9 kr ?_
     ·
      refine zcf (zba (i:=1) rfl)<|zA kr rfl rfl rfl rfl rfl sz28 rfl (.t4 .nil) ?_
      exact zla (hD0 (u2_1,u2_2,u5_1,u5_2,u6_1,u7_1)) kr ((.of rfl):SubM _ _) .rfl .rfl ((.of [0,1,2,3,4,5,6,7] rfl):SelR _ _ _)
    refine zCa (X:=Wd×Wd×Wd×Wd×Nat×Nat) (k':=2) (L':=(lb 10 255)) (fun (u2_1,u2_2,u5_1,u5_2,u6_1,u7_1)=>([(10,.pointer (some ⟨u7_1,0,none⟩)),(9,.pointer (some ⟨u6_1,0,none⟩)),(33,.agg (cw [u5_1,u5_2]).toArray),(30,.agg (cw [u2_1,u2_2]).toArray),(8,.pointer (some ⟨b5,0,none⟩)),(7,.int .i64 0),(6,.pointer (some ⟨b2,0,none⟩)),(2,.int .i64 k)],[boxA u7_1 28 (cw [wz,wz]),boxA u6_1 28 (cw [wz,wz])],[boxA b5 76 [.slice p93 ((Po.sturm (Po.vals l1)).length) c94],boxA b2 48 (cw [wz,wz,wz,wz]),boxA b1 48 (cw [u1,v1,u2,v2])],[qF true u5_1 u5_2 (x2.getD 0),qF true u2_1 u2_2 (x1.getD 0),slF (rS rQ) p93 c94 (Po.sturm (Po.vals l1)),qF x2.isSome u2 v2 (x2.getD 0),qF x1.isSome u1 v1 (x1.getD 0),slF rE p1 c1 l1,eF u1 v1 x1,eF u2 v2 x2])) ?_ (fun hD2=> ?_)
    ·
     rintro ⟨u2_1,u2_2,u5_1,u5_2,u6_1,u7_1⟩
     dsimp only [cw]
     refine zEb 8 kr ?_
     ·
      refine zcf (zba (i:=1) rfl)<|zA kr rfl rfl rfl rfl rfl sz28 rfl (.t4 .nil) ?_
      exact zla (hD1 (u2_1,u2_2,u5_1,u5_2,u6_1,u7_1)) kr ((.of rfl):SubM _ _) .rfl .rfl ((.of [0,1,2,3,4,5,6,7] rfl):SelR _ _ _)
    refine zCa (X:=Wd×Wd×Wd×Wd×Nat) (k':=3) (L':=(lb 10 127)) (fun (u2_1,u2_2,u5_1,u5_2,u6_1)=>([(9,.pointer (some ⟨u6_1,0,none⟩)),(33,.agg (cw [u5_1,u5_2]).toArray),(30,.agg (cw [u2_1,u2_2]).toArray),(8,.pointer (some ⟨b5,0,none⟩)),(7,.int .i64 0),(6,.pointer (some ⟨b2,0,none⟩)),(2,.int .i64 k)],[boxA u6_1 28 (cw [wz,wz])],[boxA b5 76 [.slice p93 ((Po.sturm (Po.vals l1)).length) c94],boxA b2 48 (cw [wz,wz,wz,wz]),boxA b1 48 (cw [u1,v1,u2,v2])],[qF true u5_1 u5_2 (x2.getD 0),qF true u2_1 u2_2 (x1.getD 0),slF (rS rQ) p93 c94 (Po.sturm (Po.vals l1)),qF x2.isSome u2 v2 (x2.getD 0),qF x1.isSome u1 v1 (x1.getD 0),slF rE p1 c1 l1,eF u1 v1 x1,eF u2 v2 x2])) ?_ (fun hD3=> ?_)
    ·
     rintro ⟨u2_1,u2_2,u5_1,u5_2,u6_1⟩
     dsimp only [cw]
     refine zEb 7 kr ?_
     ·
      refine zUa rfl rfl rfl rfl (zq zr28 rfl) (fun u7_1 _=> ?_)
      exact zla (hD2 (u2_1,u2_2,u5_1,u5_2,u6_1,u7_1)) kr ((.of rfl):SubM _ _) .rfl .rfl ((.of [0,1,2,3,4,5,6,7] rfl):SelR _ _ _)
    refine zCa (X:=Wd×Wd×Wd×Wd×Nat) (k':=3) (L':=(lb 10 191)) (fun (u2_1,u2_2,u5_1,u5_2,u7_1)=>([(10,.pointer (some ⟨u7_1,0,none⟩)),(33,.agg (cw [u5_1,u5_2]).toArray),(30,.agg (cw [u2_1,u2_2]).toArray),(8,.pointer (some ⟨b5,0,none⟩)),(7,.int .i64 0),(6,.pointer (some ⟨b2,0,none⟩)),(2,.int .i64 k)],[boxA u7_1 28 (cw [wz,wz])],[boxA b5 76 [.slice p93 ((Po.sturm (Po.vals l1)).length) c94],boxA b2 48 (cw [wz,wz,wz,wz]),boxA b1 48 (cw [u1,v1,u2,v2])],[qF true u5_1 u5_2 (x2.getD 0),qF true u2_1 u2_2 (x1.getD 0),slF (rS rQ) p93 c94 (Po.sturm (Po.vals l1)),qF x2.isSome u2 v2 (x2.getD 0),qF x1.isSome u1 v1 (x1.getD 0),slF rE p1 c1 l1,eF u1 v1 x1,eF u2 v2 x2])) ?_ (fun hD4=> ?_)
    ·
     rintro ⟨u2_1,u2_2,u5_1,u5_2,u7_1⟩
     dsimp only [cw]
     refine zEb 6 kr ?_
     ·
      refine zUa rfl rfl rfl rfl (zq zr28 rfl) (fun u6_1 _=> ?_)
      exact zla (hD2 (u2_1,u2_2,u5_1,u5_2,u6_1,u7_1)) kr ((.of rfl):SubM _ _) (zhd 1 rfl (zhd 0 rfl .nil)) .rfl ((.of [0,1,2,3,4,5,6,7] rfl):SelR _ _ _)
    refine zCa (X:=Wd×Wd×Nat×Nat) (k':=3) (L':=(lb 10 223)) (fun (u2_1,u2_2,u6_1,u7_1)=>([(10,.pointer (some ⟨u7_1,0,none⟩)),(9,.pointer (some ⟨u6_1,0,none⟩)),(30,.agg (cw [u2_1,u2_2]).toArray),(32,.agg (cw [u2,v2]).toArray),(8,.pointer (some ⟨b5,0,none⟩)),(7,.int .i64 0),(6,.pointer (some ⟨b2,0,none⟩)),(2,.int .i64 k)],[boxA u7_1 28 (cw [wz,wz]),boxA u6_1 28 (cw [wz,wz])],[boxA b5 76 [.slice p93 ((Po.sturm (Po.vals l1)).length) c94],boxA b2 48 (cw [wz,wz,wz,wz]),boxA b1 48 (cw [u1,v1,u2,v2])],[qF true u2_1 u2_2 (x1.getD 0),slF (rS rQ) p93 c94 (Po.sturm (Po.vals l1)),qF x2.isSome u2 v2 (x2.getD 0),qF x1.isSome u1 v1 (x1.getD 0),slF rE p1 c1 l1,eF u1 v1 x1,eF u2 v2 x2])) ?_ (fun hD5=> ?_)
    ·
     rintro ⟨u2_1,u2_2,u6_1,u7_1⟩
     dsimp only [cw]
     refine zEb 5 kr ?_
     ·
      refine zu rfl rfl rfl rfl (.c rfl .n) ce53 (zia (k1:=x2.isSome) (u1:=u2) (v1:=v2) (q1:=(x2.getD 0))) (.c (j:=2) rfl .n) ?_
      rintro ⟨u5_1,u5_2⟩ -
      dsimp only [aq,nq,cq]
      exact zla (hD2 (u2_1,u2_2,u5_1,u5_2,u6_1,u7_1)) kr ((.of rfl):SubM _ _) .rfl .rfl ((.of [0,1,2,3,4,5,6,7] rfl):SelR _ _ _)
    refine zCa (X:=Wd×Wd×Wd×Wd) (k':=4) (L':=(lb 10 63)) (fun (u2_1,u2_2,u5_1,u5_2)=>([(33,.agg (cw [u5_1,u5_2]).toArray),(30,.agg (cw [u2_1,u2_2]).toArray),(8,.pointer (some ⟨b5,0,none⟩)),(7,.int .i64 0),(6,.pointer (some ⟨b2,0,none⟩)),(2,.int .i64 k)],[],[boxA b5 76 [.slice p93 ((Po.sturm (Po.vals l1)).length) c94],boxA b2 48 (cw [wz,wz,wz,wz]),boxA b1 48 (cw [u1,v1,u2,v2])],[qF true u5_1 u5_2 (x2.getD 0),qF true u2_1 u2_2 (x1.getD 0),slF (rS rQ) p93 c94 (Po.sturm (Po.vals l1)),qF x2.isSome u2 v2 (x2.getD 0),qF x1.isSome u1 v1 (x1.getD 0),slF rE p1 c1 l1,eF u1 v1 x1,eF u2 v2 x2])) ?_ (fun hD6=> ?_)
    ·
     rintro ⟨u2_1,u2_2,u5_1,u5_2⟩
     dsimp only [cw]
     refine zrd 6 7 kr ?_ ?_
     ·
      refine zUa rfl rfl rfl rfl (zq zr28 rfl) (fun u6_1 _=> ?_)
      exact zla (hD3 (u2_1,u2_2,u5_1,u5_2,u6_1)) kr ((.of rfl):SubM _ _) .rfl .rfl ((.of [0,1,2,3,4,5,6,7] rfl):SelR _ _ _)
     ·
      refine zUa rfl rfl rfl rfl (zq zr28 rfl) (fun u7_1 _=> ?_)
      exact zla (hD4 (u2_1,u2_2,u5_1,u5_2,u7_1)) kr ((.of rfl):SubM _ _) .rfl .rfl ((.of [0,1,2,3,4,5,6,7] rfl):SelR _ _ _)
    refine zCa (X:=Wd×Wd×Nat) (k':=4) (L':=(lb 10 95)) (fun (u2_1,u2_2,u6_1)=>([(9,.pointer (some ⟨u6_1,0,none⟩)),(30,.agg (cw [u2_1,u2_2]).toArray),(32,.agg (cw [u2,v2]).toArray),(8,.pointer (some ⟨b5,0,none⟩)),(7,.int .i64 0),(6,.pointer (some ⟨b2,0,none⟩)),(2,.int .i64 k)],[boxA u6_1 28 (cw [wz,wz])],[boxA b5 76 [.slice p93 ((Po.sturm (Po.vals l1)).length) c94],boxA b2 48 (cw [wz,wz,wz,wz]),boxA b1 48 (cw [u1,v1,u2,v2])],[qF true u2_1 u2_2 (x1.getD 0),slF (rS rQ) p93 c94 (Po.sturm (Po.vals l1)),qF x2.isSome u2 v2 (x2.getD 0),qF x1.isSome u1 v1 (x1.getD 0),slF rE p1 c1 l1,eF u1 v1 x1,eF u2 v2 x2])) ?_ (fun hD7=> ?_)
    ·
     rintro ⟨u2_1,u2_2,u6_1⟩
     dsimp only [cw]
     refine zrd 5 7 kr ?_ ?_
     ·
      refine zu rfl rfl rfl rfl (.c rfl .n) ce53 (zia (k1:=x2.isSome) (u1:=u2) (v1:=v2) (q1:=(x2.getD 0))) (.c (j:=2) rfl .n) ?_
      rintro ⟨u5_1,u5_2⟩ -
      dsimp only [aq,nq,cq]
      exact zla (hD3 (u2_1,u2_2,u5_1,u5_2,u6_1)) kr ((.of rfl):SubM _ _) .rfl .rfl ((.of [0,1,2,3,4,5,6,7] rfl):SelR _ _ _)
     ·
      refine zUa rfl rfl rfl rfl (zq zr28 rfl) (fun u7_1 _=> ?_)
      exact zla (hD5 (u2_1,u2_2,u6_1,u7_1)) kr ((.of rfl):SubM _ _) .rfl .rfl ((.of [0,1,2,3,4,5,6] rfl):SelR _ _ _)
    refine zCa (X:=Wd×Wd×Nat) (k':=4) (L':=(lb 10 159)) (fun (u2_1,u2_2,u7_1)=>([(10,.pointer (some ⟨u7_1,0,none⟩)),(30,.agg (cw [u2_1,u2_2]).toArray),(32,.agg (cw [u2,v2]).toArray),(8,.pointer (some ⟨b5,0,none⟩)),(7,.int .i64 0),(6,.pointer (some ⟨b2,0,none⟩)),(2,.int .i64 k)],[boxA u7_1 28 (cw [wz,wz])],[boxA b5 76 [.slice p93 ((Po.sturm (Po.vals l1)).length) c94],boxA b2 48 (cw [wz,wz,wz,wz]),boxA b1 48 (cw [u1,v1,u2,v2])],[qF true u2_1 u2_2 (x1.getD 0),slF (rS rQ) p93 c94 (Po.sturm (Po.vals l1)),qF x2.isSome u2 v2 (x2.getD 0),qF x1.isSome u1 v1 (x1.getD 0),slF rE p1 c1 l1,eF u1 v1 x1,eF u2 v2 x2])) ?_ (fun hD8=> ?_)
    ·
     rintro ⟨u2_1,u2_2,u7_1⟩
     dsimp only [cw]
     refine zrd 5 6 kr ?_ ?_
     ·
      refine zu rfl rfl rfl rfl (.c rfl .n) ce53 (zia (k1:=x2.isSome) (u1:=u2) (v1:=v2) (q1:=(x2.getD 0))) (.c (j:=2) rfl .n) ?_
      rintro ⟨u5_1,u5_2⟩ -
      dsimp only [aq,nq,cq]
      exact zla (hD4 (u2_1,u2_2,u5_1,u5_2,u7_1)) kr ((.of rfl):SubM _ _) .rfl .rfl ((.of [0,1,2,3,4,5,6,7] rfl):SelR _ _ _)
     ·
      refine zUa rfl rfl rfl rfl (zq zr28 rfl) (fun u6_1 _=> ?_)
      exact zla (hD5 (u2_1,u2_2,u6_1,u7_1)) kr ((.of rfl):SubM _ _) (zhd 1 rfl (zhd 0 rfl .nil)) .rfl ((.of [0,1,2,3,4,5,6] rfl):SelR _ _ _)
    refine zCa (X:=Nat×Nat) (k':=4) (L':=(lb 10 219)) (fun (u6_1,u7_1)=>([(10,.pointer (some ⟨u7_1,0,none⟩)),(9,.pointer (some ⟨u6_1,0,none⟩)),(32,.agg (cw [u2,v2]).toArray),(29,.agg (cw [u1,v1]).toArray),(8,.pointer (some ⟨b5,0,none⟩)),(7,.int .i64 0),(6,.pointer (some ⟨b2,0,none⟩)),(2,.int .i64 k)],[boxA u7_1 28 (cw [wz,wz]),boxA u6_1 28 (cw [wz,wz])],[boxA b5 76 [.slice p93 ((Po.sturm (Po.vals l1)).length) c94],boxA b2 48 (cw [wz,wz,wz,wz]),boxA b1 48 (cw [u1,v1,u2,v2])],[slF (rS rQ) p93 c94 (Po.sturm (Po.vals l1)),qF x2.isSome u2 v2 (x2.getD 0),qF x1.isSome u1 v1 (x1.getD 0),slF rE p1 c1 l1,eF u1 v1 x1,eF u2 v2 x2])) ?_ (fun hD9=> ?_)
    ·
     rintro ⟨u6_1,u7_1⟩
     dsimp only [cw]
     refine zEb 2 kr ?_
     ·
      refine zu rfl rfl rfl rfl (.c rfl .n) ce53 (zia (k1:=x1.isSome) (u1:=u1) (v1:=v1) (q1:=(x1.getD 0))) (.c (j:=2) rfl .n) ?_
      rintro ⟨u2_1,u2_2⟩ -
      dsimp only [aq,nq,cq]
      exact zla (hD5 (u2_1,u2_2,u6_1,u7_1)) kr ((.of rfl):SubM _ _) .rfl .rfl ((.of [0,1,2,3,4,5,6] rfl):SelR _ _ _)
    refine zCa (X:=Wd×Wd) (k':=5) (L':=(lb 10 31)) (fun (u2_1,u2_2)=>([(30,.agg (cw [u2_1,u2_2]).toArray),(32,.agg (cw [u2,v2]).toArray),(8,.pointer (some ⟨b5,0,none⟩)),(7,.int .i64 0),(6,.pointer (some ⟨b2,0,none⟩)),(2,.int .i64 k)],[],[boxA b5 76 [.slice p93 ((Po.sturm (Po.vals l1)).length) c94],boxA b2 48 (cw [wz,wz,wz,wz]),boxA b1 48 (cw [u1,v1,u2,v2])],[qF true u2_1 u2_2 (x1.getD 0),slF (rS rQ) p93 c94 (Po.sturm (Po.vals l1)),qF x2.isSome u2 v2 (x2.getD 0),qF x1.isSome u1 v1 (x1.getD 0),slF rE p1 c1 l1,eF u1 v1 x1,eF u2 v2 x2])) ?_ (fun hD10=> ?_)
    ·
     rintro ⟨u2_1,u2_2⟩
     dsimp only [cw]
     refine zZe 5 6 7 kr ?_ ?_ ?_
     ·
      refine zu rfl rfl rfl rfl (.c rfl .n) ce53 (zia (k1:=x2.isSome) (u1:=u2) (v1:=v2) (q1:=(x2.getD 0))) (.c (j:=2) rfl .n) ?_
      rintro ⟨u5_1,u5_2⟩ -
      dsimp only [aq,nq,cq]
      exact zla (hD6 (u2_1,u2_2,u5_1,u5_2)) kr ((.of rfl):SubM _ _) .rfl .rfl ((.of [0,1,2,3,4,5,6,7] rfl):SelR _ _ _)
     ·
      refine zUa rfl rfl rfl rfl (zq zr28 rfl) (fun u6_1 _=> ?_)
      exact zla (hD7 (u2_1,u2_2,u6_1)) kr ((.of rfl):SubM _ _) .rfl .rfl ((.of [0,1,2,3,4,5,6] rfl):SelR _ _ _)
     ·
      refine zUa rfl rfl rfl rfl (zq zr28 rfl) (fun u7_1 _=> ?_)
      exact zla (hD8 (u2_1,u2_2,u7_1)) kr ((.of rfl):SubM _ _) .rfl .rfl ((.of [0,1,2,3,4,5,6] rfl):SelR _ _ _)
    refine zCa (X:=Nat) (k':=5) (L':=(lb 10 91)) (fun u6_1=>([(9,.pointer (some ⟨u6_1,0,none⟩)),(32,.agg (cw [u2,v2]).toArray),(29,.agg (cw [u1,v1]).toArray),(8,.pointer (some ⟨b5,0,none⟩)),(7,.int .i64 0),(6,.pointer (some ⟨b2,0,none⟩)),(2,.int .i64 k)],[boxA u6_1 28 (cw [wz,wz])],[boxA b5 76 [.slice p93 ((Po.sturm (Po.vals l1)).length) c94],boxA b2 48 (cw [wz,wz,wz,wz]),boxA b1 48 (cw [u1,v1,u2,v2])],[slF (rS rQ) p93 c94 (Po.sturm (Po.vals l1)),qF x2.isSome u2 v2 (x2.getD 0),qF x1.isSome u1 v1 (x1.getD 0),slF rE p1 c1 l1,eF u1 v1 x1,eF u2 v2 x2])) ?_ (fun hD11=> ?_)
    ·
     rintro u6_1
     dsimp only [cw]
     refine zrd 2 7 kr ?_ ?_
     ·
      refine zu rfl rfl rfl rfl (.c rfl .n) ce53 (zia (k1:=x1.isSome) (u1:=u1) (v1:=v1) (q1:=(x1.getD 0))) (.c (j:=2) rfl .n) ?_
      rintro ⟨u2_1,u2_2⟩ -
      dsimp only [aq,nq,cq]
      exact zla (hD7 (u2_1,u2_2,u6_1)) kr ((.of rfl):SubM _ _) .rfl .rfl ((.of [0,1,2,3,4,5,6] rfl):SelR _ _ _)
     ·
      refine zUa rfl rfl rfl rfl (zq zr28 rfl) (fun u7_1 _=> ?_)
      exact zla (hD9 (u6_1,u7_1)) kr ((.of rfl):SubM _ _) .rfl .rfl ((.of [0,1,2,3,4,5] rfl):SelR _ _ _)
    refine zCa (X:=Nat) (k':=5) (L':=(lb 10 155)) (fun u7_1=>([(10,.pointer (some ⟨u7_1,0,none⟩)),(32,.agg (cw [u2,v2]).toArray),(29,.agg (cw [u1,v1]).toArray),(8,.pointer (some ⟨b5,0,none⟩)),(7,.int .i64 0),(6,.pointer (some ⟨b2,0,none⟩)),(2,.int .i64 k)],[boxA u7_1 28 (cw [wz,wz])],[boxA b5 76 [.slice p93 ((Po.sturm (Po.vals l1)).length) c94],boxA b2 48 (cw [wz,wz,wz,wz]),boxA b1 48 (cw [u1,v1,u2,v2])],[slF (rS rQ) p93 c94 (Po.sturm (Po.vals l1)),qF x2.isSome u2 v2 (x2.getD 0),qF x1.isSome u1 v1 (x1.getD 0),slF rE p1 c1 l1,eF u1 v1 x1,eF u2 v2 x2])) ?_ (fun hD12=> ?_)
    ·
     rintro u7_1
     dsimp only [cw]
     refine zrd 2 6 kr ?_ ?_
     ·
      refine zu rfl rfl rfl rfl (.c rfl .n) ce53 (zia (k1:=x1.isSome) (u1:=u1) (v1:=v1) (q1:=(x1.getD 0))) (.c (j:=2) rfl .n) ?_
      rintro ⟨u2_1,u2_2⟩ -
      dsimp only [aq,nq,cq]
      exact zla (hD8 (u2_1,u2_2,u7_1)) kr ((.of rfl):SubM _ _) .rfl .rfl ((.of [0,1,2,3,4,5,6] rfl):SelR _ _ _)
     ·
      refine zUa rfl rfl rfl rfl (zq zr28 rfl) (fun u6_1 _=> ?_)
      exact zla (hD9 (u6_1,u7_1)) kr ((.of rfl):SubM _ _) (zhd 1 rfl (zhd 0 rfl .nil)) .rfl ((.of [0,1,2,3,4,5] rfl):SelR _ _ _)
    refine zZe 2 6 7 kr ?_ ?_ ?_
    ·
     refine zu rfl rfl rfl rfl (.c rfl .n) ce53 (zia (k1:=x1.isSome) (u1:=u1) (v1:=v1) (q1:=(x1.getD 0))) (.c (j:=2) rfl .n) ?_
     rintro ⟨u2_1,u2_2⟩ -
     dsimp only [aq,nq,cq]
     exact zla (hD10 (u2_1,u2_2)) kr ((.of rfl):SubM _ _) .rfl .rfl ((.of [0,1,2,3,4,5,6] rfl):SelR _ _ _)
    ·
     refine zUa rfl rfl rfl rfl (zq zr28 rfl) (fun u6_1 _=> ?_)
     exact zla (hD11 u6_1) kr ((.of rfl):SubM _ _) .rfl .rfl ((.of [0,1,2,3,4,5] rfl):SelR _ _ _)
    ·
     refine zUa rfl rfl rfl rfl (zq zr28 rfl) (fun u7_1 _=> ?_)
     exact zla (hD12 u7_1) kr ((.of rfl):SubM _ _) .rfl .rfl ((.of [0,1,2,3,4,5] rfl):SelR _ _ _)
theorem zne {p1:Option Addr} {n1:Nat} {c1:Nat} {l1:List (Option Rat)} {u1:Wd} {v1:Wd} {x1:Option Rat} {u2:Wd} {v2:Wd} {x2:Option Rat} {k:Int} (hn1:l1.length=n1) (hm1:n1≤190) (hok:Po.rsok (Po.vals l1)) (hlS:(Po.sturm (Po.vals l1)).length≤400) (hvk:∀z,yc z≤100000→Po.vok (Po.sturm (Po.vals l1)) z) (hev:∀z,yc z≤100000→∀i,yc (Po.ev z ((Po.vals l1).drop i))≤200000000000) (hx1:yc (x1.getD 0)≤2) (hx2:yc (x2.getD 0)≤2) (hk:k≤12∨200<k):Con yd 38 [.slice p1 n1 c1,.agg #[u1.b,u1.l,v1.b,v1.l,u2.b,u2.l,v2.b,v2.l],.int .i64 k] [] [slF rE p1 c1 l1,eF u1 v1 x1,eF u2 v2 x2] (Y:=Wd×Wd×Wd×Wd) (fun y=>True) (fun y=> .tuple #[.agg #[y.1.b,y.1.l,y.2.1.b,y.2.1.l,y.2.2.1.b,y.2.2.1.l,y.2.2.2.b,y.2.2.2.l],.int .i64 ((Po.rfe (Po.sturm (Po.vals l1)) (Po.rtp (Po.vals l1)) (x1.getD 0) (x2.getD 0) k).1)]) (fun y=>[]) (fun y=>[qF (decide ((Po.rfe (Po.sturm (Po.vals l1)) (Po.rtp (Po.vals l1)) (x1.getD 0) (x2.getD 0) k).1=0)) y.1 y.2.1 ((Po.rfe (Po.sturm (Po.vals l1)) (Po.rtp (Po.vals l1)) (x1.getD 0) (x2.getD 0) k).2.1),qF (decide ((Po.rfe (Po.sturm (Po.vals l1)) (Po.rtp (Po.vals l1)) (x1.getD 0) (x2.getD 0) k).1=0)) y.2.2.1 y.2.2.2 ((Po.rfe (Po.sturm (Po.vals l1)) (Po.rtp (Po.vals l1)) (x1.getD 0) (x2.getD 0) k).2.2)]):=by
 refine zl Tryz.func38 rfl rfl rfl (fun c=> ?_)
 show RunC _ _ _ _ _ [(0,.slice p1 n1 c1),(1,.agg #[u1.b,u1.l,v1.b,v1.l,u2.b,u2.l,v2.b,v2.l]),(2,.int .i64 k)] [] [slF rE p1 c1 l1,eF u1 v1 x1,eF u2 v2 x2]
 refine zP 0 rfl (fun hL0=> ?_)
 refine zJc (qF x1.isSome u1 v1 (x1.getD 0)) (eF_weak 1 rfl)<|zJc (qF x2.isSome u2 v2 (x2.getD 0)) (eF_weak 3 rfl)<|ze<|za<|zH rfl rfl (zN rfl rfl) (fun b1=> ?_)
 refine zH rfl rfl (zq zr48 rfl) (fun b2=> ?_)
 refine e_p (zb rfl)<|zf<|zd<|ze<|ze<|za<|e_mv rfl<|zM rfl rfl (.c rfl .n) ce33 (zZc (p1:=p1) (n1:=n1) (c1:=c1) (l1:=l1) (hn1:=ass) (hm1:=by first|omega|rfl|assumption) (hb1:=by exact Po.bd_mono hok.1.1.1 dd)) (.c (j:=2) rfl .n)<|e_p (zY rfl rfl)<|zf<|zd<|zC rfl (fun h19=> ?_) (fun h19=> ?_)
 ·
  refine ze<|za<|e_p (zI zr48 rfl yb (.c sz28 (.c sz28 .n)) .n .n)<|zi 0 rfl rfl rfl rfl rfl sz48 rfl (.t8 .nil) .z<|e_p (zb rfl)<|zf<|zd<|zE<|zp<|zSa (qF false wz wz 0) (fun g _=>qF_none g) ?_
  have hv9:(Po.rfe (Po.sturm (Po.vals l1)) (Po.rtp (Po.vals l1)) (x1.getD 0) (x2.getD 0) k)=(14,0,0):=Po.rfe0 ((Po.sturm_nil _).2 om)
  exact zua yl (wz,wz,wz,wz) trivial (zn 0 ty48 rfl rfl (.t8 .nil)) (zo rfl) (by rw [hv9];rfl) (ho:=(.n:PickO _ _ _)) ((.e (j:=0) rfl (by rw [hv9];rfl) (.e (j:=0) rfl (by rw [hv9];rfl) .n)):SelR _ _ _)
 ·
  have hne:(Po.cl (Po.vals l1)).length≠0:=by omega
  have hS0:(Po.sturm (Po.vals l1)).length≠0:=fun e=>hne ((Po.sturm_nil _).1 e)
  refine zB<|zd<|ze<|zQa (X:=Unit) (fun x=>True) (fun x=>[(24,.bool (decide ((k<0)∨(200<k)))),(7,.int .i64 0),(6,.pointer (some ⟨b2,0,none⟩)),(4,.pointer (some ⟨b1,0,none⟩)),(0,.slice p1 n1 c1),(2,.int .i64 k)]) (fun x=>[boxA b2 48 (cw [wz,wz,wz,wz]),boxA b1 48 (cw [u1,v1,u2,v2])]) (fun x=>[qF x2.isSome u2 v2 (x2.getD 0),qF x1.isSome u1 v1 (x1.getD 0),slF rE p1 c1 l1,eF u1 v1 x1,eF u2 v2 x2]) ?_ ?_
  ·
   refine za<|e_mv rfl<|e_p (zY rfl rfl)<|zS rfl rfl (zaa rfl) (fun h3=> ?_) (fun h3=> ?_)
   ·
    refine e_no<|e_no<|e_p (zy rfl rfl)<|zf ?_
    exact zka () (show True from by first|trivial|omega|simp_all) ((.e rfl (congrArg Value.bool cbu) (.of rfl)):SubM _ _) (ho:=((.of [0,0] rfl):PickO _ _ _)) ((.of [0,1,2,3,4] rfl):SelR _ _ _)
   ·
    refine e_mv rfl<|e_p (zwa rfl rfl)<|e_p (zy rfl rfl)<|zf ?_
    exact zka () (show True from by first|trivial|omega|simp_all) ((.e rfl (congrArg Value.bool cbu) (.of rfl)):SubM _ _) (ho:=((.of [0,0] rfl):PickO _ _ _)) ((.of [0,1,2,3,4] rfl):SelR _ _ _)
  ·
   rintro ⟨⟩ -
   try dsimp only [cw]
   refine zC rfl (fun h26=> ?_) (fun h26=> ?_)
   ·
    refine ze<|za<|e_p (zI zr48 rfl yb (.c sz28 (.c sz28 .n)) .n .n)<|zi 0 rfl rfl rfl rfl rfl sz48 rfl (.t8 .nil) .z<|e_p (zb rfl)<|zf<|zd<|zE<|zp<|zSa (qF false wz wz 0) (fun g _=>qF_none g) ?_
    have hv9:(Po.rfe (Po.sturm (Po.vals l1)) (Po.rtp (Po.vals l1)) (x1.getD 0) (x2.getD 0) k)=(2,0,0):=Po.rfe1 hS0 h26
    exact zua yl (wz,wz,wz,wz) trivial (zn 0 ty48 rfl rfl (.t8 .nil)) (zo rfl) (by rw [hv9];rfl) (ho:=(.n:PickO _ _ _)) ((.e (j:=0) rfl (by rw [hv9];rfl) (.e (j:=0) rfl (by rw [hv9];rfl) .n)):SelR _ _ _)
   ·
    refine zB<|zd<|ze<|za<|e_p (zg yb rfl sz28 rfl rfl)<|e_ru (zc 1 ty28 rfl rfl (.t4 .nil))<|zk rfl rfl (.c rfl .n) ce55 (zva (k1:=x1.isSome) (u1:=u1) (v1:=v1) (q1:=(x1.getD 0))) (.c (j:=1) rfl .n) ?_
    rintro ⟨w34,w45⟩ -
    dsimp only [aq,nq,cq]
    refine zH rfl rfl (zq zr28 rfl) (fun b6=> ?_)
    refine zi 0 rfl rfl rfl rfl rfl sz28 rfl (.t4 .nil) .z<|zf<|zd<|ze<|za<|e_p (zg yb rfl sz28 rfl rfl)<|e_ru (zc 2 ty28 rfl rfl (.s4 (.t4 .nil)))<|zk rfl rfl (.c rfl .n) ce55 (zva (k1:=x2.isSome) (u1:=u2) (v1:=v2) (q1:=(x2.getD 0))) (.c (j:=1) rfl .n) ?_
    rintro ⟨w37,w48⟩ -
    dsimp only [aq,nq,cq]
    refine zH rfl rfl (zq zr28 rfl) (fun b9=> ?_)
    refine zi 0 rfl rfl rfl rfl rfl sz28 rfl (.t4 .nil) .z<|zf<|zd<|ze<|za<|e_ru (zc 1 ty28 rfl rfl (.t4 .nil))<|e_ru (zc 0 ty28 rfl rfl (.t4 .nil))<|zM rfl rfl (.c rfl (.c rfl .n)) ce44 (zzb (k1:=true) (u1:=w34) (v1:=w45) (q1:=(x1.getD 0)) (k2:=true) (u2:=w37) (v2:=w48) (q2:=(x2.getD 0)) (hl:=om)) (.c (j:=1) rfl (.c (j:=0) rfl .n))<|e_p (zb rfl)<|zf<|zd<|ze<|ze<|za<|e_mv rfl<|e_p (zwa rfl rfl)<|zf<|zd<|zC rfl (fun h38=> ?_) (fun h38=> ?_)
    ·
     refine ze<|za<|e_p (zI zr48 rfl yb (.c sz28 (.c sz28 .n)) .n .n)<|zi 2 rfl rfl rfl rfl rfl sz48 rfl (.t8 .nil) (.s (.s .z))<|e_p (zb rfl)<|zf<|zd<|zE<|zp<|zSa (qF false wz wz 0) (fun g _=>qF_none g) ?_
     have hv9:(Po.rfe (Po.sturm (Po.vals l1)) (Po.rtp (Po.vals l1)) (x1.getD 0) (x2.getD 0) k)=(5,0,0):=Po.rfe2 hS0 h26 (Po.lt_sgq.1 h38)
     exact zua yl (wz,wz,wz,wz) trivial (zn 2 ty48 rfl rfl (.t8 .nil)) (zo rfl) (by rw [hv9];rfl) (ho:=(.n:PickO _ _ _)) ((.e (j:=0) rfl (by rw [hv9];rfl) (.e (j:=0) rfl (by rw [hv9];rfl) .n)):SelR _ _ _)
    ·
     have hle:¬(x2.getD 0)<(x1.getD 0):=fun e=>h38 (Po.lt_sgq.2 e)
     refine zB<|zd<|ze<|za<|e_mv rfl<|e_ru (zc 1 ty28 rfl rfl (.t4 .nil))<|e_ru (zc 0 ty28 rfl rfl (.t4 .nil))<|zM rfl rfl (.c rfl (.c rfl (.c rfl .n))) ce72 (zqd (p1:=p1) (n1:=n1) (c1:=c1) (l1:=l1) (u1:=w34) (v1:=w45) (x1:=(x1.getD 0)) (u2:=w37) (v2:=w48) (x2:=(x2.getD 0)) (hn1:=ass) (hm1:=ass) (hok:=ass) (hne:=by first|omega|rfl|assumption) (hlS:=ass) (hx1:=by first|omega|rfl|assumption) (hx2:=by first|omega|rfl|assumption) (hv1:=by exact hvk _ om) (hv2:=by exact hvk _ om) (hle:=by exact hle)) (.c (j:=4) rfl (.c (j:=1) rfl (.c (j:=0) rfl .n)))<|e_mv rfl<|e_p (zm rfl rfl)<|e_p (zm rfl rfl)<|e_p (zb rfl)<|e_p (zb rfl)<|zf<|zd<|ze<|zQa (X:=Unit) (fun x=>True) (fun x=>[(60,.bool (decide ((yf ((x1.getD 0) - (x2.getD 0))=0∧(Po.rtp (Po.vals l1)) (x1.getD 0)=false)∨(yf ((x1.getD 0) - (x2.getD 0))<0∧Po.bt (Po.sturm (Po.vals l1)) (x1.getD 0) (x2.getD 0)≠1)))),(11,.int .i64 (Po.bt (Po.sturm (Po.vals l1)) (x1.getD 0) (x2.getD 0))),(10,.int .i64 (yf ((x1.getD 0) - (x2.getD 0)))),(9,.pointer (some ⟨b9,0,none⟩)),(8,.pointer (some ⟨b6,0,none⟩)),(7,.int .i64 0),(6,.pointer (some ⟨b2,0,none⟩)),(0,.slice p1 n1 c1),(2,.int .i64 k)]) (fun x=>[boxA b9 28 (cw [w37,w48]),boxA b6 28 (cw [w34,w45]),boxA b2 48 (cw [wz,wz,wz,wz]),boxA b1 48 (cw [u1,v1,u2,v2])]) (fun x=>[qF true w37 w48 (x2.getD 0),qF true w34 w45 (x1.getD 0),qF x2.isSome u2 v2 (x2.getD 0),qF x1.isSome u1 v1 (x1.getD 0),slF rE p1 c1 l1,eF u1 v1 x1,eF u2 v2 x2]) ?_ ?_
     ·
      refine za<|e_mv rfl<|e_p (zna rfl rfl)<|zS rfl rfl (zaa rfl) (fun h10=> ?_) (fun h10=> ?_)
      ·
       refine e_mv rfl<|e_ru (zc 1 ty28 rfl rfl (.t4 .nil))<|zM rfl rfl (.c rfl (.c rfl .n)) ce73 (zad (p1:=p1) (n1:=n1) (c1:=c1) (l1:=l1) (u1:=w34) (v1:=w45) (x1:=(x1.getD 0)) (hn1:=ass) (hm1:=om) (hx:=by first|omega|rfl|assumption) (hb1:=by intro j;rw [← Po.vals_get];exact Nat.le_trans (hok.1.1.1 j) dd) (hs:=by exact hev _ om)) (.c (j:=4) rfl (.c (j:=1) rfl .n))<|e_p (zZa rfl)<|e_p (zy rfl rfl)<|zS rfl rfl (zaa rfl) (fun h11=> ?_) (fun h11=> ?_)
       ·
        refine e_no<|e_no<|e_no<|e_no<|e_no<|e_no<|e_p (zy rfl rfl)<|zf ?_
        exact zka () (show True from by first|trivial|omega|simp_all) ((.e rfl (congrArg Value.bool (by first|omega|(simp_all [Po.rtp];done)|(simp_all [Po.rtp];omega))) (.of rfl)):SubM _ _) (ho:=((.of [0,0,0,0] rfl):PickO _ _ _)) ((.of [0,1,2,3,4,5,6] rfl):SelR _ _ _)
       ·
        refine e_mv rfl<|e_p (zY rfl rfl)<|zS rfl rfl (zaa rfl) (fun h12=> ?_) (fun h12=> ?_)
        ·
         refine e_mv rfl<|e_p (zfb rfl rfl)<|e_p (zy rfl rfl)<|e_p (zy rfl rfl)<|zf ?_
         exact zka () (show True from by first|trivial|omega|simp_all) ((.e rfl (congrArg Value.bool (by first|omega|(simp_all [Po.rtp];done)|(simp_all [Po.rtp];omega))) (.of rfl)):SubM _ _) (ho:=((.of [0,0,0,0] rfl):PickO _ _ _)) ((.of [0,1,2,3,4,5,6] rfl):SelR _ _ _)
        ·
         refine e_no<|e_no<|e_p (zy rfl rfl)<|e_p (zy rfl rfl)<|zf ?_
         exact zka () (show True from by first|trivial|omega|simp_all) ((.e rfl (congrArg Value.bool (by first|omega|(simp_all [Po.rtp];done)|(simp_all [Po.rtp];omega))) (.of rfl)):SubM _ _) (ho:=((.of [0,0,0,0] rfl):PickO _ _ _)) ((.of [0,1,2,3,4,5,6] rfl):SelR _ _ _)
      ·
       refine e_no<|e_no<|e_no<|e_no<|e_p (zy rfl rfl)<|e_mv rfl<|e_mv rfl<|e_p (zY rfl rfl)<|zS rfl rfl (zaa rfl) (fun h13=> ?_) (fun h13=> ?_)
       ·
        refine e_mv rfl<|e_p (zfb rfl rfl)<|e_p (zy rfl rfl)<|e_p (zy rfl rfl)<|zf ?_
        exact zka () (show True from by first|trivial|omega|simp_all) ((.e rfl (congrArg Value.bool (by first|omega|(simp_all [Po.rtp];done)|(simp_all [Po.rtp];omega))) (.of rfl)):SubM _ _) (ho:=((.of [0,0,0,0] rfl):PickO _ _ _)) ((.of [0,1,2,3,4,5,6] rfl):SelR _ _ _)
       ·
        refine e_no<|e_no<|e_p (zy rfl rfl)<|e_p (zy rfl rfl)<|zf ?_
        exact zka () (show True from by first|trivial|omega|simp_all) ((.e rfl (congrArg Value.bool (by first|omega|(simp_all [Po.rtp];done)|(simp_all [Po.rtp];omega))) (.of rfl)):SubM _ _) (ho:=((.of [0,0,0,0] rfl):PickO _ _ _)) ((.of [0,1,2,3,4,5,6] rfl):SelR _ _ _)
     ·
      rintro ⟨⟩ -
      try dsimp only [cw]
      refine zC rfl (fun h59=> ?_) (fun h59=> ?_)
      ·
       refine ze<|za<|e_p (zI zr48 rfl yb (.c sz28 (.c sz28 .n)) .n .n)<|zi 2 rfl rfl rfl rfl rfl sz48 rfl (.t8 .nil) (.s (.s .z))<|e_p (zb rfl)<|zf<|zd<|zE<|zp<|zSa (qF false wz wz 0) (fun g _=>qF_none g) ?_
       have hv9:(Po.rfe (Po.sturm (Po.vals l1)) (Po.rtp (Po.vals l1)) (x1.getD 0) (x2.getD 0) k)=(6,0,0):=Po.rfe3 hS0 h26 hle h59
       exact zua yl (wz,wz,wz,wz) trivial (zn 2 ty48 rfl rfl (.t8 .nil)) (zo rfl) (by rw [hv9];rfl) (ho:=(.n:PickO _ _ _)) ((.e (j:=0) rfl (by rw [hv9];rfl) (.e (j:=0) rfl (by rw [hv9];rfl) .n)):SelR _ _ _)
      ·
       refine zB<|zd<|ze<|ze<|za<|e_p (zb rfl)<|zf<|zd<|zv<|zfa (X:=Nat×Rat×Rat×Wd×Wd×Wd×Wd) (fun x:Nat×Rat×Rat×Wd×Wd×Wd×Wd=>x.1≤k.toNat∧yc x.2.1+2≤4*2^x.1∧yc x.2.2.1+2≤4*2^x.1∧((x1.getD 0)<(x2.getD 0)→x.2.1<x.2.2.1)∧(((x1.getD 0)<(x2.getD 0)→Po.rf (Po.sturm (Po.vals l1)) (k.toNat - x.1) x.2.1 x.2.2.1=Po.rf (Po.sturm (Po.vals l1)) k.toNat (x1.getD 0) (x2.getD 0))∧(¬(x1.getD 0)<(x2.getD 0)→x.2.1=(x1.getD 0)∧x.2.2.1=(x2.getD 0)))) (fun x=>[(13,.int .i64 ((x.1:Nat):Int)),(10,.int .i64 (yf ((x1.getD 0) - (x2.getD 0)))),(9,.pointer (some ⟨b9,0,none⟩)),(8,.pointer (some ⟨b6,0,none⟩)),(7,.int .i64 0),(6,.pointer (some ⟨b2,0,none⟩)),(0,.slice p1 n1 c1),(2,.int .i64 k)]) (fun x=>[boxA b9 28 (cw [x.2.2.2.2.2.1,x.2.2.2.2.2.2]),boxA b6 28 (cw [x.2.2.2.1,x.2.2.2.2.1]),boxA b2 48 (cw [wz,wz,wz,wz]),boxA b1 48 (cw [u1,v1,u2,v2])]) (fun x=>[qF true x.2.2.2.1 x.2.2.2.2.1 (x.2.1),qF true x.2.2.2.2.2.1 x.2.2.2.2.2.2 (x.2.2.1),qF true w37 w48 (x2.getD 0),qF true w34 w45 (x1.getD 0),qF x2.isSome u2 v2 (x2.getD 0),qF x1.isSome u1 v1 (x1.getD 0),slF rE p1 c1 l1,eF u1 v1 x1,eF u2 v2 x2]) (fun x:Nat×Rat×Rat×Wd×Wd×Wd×Wd=>k.toNat - x.1) (0,(x1.getD 0),(x2.getD 0),w34,w45,w37,w48) (show 0≤k.toNat∧yc (x1.getD 0)+2≤4*2^0∧yc (x2.getD 0)+2≤4*2^0∧((x1.getD 0)<(x2.getD 0)→(x1.getD 0)<(x2.getD 0))∧(((x1.getD 0)<(x2.getD 0)→Po.rf (Po.sturm (Po.vals l1)) (k.toNat - 0) (x1.getD 0) (x2.getD 0)=Po.rf (Po.sturm (Po.vals l1)) k.toNat (x1.getD 0) (x2.getD 0))∧(¬(x1.getD 0)<(x2.getD 0)→(x1.getD 0)=(x1.getD 0)∧(x2.getD 0)=(x2.getD 0))) from by exact ⟨Nat.zero_le _,by show _≤4;omega,by show _≤4;omega,fun e=>e,fun _=>rfl,fun _=>⟨rfl,rfl⟩⟩) ((.e rfl (by first|rfl|(congr 1;omega)|simp_all) (.of rfl)):SubM _ _) (ho:=((.of [0,0,0,0] rfl):PickO _ _ _)) ((.e (j:=1) rfl rfl (.e (j:=0) rfl rfl (.of [0,1,2,3,4,5,6] rfl))):SelR _ _ _) ?_
       rintro ⟨i,a,b,ua,va,ub,vb⟩ hI
       replace hI:i≤k.toNat∧yc a+2≤4*2^i∧yc b+2≤4*2^i∧((x1.getD 0)<(x2.getD 0)→a<b)∧(((x1.getD 0)<(x2.getD 0)→Po.rf (Po.sturm (Po.vals l1)) (k.toNat - i) a b=Po.rf (Po.sturm (Po.vals l1)) k.toNat (x1.getD 0) (x2.getD 0))∧(¬(x1.getD 0)<(x2.getD 0)→a=(x1.getD 0)∧b=(x2.getD 0))):=hI
       try dsimp only [cw]
       obtain ⟨hi,ha,hb,hlt,hrf⟩:=hI
       have hk12:k.toNat≤12:=by omega
       have hp:=Po.pow4_le (show i≤12 by omega)
       refine ze<|zQa (X:=Unit) (fun x=>True) (fun x=>[(68,.bool (decide ((((i:Nat):Int)<k)∧(yf ((x1.getD 0) - (x2.getD 0))<0)))),(13,.int .i64 ((i:Nat):Int)),(10,.int .i64 (yf ((x1.getD 0) - (x2.getD 0)))),(9,.pointer (some ⟨b9,0,none⟩)),(8,.pointer (some ⟨b6,0,none⟩)),(7,.int .i64 0),(6,.pointer (some ⟨b2,0,none⟩)),(0,.slice p1 n1 c1),(2,.int .i64 k)]) (fun x=>[boxA b9 28 (cw [ub,vb]),boxA b6 28 (cw [ua,va]),boxA b2 48 (cw [wz,wz,wz,wz]),boxA b1 48 (cw [u1,v1,u2,v2])]) (fun x=>[qF true ua va a,qF true ub vb b,qF true w37 w48 (x2.getD 0),qF true w34 w45 (x1.getD 0),qF x2.isSome u2 v2 (x2.getD 0),qF x1.isSome u1 v1 (x1.getD 0),slF rE p1 c1 l1,eF u1 v1 x1,eF u2 v2 x2]) ?_ ?_
       ·
        refine za<|e_mv rfl<|e_mv rfl<|e_p (zY rfl rfl)<|zS rfl rfl (zaa rfl) (fun h14=> ?_) (fun h14=> ?_)
        ·
         refine e_mv rfl<|e_p (zY rfl rfl)<|e_p (zy rfl rfl)<|zf ?_
         exact zka () (show True from by first|trivial|omega|simp_all) ((.e rfl (congrArg Value.bool cbu) (.of rfl)):SubM _ _) (ho:=((.of [0,0,0,0] rfl):PickO _ _ _)) ((.of [0,1,2,3,4,5,6,7,8] rfl):SelR _ _ _)
        ·
         refine e_no<|e_no<|e_p (zy rfl rfl)<|zf ?_
         exact zka () (show True from by first|trivial|omega|simp_all) ((.e rfl (congrArg Value.bool cbu) (.of rfl)):SubM _ _) (ho:=((.of [0,0,0,0] rfl):PickO _ _ _)) ((.of [0,1,2,3,4,5,6,7,8] rfl):SelR _ _ _)
       ·
        rintro ⟨⟩ -
        try dsimp only [cw]
        refine zC rfl (fun h67=> ?_) (fun h67=> ?_)
        ·
         have hab:=hlt (Po.sgqn.1 h67.2)
         obtain ⟨hm1,hm2⟩:=Po.mid_lt hab
         have hmg:=Po.mid_grow ha hb
         have hmn:¬Po.mid a b<a:=fun e=>by grind
         refine zB<|zd<|ze<|zv<|ze<|za<|e_ru (zc 1 ty28 rfl rfl (.t4 .nil))<|e_ru (zc 0 ty28 rfl rfl (.t4 .nil))<|zk rfl rfl (.c rfl (.c rfl .n)) ce74 (zle (u1:=ua) (v1:=va) (x1:=a) (u2:=ub) (v2:=vb) (x2:=b) (hx1:=by first|omega|rfl|assumption) (hx2:=by first|omega|rfl|assumption)) (.c (j:=0) rfl (.c (j:=1) rfl .n)) ?_
         rintro ⟨w315,w416⟩ -
         dsimp only [aq,nq,cq]
         refine zH rfl rfl (zq zr28 rfl) (fun b17=> ?_)
         refine zi 0 rfl rfl rfl rfl rfl sz28 rfl (.t4 .nil) .z<|zf<|zd<|ze<|za<|e_mv rfl<|e_ru (zc 2 ty28 rfl rfl (.t4 .nil))<|e_ru (zc 0 ty28 rfl rfl (.t4 .nil))<|zM rfl rfl (.c rfl (.c rfl (.c rfl .n))) ce72 (zqd (p1:=p1) (n1:=n1) (c1:=c1) (l1:=l1) (u1:=ua) (v1:=va) (x1:=a) (u2:=w315) (v2:=w416) (x2:=(Po.mid a b)) (hn1:=ass) (hm1:=ass) (hok:=ass) (hne:=by first|omega|rfl|assumption) (hlS:=ass) (hx1:=by first|omega|rfl|assumption) (hx2:=by first|omega|rfl|assumption) (hv1:=by exact hvk _ om) (hv2:=by exact hvk _ om) (hle:=by exact hmn)) (.c (j:=7) rfl (.c (j:=1) rfl (.c (j:=0) rfl .n)))<|e_mv rfl<|e_p (zm rfl rfl)<|e_p (zm rfl rfl)<|e_p (zb rfl)<|zf<|zd<|ze<|za<|e_mv rfl<|e_p (zna rfl rfl)<|zf<|zd<|zC rfl (fun h77=> ?_) (fun h77=> ?_)
         ·
          refine za<|e_ru (zc 0 ty28 rfl rfl (.t4 .nil))<|zi 1 rfl rfl rfl rfl rfl sz28 rfl (.t4 .nil) (.s .z)<|zf<|zL<|zd<|za<|e_mv rfl<|e_p (zJ (z:=(((i+1):Nat):Int)) rfl rfl (w64 om))<|e_p (zb rfl)<|zf<|zT ((i+1),a,(Po.mid a b),ua,va,w315,w416) (show (i+1)≤k.toNat∧yc a+2≤4*2^(i+1)∧yc (Po.mid a b)+2≤4*2^(i+1)∧((x1.getD 0)<(x2.getD 0)→a<(Po.mid a b))∧(((x1.getD 0)<(x2.getD 0)→Po.rf (Po.sturm (Po.vals l1)) (k.toNat - (i+1)) a (Po.mid a b)=Po.rf (Po.sturm (Po.vals l1)) k.toNat (x1.getD 0) (x2.getD 0))∧(¬(x1.getD 0)<(x2.getD 0)→a=(x1.getD 0)∧(Po.mid a b)=(x2.getD 0))) from by exact ⟨by omega,by rw [Po.pow4];omega,by rw [Po.pow4];omega,fun _=>hm1,fun e=>(Po.rf_yes (k:=k.toNat - i) om h77).symm.trans (hrf.1 e),fun e=>absurd (Po.sgqn.1 h67.2) e⟩) (by show k.toNat - (i+1)<k.toNat - i;omega) ((.of rfl):SubM _ _) (ho:=((.of [1,1,1,1] rfl):PickO _ _ _)) ((.c (j:=1) rfl (.e (j:=0) rfl rfl (.of [3,4,5,6,7,8,9] rfl))):SelR _ _ _)
         ·
          refine za<|e_ru (zc 0 ty28 rfl rfl (.t4 .nil))<|zi 2 rfl rfl rfl rfl rfl sz28 rfl (.t4 .nil) (.s (.s .z))<|zf<|zL<|zd<|za<|e_mv rfl<|e_p (zJ (z:=(((i+1):Nat):Int)) rfl rfl (w64 om))<|e_p (zb rfl)<|zf<|zT ((i+1),(Po.mid a b),b,w315,w416,ub,vb) (show (i+1)≤k.toNat∧yc (Po.mid a b)+2≤4*2^(i+1)∧yc b+2≤4*2^(i+1)∧((x1.getD 0)<(x2.getD 0)→(Po.mid a b)<b)∧(((x1.getD 0)<(x2.getD 0)→Po.rf (Po.sturm (Po.vals l1)) (k.toNat - (i+1)) (Po.mid a b) b=Po.rf (Po.sturm (Po.vals l1)) k.toNat (x1.getD 0) (x2.getD 0))∧(¬(x1.getD 0)<(x2.getD 0)→(Po.mid a b)=(x1.getD 0)∧b=(x2.getD 0))) from by exact ⟨by omega,by rw [Po.pow4];omega,by rw [Po.pow4];omega,fun _=>hm2,fun e=>(Po.rf_no (k:=k.toNat - i) om h77).symm.trans (hrf.1 e),fun e=>absurd (Po.sgqn.1 h67.2) e⟩) (by show k.toNat - (i+1)<k.toNat - i;omega) ((.of rfl):SubM _ _) (ho:=((.of [1,1,1,1] rfl):PickO _ _ _)) ((.e (j:=0) rfl rfl (.of [2,3,4,5,6,7,8,9] rfl)):SelR _ _ _)
        ·
         refine zca<|zh<|zh<|zt<|zd<|ze<|ze<|za<|e_mv rfl<|e_ru (zc 0 ty28 rfl rfl (.t4 .nil))<|zM rfl rfl (.c rfl (.c rfl .n)) ce73 (zad (p1:=p1) (n1:=n1) (c1:=c1) (l1:=l1) (u1:=ub) (v1:=vb) (x1:=b) (hn1:=ass) (hm1:=om) (hx:=by first|omega|rfl|assumption) (hb1:=by intro j;rw [← Po.vals_get];exact Nat.le_trans (hok.1.1.1 j) dd) (hs:=by exact hev _ om)) (.c (j:=6) rfl (.c (j:=1) rfl .n))<|zf<|zd<|zC rfl (fun h86=> ?_) (fun h86=> ?_)
         ·
          refine za<|e_ru (zc 0 ty28 rfl rfl (.t4 .nil))<|zi 1 rfl rfl rfl rfl rfl sz28 rfl (.t4 .nil) (.s .z)<|zf<|zd<|ze<|za<|e_ru (zc 1 ty28 rfl rfl (.t4 .nil))<|e_ru (zc 0 ty28 rfl rfl (.t4 .nil))<|e_p (zI zr48 rfl yb (.c sz28 (.c sz28 .n)) (.c rfl (.c rfl .n)) (.c rfl rfl rfl (.t4 .nil) (.c rfl rfl rfl (.s4 (.t4 .nil)) .n)))<|zi 2 rfl rfl rfl rfl rfl sz48 rfl (.t8 .nil) (.s (.s .z))<|e_p (zb rfl)<|zf<|zd<|zE ?_
          have hz:=Po.rfz_run (k:=k) hrf (fun e=>by have:=Po.sgqn.2 e;omega)
          have hv9:(Po.rfe (Po.sturm (Po.vals l1)) (Po.rtp (Po.vals l1)) (x1.getD 0) (x2.getD 0) k)=(0,b,b):=Po.rfe4 hS0 h26 hle h59 hz (decide_eq_true h86)
          exact zua yl (ub,vb,ub,vb) trivial (zn 2 ty48 rfl rfl (.t8 .nil)) (zo rfl) (by rw [hv9]) (ho:=(.n:PickO _ _ _)) ((.e (j:=1) rfl (by rw [hv9];rfl) (.e (j:=1) rfl (by rw [hv9];rfl) .n)):SelR _ _ _)
         ·
          refine zB<|zd<|ze<|za<|e_ru (zc 1 ty28 rfl rfl (.t4 .nil))<|e_ru (zc 0 ty28 rfl rfl (.t4 .nil))<|e_p (zI zr48 rfl yb (.c sz28 (.c sz28 .n)) (.c rfl (.c rfl .n)) (.c rfl rfl rfl (.t4 .nil) (.c rfl rfl rfl (.s4 (.t4 .nil)) .n)))<|zi 2 rfl rfl rfl rfl rfl sz48 rfl (.t8 .nil) (.s (.s .z))<|e_p (zb rfl)<|zf<|zd<|zE ?_
          have hz:=Po.rfz_run (k:=k) hrf (fun e=>by have:=Po.sgqn.2 e;omega)
          have hv9:(Po.rfe (Po.sturm (Po.vals l1)) (Po.rtp (Po.vals l1)) (x1.getD 0) (x2.getD 0) k)=(0,a,b):=Po.rfe5 hS0 h26 hle h59 hz (decide_eq_false h86)
          exact zua yl (ua,va,ub,vb) trivial (zn 2 ty48 rfl rfl (.t8 .nil)) (zo rfl) (by rw [hv9]) (ho:=(.n:PickO _ _ _)) ((.e (j:=0) rfl (by rw [hv9];rfl) (.e (j:=1) rfl (by rw [hv9];rfl) .n)):SelR _ _ _)
end Go.Proofs.YtbiaimgafknkmaaGreat.Sp
namespace Go.Proofs.YtbiaimgafknkmaaGreat.Sp
open Go
set_option linter.unusedVariables false
set_option maxRecDepth 100000
set_option maxHeartbeats 8000000
theorem zVd {s:Bool} {p1:Option Addr} {n1:Nat} {c1:Nat} {l1:List Int} {t:Bool} {p2:Option Addr} {n2:Nat} {c2:Nat} {l2:List Int} (hn1:l1.length=n1) (hn2:l2.length=n2) (hm1:n1≤1099511627776) (hm2:n2≤1099511627776):Con yd 66 [.agg #[.bool s,.slice p1 n1 c1,.bool t,.slice p2 n2 c2]] [] [slF (rI .u32) p1 c1 l1,slF (rI .u32) p2 c2 l2] (Y:=Bool) (fun y=>True) (fun y=> .bool y) (fun y=>[]) (fun y=>[]):=by
 refine zl Tryz.func66 rfl rfl rfl (fun c=> ?_)
 show RunC _ _ _ _ _ [(0,.agg #[.bool s,.slice p1 n1 c1,.bool t,.slice p2 n2 c2])] [] [slF (rI .u32) p1 c1 l1,slF (rI .u32) p2 c2 l2]
 refine zP 0 rfl (fun hL0=> ?_)
 refine zIa 0 rfl (fun hE0=> ?_)
 refine zP 1 rfl (fun hL1=> ?_)
 refine zIa 1 rfl (fun hE1=> ?_)
 refine ze<|za<|zH rfl rfl (zN rfl rfl) (fun b1=> ?_)
 refine e_p (zb rfl)<|zf<|zd<|ze<|zW (OW:=[]) (O:=[boxA b1 28 [.bool s,.slice p1 n1 c1,.bool t,.slice p2 n2 c2]]) 100000 mixed (.then .ret) kr<|e_pv 0 rfl rfl (zg yi rfl sz26 rfl rfl)<|e_pv 1 rfl rfl (zg Tryz.underlying26 rfl sz24 rfl rfl)<|e_u 2 rfl rfl (zj 0 ty24 rfl rfl rfl)<|e_pv 3 rfl rfl (zg yi rfl sz26 rfl rfl)<|e_pv 4 rfl rfl (zg Tryz.underlying26 rfl sz24 rfl rfl)<|e_u 5 rfl rfl (zj 0 ty24 rfl rfl rfl)<|e_pv 6 rfl rfl (zb rfl)<|e_pv 7 rfl rfl (zb rfl)<|zU kr<|zd<|zQa (X:=Bool) (fun x=>True) (fun x=>[(2,.bool x)]) (fun x=>[boxA b1 28 [.bool s,.slice p1 n1 c1,.bool t,.slice p2 n2 c2]]) (fun x=>[slF (rI .u32) p1 c1 l1,slF (rI .u32) p2 c2 l2]) ?_ ?_
 ·
  refine za<|e_mv rfl<|e_p (zD yh rfl)<|e_p (zqb rfl rfl)<|zS rfl rfl (zaa rfl) (fun h2=> ?_) (fun h2=> ?_)
  ·
   refine e_mv rfl<|e_p (zD yh rfl)<|e_p (zqb rfl rfl)<|e_p (zy rfl rfl)<|zS rfl rfl (zaa rfl) (fun h3=> ?_) (fun h3=> ?_)
   ·
    refine e_mv rfl<|e_p (zD yh rfl)<|e_p (zna rfl rfl)<|zS rfl rfl (zaa rfl) (fun h4=> ?_) (fun h4=> ?_)
    ·
     refine e_no<|e_no<|e_no<|e_no<|e_p (zy rfl rfl)<|e_p (zy rfl rfl)<|e_mv rfl<|e_mv rfl<|e_p (zD yh rfl)<|e_p (zna rfl rfl)<|zS rfl rfl (zaa rfl) (fun h5=> ?_) (fun h5=> ?_)
     ·
      refine e_no<|e_no<|e_no<|e_no<|e_p (zy rfl rfl)<|e_p (zy rfl rfl)<|e_p (zb rfl)<|zf ?_
      exact zka true (show True from by first|trivial) ((.e rfl (congrArg Value.bool cbu) .n):SubM _ _) (ho:=((.c (i:=0) rfl .n):PickO _ _ _)) ((.of [0,1] rfl):SelR _ _ _)
     ·
      refine e_mv rfl<|zX (x0:=(l2.getD 0 0)) 1 0 rfl yh sz91 rfl rfl rfl cbo rfl rfl (gD (d:=0) om) (fun b6 o7 hok8=> ?_)
      replace hok8:=zx.1 hok8
      refine e_ru (zr (j:=0) 0 ty91 rfl rfl rfl rfl)<|e_p (zqb rfl rfl)<|e_p (zy rfl rfl)<|e_p (zy rfl rfl)<|e_p (zb rfl)<|zf ?_
      exact zka (decide ((l2.getD 0 0)≤4)) (show True from by first|trivial) ((.c rfl .n):SubM _ _) (ho:=((.c (i:=0) rfl .n):PickO _ _ _)) ((.of [1,2] rfl):SelR _ _ _)
    ·
     refine e_mv rfl<|zX (x0:=(l1.getD 0 0)) 0 0 rfl yh sz91 rfl rfl rfl cbo rfl rfl (gD (d:=0) om) (fun b9 o10 hok11=> ?_)
     replace hok11:=zx.1 hok11
     refine e_ru (zr (j:=0) 0 ty91 rfl rfl rfl rfl)<|e_p (zqb rfl rfl)<|e_p (zy rfl rfl)<|e_p (zy rfl rfl)<|zS rfl rfl (zaa rfl) (fun h12=> ?_) (fun h12=> ?_)
     ·
      refine e_mv rfl<|e_p (zD yh rfl)<|e_p (zna rfl rfl)<|zS rfl rfl (zaa rfl) (fun h13=> ?_) (fun h13=> ?_)
      ·
       refine e_no<|e_no<|e_no<|e_no<|e_p (zy rfl rfl)<|e_p (zy rfl rfl)<|e_p (zb rfl)<|zf ?_
       exact zka true (show True from by first|trivial) ((.e rfl (congrArg Value.bool cbu) .n):SubM _ _) (ho:=((.c (i:=0) rfl .n):PickO _ _ _)) ((.of [1,2] rfl):SelR _ _ _)
      ·
       refine e_mv rfl<|zX (x0:=(l2.getD 0 0)) 2 0 rfl yh sz91 rfl rfl rfl cbo rfl rfl (gD (d:=0) om) (fun b14 o15 hok16=> ?_)
       replace hok16:=zx.1 hok16
       refine e_ru (zr (j:=0) 0 ty91 rfl rfl rfl rfl)<|e_p (zqb rfl rfl)<|e_p (zy rfl rfl)<|e_p (zy rfl rfl)<|e_p (zb rfl)<|zf ?_
       exact zka (decide ((l2.getD 0 0)≤4)) (show True from by first|trivial) ((.c rfl .n):SubM _ _) (ho:=((.c (i:=0) rfl .n):PickO _ _ _)) ((.of [2,3] rfl):SelR _ _ _)
     ·
      refine e_no<|e_no<|e_no<|e_no<|e_no<|e_no<|e_no<|e_no<|e_no<|e_p (zy rfl rfl)<|e_p (zb rfl)<|zf ?_
      exact zka false (show True from by first|trivial) ((.e rfl (congrArg Value.bool cbu) .n):SubM _ _) (ho:=((.c (i:=0) rfl .n):PickO _ _ _)) ((.of [1,2] rfl):SelR _ _ _)
   ·
    refine e_no<|e_no<|e_no<|e_no<|e_no<|e_no<|e_no<|e_no<|e_no<|e_p (zy rfl rfl)<|e_mv rfl<|e_no<|e_no<|e_no<|e_no<|e_no<|e_no<|e_no<|e_no<|e_no<|e_p (zy rfl rfl)<|e_p (zb rfl)<|zf ?_
    exact zka false (show True from by first|trivial) ((.e rfl (congrArg Value.bool cbu) .n):SubM _ _) (ho:=((.c (i:=0) rfl .n):PickO _ _ _)) ((.of [0,1] rfl):SelR _ _ _)
  ·
   refine e_no<|e_no<|e_no<|e_p (zy rfl rfl)<|e_mv rfl<|e_no<|e_no<|e_no<|e_no<|e_no<|e_no<|e_no<|e_no<|e_no<|e_p (zy rfl rfl)<|e_mv rfl<|e_no<|e_no<|e_no<|e_no<|e_no<|e_no<|e_no<|e_no<|e_no<|e_p (zy rfl rfl)<|e_p (zb rfl)<|zf ?_
   exact zka false (show True from by first|trivial) ((.e rfl (congrArg Value.bool cbu) .n):SubM _ _) (ho:=((.c (i:=0) rfl .n):PickO _ _ _)) ((.of [0,1] rfl):SelR _ _ _)
 ·
  rintro g9 -
  try dsimp only
  refine zE ?_
  exact zw Tryz.results66 g9 trivial (zo rfl) rfl (ho:=(.n:PickO _ _ _)) (.n:SelR _ _ _)
theorem zoe {u1:Wd} {v1:Wd} {x1:Option Rat}:Con yd 66 [.agg #[u1.b,u1.l,v1.b,v1.l]] [] [eF u1 v1 (x1)] (Y:=(Bool)) (fun y=>True) (fun y=> .bool (y)) (fun y=>[]) (fun y=>[]):=by
  exact con_e1 (fun y hy h1 h2=>zVd rfl rfl h1 h2)
theorem zgg {p1:Option Addr} {n1:Nat} {c1:Nat} {l1:List (Option Rat)} {m:Int} (hn1:l1.length=n1):Con yd 36 [.slice p1 n1 c1,.int .i64 m] [] [slF rE p1 c1 l1] (Y:=Bool) (fun y=>(y=true→((n1:Nat):Int)≤m∧∀i,i<n1→yc ((l1.getD i none).getD 0)≤2)) (fun y=> .bool y) (fun y=>[]) (fun y=>[]):=by
 refine zl Tryz.func36 rfl rfl rfl (fun c=> ?_)
 show RunC _ _ _ _ _ [(0,.slice p1 n1 c1),(1,.int .i64 m)] [] [slF rE p1 c1 l1]
 refine zP 0 rfl (fun hL0=> ?_)
 refine ze<|za<|e_p (zb rfl)<|zf<|zd<|ze<|ze<|za<|e_mv rfl<|e_mv rfl<|zk rfl rfl (.c rfl (.c rfl .n)) ce10 (zzg (p1:=p1) (n1:=n1) (c1:=c1) (l1:=l1) (m:=m) (hn1:=ass)) (.c (j:=0) rfl .n) ?_
 rintro b91 hfa
 dsimp only [aq,nq,cq]
 replace hfa:(b91=true→((n1:Nat):Int)≤m∧∀i,i<n1→yc ((l1.getD i none).getD 0)≤2):=hfa
 refine e_p (zDb rfl)<|zf<|zd<|zsb rfl (fun h10=> ?_) (fun h10=> ?_)
 ·
  refine ze<|za<|e_p (zb rfl)<|zf<|zd<|zE<|zp ?_
  exact zw Tryz.results36 false (fun k=>by cases k) (zo rfl) rfl (ho:=(.n:PickO _ _ _)) (.n:SelR _ _ _)
 ·
  refine zB<|zd<|ze<|ze<|za<|e_mv rfl<|e_p (zD ya rfl)<|e_mv rfl<|zf<|zd<|zv<|zfa (X:=Nat) (fun x:Nat=>x≤n1) (fun x=>[(13,.int .i64 ((x:Nat):Int)),(12,.int .i64 ((n1:Nat):Int)),(11,.slice p1 n1 c1)]) (fun x=>[]) (fun x=>[slF rE p1 c1 l1]) (fun x:Nat=>n1 - x) 0 (show 0≤n1 from by exact Nat.zero_le _) ((.e rfl (by first|rfl|(congr 1;omega)|simp_all) (.c rfl (.c rfl .n))):SubM _ _) (ho:=(.n:PickO _ _ _)) ((.c (j:=0) rfl .n):SelR _ _ _) ?_
  rintro i hI
  replace hI:i≤n1:=hI
  try dsimp only
  refine ze<|za<|e_p (zY rfl rfl)<|zf<|zd<|ze<|zC rfl (fun h2=> ?_) (fun h2=> ?_)
  ·
   refine zB<|zd<|ze<|zv<|ze<|za<|r_vl rfl rfl (zja (x0:=(l1.getD i (none:Option Rat))) 0 i rfl ya sz28 rfl (by first|rfl|assumption|(simp;done)|omega) rfl rfl (gD (d:=(none:Option Rat)) om)) ?_
   rintro ⟨b3,o4,w5,w6⟩ -
   dsimp only [aq,nq,cq]
   refine zha open_rE<|e_ru (zO (j:=0) 0 ty28 rfl rfl rfl (.t4 .nil))<|zH rfl rfl (zq zr28 rfl) (fun b7=> ?_)
   refine zi 0 rfl rfl rfl rfl rfl sz28 rfl (.t4 .nil) .z<|zf<|zd<|ze<|za<|e_ru (zc 0 ty28 rfl rfl (.t4 .nil))<|zk rfl rfl (.c rfl .n) ce66 (zoe (u1:=w5) (v1:=w6) (x1:=(l1.getD i (none:Option Rat)))) (.c (j:=2) rfl .n) ?_
   rintro b98 -
   dsimp only [aq,nq,cq]
   refine e_p (zDb rfl)<|zf<|zd<|zsb rfl (fun h19=> ?_) (fun h19=> ?_)
   ·
    refine ze<|za<|e_p (zb rfl)<|zf<|zd<|zE<|zda<|zp<|zp<|zda<|zp ?_
    exact zw Tryz.results36 false (fun k=>by cases k) (zo rfl) rfl (ho:=(.n:PickO _ _ _)) (.n:SelR _ _ _)
   ·
    refine zB<|zL<|zd<|za<|e_p (zJ (z:=(((i+1):Nat):Int)) rfl rfl (w64 om))<|e_mv rfl<|zf<|zT (i+1) (show (i+1)≤n1 from by omega) (by show n1 - (i+1)<n1 - i;omega) ((.of rfl):SubM _ _) (ho:=(.n:PickO _ _ _)) ((.c (j:=3) rfl .n):SelR _ _ _)
  ·
   refine zca<|zh<|zh<|zt<|zd<|ze<|za<|e_p (zb rfl)<|zf<|zd<|zE ?_
   exact zw Tryz.results36 true (fun _=>hfa (by simpa using h10)) (zo rfl) rfl (ho:=(.n:PickO _ _ _)) (.n:SelR _ _ _)
theorem zOb {p1:Option Addr} {n1:Nat} {c1:Nat} {l1:List (Option Rat)} {u1:Wd} {v1:Wd} {x1:Option Rat} {u2:Wd} {v2:Wd} {x2:Option Rat} {k:Int} (hn1:l1.length=n1) (hkk: -9223372036854775808≤k∧k≤9223372036854775807):Con yd 7 [.slice p1 n1 c1,.agg #[u1.b,u1.l,v1.b,v1.l,u2.b,u2.l,v2.b,v2.l],.int .i64 k] [] [slF rE p1 c1 l1,eF u1 v1 x1,eF u2 v2 x2] (Y:=Unit) (fun y=>True) (fun y=> .bool true) (fun y=>[]) (fun y=>[]):=by
 refine zl Tryz.func7 rfl rfl rfl (fun c=> ?_)
 show RunC _ _ _ _ _ [(0,.slice p1 n1 c1),(1,.agg #[u1.b,u1.l,v1.b,v1.l,u2.b,u2.l,v2.b,v2.l]),(2,.int .i64 k)] [] [slF rE p1 c1 l1,eF u1 v1 x1,eF u2 v2 x2]
 refine zP 0 rfl (fun hL0=> ?_)
 refine ze<|za<|zH rfl rfl (zN rfl rfl) (fun b1=> ?_)
 refine e_p (zb rfl)<|zf<|zd<|ze<|ze<|za<|zM rfl rfl (.n) ce9 (zBf) (.n)<|e_p (zDb rfl)<|zf<|zd<|zob rfl rfl<|zB<|zd<|ze<|zQa (X:=Bool) (fun x=>(x=false→(((n1:Nat):Int)≤5∧∀i,i<n1→yc ((l1.getD i none).getD 0)≤2)∧(u1.n≤2∧v1.n≤2)∧(u2.n≤2∧v2.n≤2)∧(k≤12∨200<k))) (fun x=>[(35,.bool x),(6,.bool false),(4,.pointer (some ⟨b1,0,none⟩)),(0,.slice p1 n1 c1),(2,.int .i64 k)]) (fun x=>[boxA b1 48 (cw [u1,v1,u2,v2])]) (fun x=>[slF rE p1 c1 l1,eF u1 v1 x1,eF u2 v2 x2]) ?_ ?_
 ·
  refine za<|e_mv rfl<|zk rfl rfl (.c rfl (.c rfl .n)) ce36 (zgg (p1:=p1) (n1:=n1) (c1:=c1) (l1:=l1) (m:=5) (hn1:=ass)) (.c (j:=0) rfl .n) ?_
  rintro b92 hfa
  dsimp only [aq,nq,cq]
  replace hfa:(b92=true→((n1:Nat):Int)≤5∧∀i,i<n1→yc ((l1.getD i none).getD 0)≤2):=hfa
  refine e_p (zDb rfl)<|zhg rfl rfl (zaa rfl) (fun h16=> ?_) (fun h16=> ?_)
  ·
   refine e_no<|e_no<|e_no<|e_no<|e_p (zy rfl rfl)<|e_mv rfl<|e_no<|e_no<|e_no<|e_no<|e_p (zy rfl rfl)<|e_mv rfl<|e_no<|e_no<|e_no<|e_no<|e_no<|e_no<|e_p (zy rfl rfl)<|zf ?_
   exact zka true (show (true=false→(((n1:Nat):Int)≤5∧∀i,i<n1→yc ((l1.getD i none).getD 0)≤2)∧(u1.n≤2∧v1.n≤2)∧(u2.n≤2∧v2.n≤2)∧(k≤12∨200<k)) from by (intro k;cases k)) ((.e rfl (congrArg Value.bool cbu) (.of rfl)):SubM _ _) (ho:=((.c (i:=0) rfl .n):PickO _ _ _)) ((.of [0,1,2] rfl):SelR _ _ _)
  ·
   have hf1:=hfa (by simpa using h16)
   refine e_p (zg yb rfl sz28 rfl rfl)<|e_ru (zc 0 ty28 rfl rfl (.t4 .nil))<|zM rfl rfl (.c rfl .n) ce11 (zUc (u1:=u1) (v1:=v1)) (.n)<|e_p (zZa rfl)<|e_p (zy rfl rfl)<|zS rfl rfl (zaa rfl) (fun h22=> ?_) (fun h22=> ?_)
   ·
    refine e_no<|e_no<|e_no<|e_no<|e_p (zy rfl rfl)<|e_mv rfl<|e_no<|e_no<|e_no<|e_no<|e_no<|e_no<|e_p (zy rfl rfl)<|zf ?_
    exact zka true (show (true=false→(((n1:Nat):Int)≤5∧∀i,i<n1→yc ((l1.getD i none).getD 0)≤2)∧(u1.n≤2∧v1.n≤2)∧(u2.n≤2∧v2.n≤2)∧(k≤12∨200<k)) from by (intro k;cases k)) ((.e rfl (congrArg Value.bool cbu) (.of rfl)):SubM _ _) (ho:=((.c (i:=0) rfl .n):PickO _ _ _)) ((.of [0,1,2] rfl):SelR _ _ _)
   ·
    refine e_p (zg yb rfl sz28 rfl rfl)<|e_ru (zc 0 ty28 rfl rfl (.s4 (.t4 .nil)))<|zM rfl rfl (.c rfl .n) ce11 (zUc (u1:=u2) (v1:=v2)) (.n)<|e_p (zZa rfl)<|e_p (zy rfl rfl)<|zS rfl rfl (zaa rfl) (fun h28=> ?_) (fun h28=> ?_)
    ·
     refine e_no<|e_no<|e_no<|e_no<|e_no<|e_no<|e_p (zy rfl rfl)<|zf ?_
     exact zka true (show (true=false→(((n1:Nat):Int)≤5∧∀i,i<n1→yc ((l1.getD i none).getD 0)≤2)∧(u1.n≤2∧v1.n≤2)∧(u2.n≤2∧v2.n≤2)∧(k≤12∨200<k)) from by (intro k;cases k)) ((.e rfl (congrArg Value.bool cbu) (.of rfl)):SubM _ _) (ho:=((.c (i:=0) rfl .n):PickO _ _ _)) ((.of [0,1,2] rfl):SelR _ _ _)
    ·
     refine e_mv rfl<|e_p (zwa rfl rfl)<|zS rfl rfl (zaa rfl) (fun h31=> ?_) (fun h31=> ?_)
     ·
      refine e_mv rfl<|e_p (zqb rfl rfl)<|e_p (zy rfl rfl)<|e_p (zy rfl rfl)<|zf ?_
      exact zka (decide (k≤200)) (show ((decide (k≤200))=false→(((n1:Nat):Int)≤5∧∀i,i<n1→yc ((l1.getD i none).getD 0)≤2)∧(u1.n≤2∧v1.n≤2)∧(u2.n≤2∧v2.n≤2)∧(k≤12∨200<k)) from by (intro e;exact ⟨hf1,Decidable.not_not.1 h22,Decidable.not_not.1 h28,.inr (by have:=of_decide_eq_false e;omega)⟩)) ((.e rfl (congrArg Value.bool cbu) (.of rfl)):SubM _ _) (ho:=((.c (i:=0) rfl .n):PickO _ _ _)) ((.of [0,1,2] rfl):SelR _ _ _)
     ·
      refine e_no<|e_no<|e_p (zy rfl rfl)<|e_p (zy rfl rfl)<|zf ?_
      exact zka false (show (false=false→(((n1:Nat):Int)≤5∧∀i,i<n1→yc ((l1.getD i none).getD 0)≤2)∧(u1.n≤2∧v1.n≤2)∧(u2.n≤2∧v2.n≤2)∧(k≤12∨200<k)) from by (intro _;exact ⟨hf1,Decidable.not_not.1 h22,Decidable.not_not.1 h28,.inl om⟩)) ((.e rfl (congrArg Value.bool cbu) (.of rfl)):SubM _ _) (ho:=((.c (i:=0) rfl .n):PickO _ _ _)) ((.of [0,1,2] rfl):SelR _ _ _)
 ·
  rintro g9 hC
  replace hC:(g9=false→(((n1:Nat):Int)≤5∧∀i,i<n1→yc ((l1.getD i none).getD 0)≤2)∧(u1.n≤2∧v1.n≤2)∧(u2.n≤2∧v2.n≤2)∧(k≤12∨200<k)):=hC
  try dsimp only [cw]
  refine zsb rfl (fun h35=> ?_) (fun h35=> ?_)
  ·
   refine ze<|za<|e_p (zb rfl)<|zf<|zd<|zE<|zp ?_
   exact zw Tryz.results7 () trivial (zo rfl) rfl (ho:=(.n:PickO _ _ _)) (.n:SelR _ _ _)
  ·
   obtain ⟨hf1,hs1,hs2,hk9⟩:=hC h35
   refine zed (p:=yc (x1.getD 0)≤2) (fun g hh=>ee_hq (Holds.get 1 rfl hh) hs1.1 hs1.2) (fun hqx1=> ?_)
   refine zed (p:=yc (x2.getD 0)≤2) (fun g hh=>ee_hq (Holds.get 2 rfl hh) hs2.1 hs2.2) (fun hqx2=> ?_)
   have hm1:n1≤5:=by omega
   have hb1:=Po.few_all hn1 hf1.2
   have hv1:=Po.few_bd hb1
   have hl1:(Po.vals l1).length=n1:=by rw [Po.vals_len,hn1]
   have hc1:=Po.cb_few hv1 om
   have hrs:=Po.rsok_of om hc1
   obtain ⟨hS1,hS2⟩:=Po.sok_of om hc1
   obtain ⟨hr1,hr2⟩:=Po.rfe_hq (S:=(Po.sturm (Po.vals l1))) (rt:=Po.rtp (Po.vals l1)) hqx1 hqx2 hk9
   refine zB<|zd<|ze<|za<|e_mv rfl<|e_ru (zc 0 ty48 rfl rfl (.t8 .nil))<|e_mv rfl<|zk rfl rfl (.c rfl (.c rfl (.c rfl .n))) ce37 (zme (p1:=p1) (n1:=n1) (c1:=c1) (l1:=l1) (u1:=u1) (v1:=v1) (x1:=x1) (u2:=u2) (v2:=v2) (x2:=x2) (k:=k) (hn1:=ass) (hm1:=by first|omega|rfl|assumption|decide) (hok:=by exact hrs) (hlS:=by exact Nat.le_trans (Po.sturm_len _) om) (hvk:=by exact fun z hz=>Po.vok_sturm hS2 (Nat.le_trans hz dd)) (hev:=by exact fun z hz i=>Nat.le_trans (Po.ev_drop_hq (N:=5) hz hv1 om i) dd) (hx1:=by first|omega|rfl|assumption|decide) (hx2:=by first|omega|rfl|assumption|decide) (hk:=by exact hk9)) (.c (j:=0) rfl (.c (j:=1) rfl (.c (j:=2) rfl .n))) ?_
   rintro ⟨w33,w44,w55,w66⟩ -
   dsimp only [aq,nq,cq]
   refine e_mv rfl<|e_p (zm rfl rfl)<|e_p (zm rfl rfl)<|zH rfl rfl (zq zr48 rfl) (fun b7=> ?_)
   refine zi 0 rfl rfl rfl rfl rfl sz48 rfl (.t8 .nil) .z<|e_p (zb rfl)<|zf<|zd<|ze ?_
   have e8:(Po.rfe (Po.sturm (Po.vals l1)) (Po.rtp ((Po.sturm (Po.vals l1)).getD 0 [])) (x1.getD 0) (x2.getD 0) k:Int×Rat×Rat)=Po.rfe (Po.sturm (Po.vals l1)) (Po.rtp (Po.vals l1)) (x1.getD 0) (x2.getD 0) k:=by exact Po.rfe_same _ _ _ _
   rw [e8]
   refine za<|e_mv rfl<|e_ru (zc 1 ty48 rfl rfl (.t8 .nil))<|e_mv rfl<|zk rfl rfl (.c rfl (.c rfl (.c rfl .n))) ce38 (zne (p1:=p1) (n1:=n1) (c1:=c1) (l1:=l1) (u1:=u1) (v1:=v1) (x1:=x1) (u2:=u2) (v2:=v2) (x2:=x2) (k:=k) (hn1:=ass) (hm1:=by first|omega|rfl|assumption|decide) (hok:=by exact hrs) (hlS:=by exact Nat.le_trans (Po.sturm_len _) om) (hvk:=by exact fun z hz=>Po.vok_sturm hS2 (Nat.le_trans hz dd)) (hev:=by exact fun z hz i=>Nat.le_trans (Po.ev_drop_hq (N:=5) hz hv1 om i) dd) (hx1:=by first|omega|rfl|assumption|decide) (hx2:=by first|omega|rfl|assumption|decide) (hk:=by exact hk9)) (.c (j:=2) rfl (.c (j:=3) rfl (.c (j:=4) rfl .n))) ?_
   rintro ⟨w39,w410,w511,w612⟩ -
   dsimp only [aq,nq,cq]
   refine e_mv rfl<|e_p (zm rfl rfl)<|e_p (zm rfl rfl)<|zH rfl rfl (zq zr48 rfl) (fun b13=> ?_)
   refine zi 0 rfl rfl rfl rfl rfl sz48 rfl (.t8 .nil) .z<|e_p (zb rfl)<|zf<|zd<|zQa (X:=Unit) (fun x=>True) (fun x=>[(6,.bool true)]) (fun x=>[boxA b13 48 (cw [w39,w410,w511,w612]),boxA b7 48 (cw [w33,w44,w55,w66]),boxA b1 48 (cw [u1,v1,u2,v2])]) (fun x=>[qF (decide ((Po.rfe (Po.sturm (Po.vals l1)) (Po.rtp (Po.vals l1)) (x1.getD 0) (x2.getD 0) k).1=0)) w39 w410 ((Po.rfe (Po.sturm (Po.vals l1)) (Po.rtp (Po.vals l1)) (x1.getD 0) (x2.getD 0) k).2.1),qF (decide ((Po.rfe (Po.sturm (Po.vals l1)) (Po.rtp (Po.vals l1)) (x1.getD 0) (x2.getD 0) k).1=0)) w511 w612 ((Po.rfe (Po.sturm (Po.vals l1)) (Po.rtp (Po.vals l1)) (x1.getD 0) (x2.getD 0) k).2.2),qF (decide ((Po.rfe (Po.sturm (Po.vals l1)) (Po.rtp (Po.vals l1)) (x1.getD 0) (x2.getD 0) k).1=0)) w33 w44 ((Po.rfe (Po.sturm (Po.vals l1)) (Po.rtp (Po.vals l1)) (x1.getD 0) (x2.getD 0) k).2.1),qF (decide ((Po.rfe (Po.sturm (Po.vals l1)) (Po.rtp (Po.vals l1)) (x1.getD 0) (x2.getD 0) k).1=0)) w55 w66 ((Po.rfe (Po.sturm (Po.vals l1)) (Po.rtp (Po.vals l1)) (x1.getD 0) (x2.getD 0) k).2.2),slF rE p1 c1 l1,eF u1 v1 x1,eF u2 v2 x2]) ?_ ?_
   ·
    refine za<|e_mv rfl<|e_mv rfl<|e_p (zna rfl rfl) ?_
    rw [show (decide ((Po.rfe (Po.sturm (Po.vals l1)) (Po.rtp (Po.vals l1)) (x1.getD 0) (x2.getD 0) k).1=(Po.rfe (Po.sturm (Po.vals l1)) (Po.rtp (Po.vals l1)) (x1.getD 0) (x2.getD 0) k).1))=true from by exact decide_eq_true rfl]
    refine e_mv rfl<|e_mv rfl<|e_p (zfb rfl rfl)<|zS rfl rfl (zaa rfl) (fun h56=> ?_) (fun h56=> ?_)
    ·
     refine e_no<|e_no<|e_no<|e_p (zy rfl rfl)<|e_p (zy rfl rfl)<|e_p (zb rfl)<|zf ?_
     exact zka () (show True from by first|trivial|omega|simp_all) ((.c rfl .n):SubM _ _) (ho:=((.of [0,0,0] rfl):PickO _ _ _)) ((.of [0,1,2,3,4,5,6] rfl):SelR _ _ _)
    ·
     have e14:(decide ((Po.rfe (Po.sturm (Po.vals l1)) (Po.rtp (Po.vals l1)) (x1.getD 0) (x2.getD 0) k).1=0))=true:=by exact decide_eq_true (Decidable.not_not.1 h56)
     rw [e14]
     refine e_ru (zc 1 ty48 rfl rfl (.t8 .nil))<|e_ru (zc 0 ty48 rfl rfl (.t8 .nil))<|zM rfl rfl (.c rfl (.c rfl .n)) ce39 (zNb (u1:=w33) (u2:=w55) (u3:=w39) (u4:=w511) (v1:=w44) (v2:=w66) (v3:=w410) (v4:=w612) (q1:=(Po.rfe (Po.sturm (Po.vals l1)) (Po.rtp (Po.vals l1)) (x1.getD 0) (x2.getD 0) k).2.1) (q2:=(Po.rfe (Po.sturm (Po.vals l1)) (Po.rtp (Po.vals l1)) (x1.getD 0) (x2.getD 0) k).2.2) (q3:=(Po.rfe (Po.sturm (Po.vals l1)) (Po.rtp (Po.vals l1)) (x1.getD 0) (x2.getD 0) k).2.1) (q4:=(Po.rfe (Po.sturm (Po.vals l1)) (Po.rtp (Po.vals l1)) (x1.getD 0) (x2.getD 0) k).2.2) (hl1:=om) (hl2:=om)) (.c (j:=2) rfl (.c (j:=3) rfl (.c (j:=0) rfl (.c (j:=1) rfl .n)))) ?_
     rw [show (decide (((Po.rfe (Po.sturm (Po.vals l1)) (Po.rtp (Po.vals l1)) (x1.getD 0) (x2.getD 0) k).2.1)=((Po.rfe (Po.sturm (Po.vals l1)) (Po.rtp (Po.vals l1)) (x1.getD 0) (x2.getD 0) k).2.1)∧((Po.rfe (Po.sturm (Po.vals l1)) (Po.rtp (Po.vals l1)) (x1.getD 0) (x2.getD 0) k).2.2)=((Po.rfe (Po.sturm (Po.vals l1)) (Po.rtp (Po.vals l1)) (x1.getD 0) (x2.getD 0) k).2.2)))=true from by exact decide_eq_true ⟨rfl,rfl⟩]
     refine e_p (zy rfl rfl)<|e_p (zy rfl rfl)<|e_p (zb rfl)<|zf ?_
     exact zka () (show True from by first|trivial|omega|simp_all) ((.c rfl .n):SubM _ _) (ho:=((.of [0,0,0] rfl):PickO _ _ _)) ((.e (j:=0) rfl (by first|rfl|simp_all) (.e (j:=1) rfl (by first|rfl|simp_all) (.e (j:=2) rfl (by first|rfl|simp_all) (.e (j:=3) rfl (by first|rfl|simp_all) (.of [4,5,6] rfl))))):SelR _ _ _)
   ·
    rintro ⟨⟩ -
    try dsimp only [cw]
    refine zE ?_
    exact zw Tryz.results7 () trivial (zo rfl) rfl (ho:=(.n:PickO _ _ _)) (.n:SelR _ _ _)
end Go.Proofs.YtbiaimgafknkmaaGreat.Sp
namespace Go.Proofs.YtbiaimgafknkmaaGreat.Sp
open Go
set_option linter.unusedVariables false
def rRaw:Rp ((Bool×List Int)×(Bool×List Int)):=rP (rP rB (rS (rI .u32))) (rP rB (rS (rI .u32)))
theorem eF_of {g:Hp} {s t:Bool} {p1 p2:Option Addr} {c1 c2:Nat} {la lb:List Int} (ha:Sl (rI .u32) g p1 c1 la) (hb:Sl (rI .u32) g p2 c2 lb) (k1:la.length≤1099511627776) (k2:lb.length≤1099511627776):
    (eF ⟨s,p1,la.length,c1⟩ ⟨t,p2,lb.length,c2⟩ (qo ((s,la),(t,lb)))).on g:=⟨((s,la),(t,lb)),⟨rfl,rfl,k1,ha⟩,⟨rfl,rfl,k2,hb⟩,rfl⟩
theorem sl_raw {g:Hp} {p:Option Addr} {c:Nat} {l:List ((Bool×List Int)×(Bool×List Int))} (k:Sl rRaw g p c l) (hb:∀x,x∈l→x.1.2.length≤1099511627776∧x.2.2.length≤1099511627776):Sl rE g p c (l.map qo):=by
  refine ⟨by rw [List.length_map];exact k.1,k.2.1,k.2.2.1,fun i x e=> ?_⟩
  rw [List.getElem?_map] at e
  obtain ⟨x0,e0,rfl⟩:=Option.map_eq_some_iff.1 e
  obtain ⟨b,off,⟨⟨γ1,p1,c1⟩,⟨γ2,p2,c2⟩⟩,e1,e2,e3⟩:=k.2.2.2 i x0 e0
  obtain ⟨h1,h2⟩:=hb x0 (List.mem_of_getElem? e0)
  exact ⟨b,off,(⟨x0.1.1,p1,x0.1.2.length,c1⟩,⟨x0.2.1,p2,x0.2.2.length,c2⟩),e1,e2,eF_of e3.1.2 e3.2.2 h1 h2⟩
theorem mz_raw1 {x:(Bool×List Int)×(Bool×List Int)} {n:Nat} (h:(fun z:(Bool×List Int)×(Bool×List Int)=>(fun z:Bool×List Int=>(fun _:Bool=>1) z.1+mzL (fun _:Int=>1) z.2) z.1+(fun z:Bool×List Int=>(fun _:Bool=>1) z.1+mzL (fun _:Int=>1) z.2) z.2) x≤n):x.1.2.length≤n∧x.2.2.length≤n:=by
  have q1:=mzL_len (mz:=fun _:Int=>1) (l:=x.1.2) (fun _=>Nat.le_refl 1)
  have q2:=mzL_len (mz:=fun _:Int=>1) (l:=x.2.2) (fun _=>Nat.le_refl 1)
  simp only at h
  omega
theorem mz_raw {l:List ((Bool×List Int)×(Bool×List Int))} {n:Nat} (h:mzL (fun z:(Bool×List Int)×(Bool×List Int)=>(fun z:Bool×List Int=>(fun _:Bool=>1) z.1+mzL (fun _:Int=>1) z.2) z.1+(fun z:Bool×List Int=>(fun _:Bool=>1) z.1+mzL (fun _:Int=>1) z.2) z.2) l≤n) (hn:n≤1099511627776):∀x,x∈l→x.1.2.length≤1099511627776∧x.2.2.length≤1099511627776:=fun x hx=>by
  have:=mzL_mem (mz:=fun z:(Bool×List Int)×(Bool×List Int)=>(fun z:Bool×List Int=>(fun _:Bool=>1) z.1+mzL (fun _:Int=>1) z.2) z.1+(fun z:Bool×List Int=>(fun _:Bool=>1) z.1+mzL (fun _:Int=>1) z.2) z.2) hx
  exact mz_raw1 (Nat.le_trans (Nat.le_of_succ_le (Nat.le_trans this h)) hn)
end Go.Proofs.YtbiaimgafknkmaaGreat.Sp
