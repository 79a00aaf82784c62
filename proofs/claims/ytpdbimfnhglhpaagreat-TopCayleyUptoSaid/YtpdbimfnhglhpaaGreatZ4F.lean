/- Lemmas on the walk and plain lemmas that the claim of this folder uses; each states its own conditions. Lines were printed by a program of ours. -/
import Derived.Test.YtpdbimfnhglhpaaGreatZ4E
set_option linter.unusedVariables false
set_option linter.unusedSimpArgs false
set_option linter.unusedSectionVars false
open Go.Proofs.Tryz renaming underlying64 → ya, underlying134 → yb, prog → yc, underlying60 → yd, underlying74 → yf, underlying62 → yg
open Go.Proofs.YtpdbimfnhglhpaaGreat.Big renaming hq → ye, sgq → yh
namespace Go.Proofs.YtpdbimfnhglhpaaGreat.Sp
open Go
set_option linter.unusedVariables false
def rR:Rp (Rat×Rat):=⟨8,Wd×Wd×Wd×Wd,fun _ w=>[w.1.b,w.1.l,w.2.1.b,w.2.1.l,w.2.2.1.b,w.2.2.1.l,w.2.2.2.b,w.2.2.2.l],fun g q w=>(qF true w.1 w.2.1 q.1).on g∧(qF true w.2.2.1 w.2.2.2 q.2).on g,fun _ _ _ _ h k=>⟨(qF true _ _ _).mono _ _ h k.1,(qF true _ _ _).mono _ _ h k.2⟩,fun _ _=>rfl,fun _ _=>rfl⟩
section
variable {P : Program} {c : Cx} {O : List As} {R : List Fa} {α : Type} {T e : TypeId} {r : Rp α} {l : List α} {b : Nat}
def orA (b:Nat) (T e:TypeId) (r:Rp α) (l:List α):As:=⟨fun g h=>∃p c,Sep g [boxA b T [.slice p l.length c],rowA e r p c l] h,fun _ _ _ hg ⟨p,c,s⟩=>⟨p,c,Sep.mono hg s⟩⟩
theorem Mem.orOpen {w:World} (i:Nat) (hi:O[i]? =some (orA b T e r l)) (mm:Mem c w O R):∃y:Option Addr×Nat,True∧Mem c w (boxA b T [.slice y.1 l.length y.2] :: rowA e r y.1 y.2 l :: O.eraseIdx i) R:=by
  obtain ⟨hh,g,m0⟩:=mm.perm (zfa hi)
  obtain ⟨h1,h2,a,eh,⟨p,cap,s⟩,y⟩:=m0.sep
  refine ⟨(p,cap),trivial,hh,g,?_,m0.holds,m0.apart,m0.hasH,m0.hasG,m0.le,m0.newG,m0.newH,m0.kept⟩
  subst eh
  exact Sep.app (O:=[boxA b T [.slice p l.length cap],rowA e r p cap l]) s y a
theorem Mem.orClose {w:World} {p:Option Addr} {n cap:Nat} (i j:Nat) (hi:O[i]? =some (boxA b T [.slice p n cap])) (hj:(O.eraseIdx i)[j]? =some (rowA e r p cap l)) (hn:n=l.length) (mm:Mem c w O R):Mem c w (orA b T e r l :: (O.eraseIdx i).eraseIdx j) R:=
  (mm.perm ((zfa hi).trans (List.Perm.cons _ (zfa hj)))).resep fun g h s=>by
    subst hn
    obtain ⟨h1,h2,a,eh,x,y⟩:=Sep.split (O:=[boxA b T [.slice p l.length cap],rowA e r p cap l]) (O':=(O.eraseIdx i).eraseIdx j) s
    exact ⟨h1,h2,a,eh,⟨p,cap,x⟩,y⟩
theorem Mem.orCast {w:World} {l2:List α} (i:Nat) (hi:O[i]? =some (orA b T e r l)) (h:l=l2) (mm:Mem c w O R):Mem c w (orA b T e r l2 :: O.eraseIdx i) R:=by
  subst h
  exact mm.perm (zfa hi)
end
end Go.Proofs.YtpdbimfnhglhpaaGreat.Sp
namespace Go.Proofs.YtpdbimfnhglhpaaGreat.Sp
open Go
set_option linter.unusedVariables false
set_option maxRecDepth 100000
set_option maxHeartbeats 8000000
theorem zMb {p1:Option Addr} {n1:Nat} {c1:Nat} {l1:List Rat} (hn1:l1.length=n1) (hm1:n1≤800) (hcl:Po.cl l1=l1) (hb:Po.bd 60000000000 l1):Con yc 234 [.slice p1 n1 c1] [] [slF rQ p1 c1 l1] (Y:=(Option Addr)×Nat) (fun y=>True) (fun y=> .slice (y.1) ((Po.mo l1).length) (y.2)) (fun y=>[]) (fun y=>[slF rQ (y.1) (y.2) (Po.mo l1)]):=by
 refine zk Tryz.func234 rfl rfl rfl (fun c=> ?_)
 show RunC _ _ _ _ _ [(0,.slice p1 n1 c1)] [] [slF rQ p1 c1 l1]
 refine zP 0 rfl (fun hL0=> ?_)
 refine ze<|za<|e_p (zb rfl)<|zf<|zc<|ze<|ze<|za<|e_mv rfl<|e_p (zv ya rfl)<|e_p (zna rfl rfl)<|zf<|zc<|zD rfl (fun h7=> ?_) (fun h7=> ?_)
 ·
  refine ze<|za<|e_p (zb rfl)<|zf<|zc<|zG<|zu<|zOb rQ ?_
  have hv9:(Po.mo l1)=[]:=if_pos om
  exact zx Tryz.results234 (none,0) trivial (zo rfl) (by rw [hv9];rfl) (ho:=oN) ((.e (j:=0) rfl (by rw [hv9]) .n):SelR _ _ _)
 ·
  have hne:l1≠[]:=fun e=>h7 (by rw [← hn1,e];rfl)
  have hl0:=Po.lead_ne hcl hne
  have hlq:=Po.lead_hq hb
  have hiq:=Po.inv_hq hb
  have h1q:ye ((1:Int):Rat)=1:=by decide
  refine zw<|zc<|ze<|zW (OW:=[]) (O:=[]) 12 mixed (.then .ret) kr<|e_dm 1 rfl rfl rfl<|e_dm 2 rfl rfl rfl<|e_pv 3 rfl rfl (zv ya rfl)<|e_pv 4 rfl rfl (zha (z:=(((n1:Nat):Int) - 1)) rfl rfl (w64 om)) ?_
  have e1:((((n1:Nat):Int) - 1):Int)=(((n1 - 1):Nat):Int):=by omega
  rw [e1]
  refine d_vl 5 rfl rfl kr kr rfl rfl (zQ (x0:=(l1.getD (n1 - 1) (0:Rat))) 0 (n1 - 1) rfl ya sz32 rfl (by first|rfl|assumption|(simp;done)|omega) rfl rfl (gD (d:=(0:Rat)) om)) ?_
  rintro ⟨b2,o3,w4,w5⟩ -
  dsimp only [aq,nq,cq]
  refine zQa open_rQ<|e_u 6 rfl rfl (zO (j:=0) 0 ty32 rfl rfl rfl (.t4 .nil))<|zHe (m':=[(15,.agg (cw [w4,w5]).toArray),(2,.slice none 0 0),(0,.slice p1 n1 c1)]) (R':=[qF true w4 w5 (l1.getD (n1 - 1) (0:Rat)),slF rQ p1 c1 l1]) (mR rfl) (List.Perm.refl _) (List.Perm.refl _) ((.of [1,2] rfl):SelR _ _ _)<|zpb (X:=Wd×Wd×Wd×Wd×Nat) (k':=0) (L':=(lb 14 16383)) (fun (u0_1,u0_2,u7_1,u7_2,u11_1)=>([(3,.pointer (some ⟨u11_1,0,none⟩)),(2,.slice none 0 0),(0,.slice p1 n1 c1)],[boxA u11_1 32 (cw [u7_1,u7_2])],[],[qF true u7_1 u7_2 (((1:Int):Rat) / (l1.getD (n1 - 1) (0:Rat))),qF true u0_1 u0_2 ((1:Int):Rat),qF true w4 w5 (l1.getD (n1 - 1) (0:Rat)),slF rQ p1 c1 l1])) ?_ (fun hD0=> ?_)
  ·
   rintro ⟨u0_1,u0_2,u7_1,u7_2,u11_1⟩
   dsimp only [cw]
   refine zU kr<|zc<|ze ?_
   obtain ⟨kq,hkq⟩:∃z:Rat,z=((1:Int):Rat) / (l1.getD (n1 - 1) (0:Rat)):=⟨_,rfl⟩
   rw [← hkq]
   refine za<|e_mv rfl<|e_ru (zd 0 ty32 rfl rfl (.t4 .nil))<|zqa (addQe 0 rfl)<|zqa (addQE 4 rfl)<|zm rfl rfl (.c rfl (.c rfl .n)) ce177 (zid (p1:=p1) (n1:=n1) (c1:=c1) (l1:=(l1.map some)) (u1:=u7_1) (v1:=u7_2) (x1:=(some kq)) (hn1:=by exact (List.length_map _).trans hn1) (hm1:=by first|omega|rfl|assumption|decide) (hm9:=by first|omega|rfl|assumption|decide) (hb1:=by rw [Po.vals_some];exact fun i=>Nat.le_trans (hb i) dd) (hb2:=by exact Po.bd_one (by show ye kq≤_;rw [hkq,←hn1];exact Nat.le_trans hiq dd)) (hs:=by rw [Po.vals_some];intro k lo n h;exact Nat.le_trans (Po.cv_one_hq (Po.bd_cl hb) (by show ye kq≤_;rw [hkq,←hn1];exact hiq) k lo n h) dd)) (.c (j:=0) rfl (.c (j:=1) rfl .n)) ?_
   rintro ⟨p96,c97⟩ -
   dsimp only [aq,nq,cq]
   refine e_p (zb rfl)<|zf<|zc<|zG ?_
   have e8:(Po.mul (Po.vals (l1.map some)) (Po.vals [(some kq)]):List Rat)=Po.mo l1:=by unfold Po.mo;rw [if_neg om,Po.vals_some,hkq,←hn1];rfl
   rw [e8]
   exact zx Tryz.results234 (p96,c97) trivial (zo rfl) rfl (ho:=oN) (s0 rfl)
  refine zpb (X:=Wd×Wd×Wd×Wd×Nat) (k':=2) (L':=(lb 14 4095)) (fun (u0_1,u0_2,u7_1,u7_2,u11_1)=>([(3,.pointer (some ⟨u11_1,0,none⟩)),(18,.int .i64 0),(17,.agg (cw [u7_1,u7_2]).toArray),(2,.slice none 0 0),(0,.slice p1 n1 c1)],[boxA u11_1 32 (cw [wz,wz])],[],[qF true u7_1 u7_2 (((1:Int):Rat) / (l1.getD (n1 - 1) (0:Rat))),qF true u0_1 u0_2 ((1:Int):Rat),qF true w4 w5 (l1.getD (n1 - 1) (0:Rat)),slF rQ p1 c1 l1])) ?_ (fun hD1=> ?_)
  ·
   rintro ⟨u0_1,u0_2,u7_1,u7_2,u11_1⟩
   dsimp only [cw]
   refine zIc 12 kr ?_
   ·
    refine zC kr rfl rfl rfl rfl rfl sz32 rfl (.t4 .nil)<|e_pv 13 rfl rfl (zb rfl) ?_
    exact zMa (hD0 (u0_1,u0_2,u7_1,u7_2,u11_1)) kr (mR rfl) .rfl .rfl ((.of [0,1,2,3] rfl):SelR _ _ _)
  refine zpb (X:=Wd×Wd×Wd×Wd) (k':=3) (L':=(lb 14 2047)) (fun (u0_1,u0_2,u7_1,u7_2)=>([(18,.int .i64 0),(17,.agg (cw [u7_1,u7_2]).toArray),(2,.slice none 0 0),(0,.slice p1 n1 c1)],[],[],[qF true u7_1 u7_2 (((1:Int):Rat) / (l1.getD (n1 - 1) (0:Rat))),qF true u0_1 u0_2 ((1:Int):Rat),qF true w4 w5 (l1.getD (n1 - 1) (0:Rat)),slF rQ p1 c1 l1])) ?_ (fun hD2=> ?_)
  ·
   rintro ⟨u0_1,u0_2,u7_1,u7_2⟩
   dsimp only [cw]
   refine zIc 11 kr ?_
   ·
    refine zuc rfl rfl rfl rfl (zA zr32 rfl) (fun u11_1 _=> ?_)
    exact zMa (hD1 (u0_1,u0_2,u7_1,u7_2,u11_1)) kr (mR rfl) .rfl .rfl ((.of [0,1,2,3] rfl):SelR _ _ _)
  refine zpb (X:=Wd×Wd×Nat) (k':=6) (L':=(lb 14 2175)) (fun (u0_1,u0_2,u11_1)=>([(3,.pointer (some ⟨u11_1,0,none⟩)),(9,.agg (cw [u0_1,u0_2]).toArray),(15,.agg (cw [w4,w5]).toArray),(2,.slice none 0 0),(0,.slice p1 n1 c1)],[boxA u11_1 32 (cw [wz,wz])],[],[qF true u0_1 u0_2 ((1:Int):Rat),qF true w4 w5 (l1.getD (n1 - 1) (0:Rat)),slF rQ p1 c1 l1])) ?_ (fun hD3=> ?_)
  ·
   rintro ⟨u0_1,u0_2,u11_1⟩
   dsimp only [cw]
   refine zIc 7 kr ?_
   ·
    refine zB rfl rfl rfl rfl (.c rfl (.c rfl .n)) ce139 (zHa (k1:=true) (u1:=u0_1) (v1:=u0_2) (q1:=((1:Int):Rat)) (k2:=true) (u2:=w4) (v2:=w5) (q2:=(l1.getD (n1 - 1) (0:Rat))) (hl:=by have h9:=hb (n1 - 1);omega) (hy:=by rw [← hn1];exact hl0)) (.c (j:=0) rfl (.c (j:=1) rfl .n)) ?_
    rintro ⟨u7_1,u7_2⟩ -
    dsimp only [aq,nq,cq]
    refine e_dm 8 rfl rfl rfl<|e_pv 9 rfl rfl (zn rfl rfl)<|e_pv 10 rfl rfl (zn rfl rfl) ?_
    exact zMa (hD1 (u0_1,u0_2,u7_1,u7_2,u11_1)) kr (mR rfl) .rfl .rfl ((.of [0,1,2,3] rfl):SelR _ _ _)
  refine zpb (X:=Wd×Wd) (k':=7) (L':=(lb 14 127)) (fun (u0_1,u0_2)=>([(9,.agg (cw [u0_1,u0_2]).toArray),(15,.agg (cw [w4,w5]).toArray),(2,.slice none 0 0),(0,.slice p1 n1 c1)],[],[],[qF true u0_1 u0_2 ((1:Int):Rat),qF true w4 w5 (l1.getD (n1 - 1) (0:Rat)),slF rQ p1 c1 l1])) ?_ (fun hD4=> ?_)
  ·
   rintro ⟨u0_1,u0_2⟩
   dsimp only [cw]
   refine zmg 7 11 kr ?_ ?_
   ·
    refine zB rfl rfl rfl rfl (.c rfl (.c rfl .n)) ce139 (zHa (k1:=true) (u1:=u0_1) (v1:=u0_2) (q1:=((1:Int):Rat)) (k2:=true) (u2:=w4) (v2:=w5) (q2:=(l1.getD (n1 - 1) (0:Rat))) (hl:=by have h9:=hb (n1 - 1);omega) (hy:=by rw [← hn1];exact hl0)) (.c (j:=0) rfl (.c (j:=1) rfl .n)) ?_
    rintro ⟨u7_1,u7_2⟩ -
    dsimp only [aq,nq,cq]
    refine e_dm 8 rfl rfl rfl<|e_pv 9 rfl rfl (zn rfl rfl)<|e_pv 10 rfl rfl (zn rfl rfl) ?_
    exact zMa (hD2 (u0_1,u0_2,u7_1,u7_2)) kr (mR rfl) .rfl .rfl ((.of [0,1,2,3] rfl):SelR _ _ _)
   ·
    refine zuc rfl rfl rfl rfl (zA zr32 rfl) (fun u11_1 _=> ?_)
    exact zMa (hD3 (u0_1,u0_2,u11_1)) kr (mR rfl) .rfl .rfl ((.of [0,1,2] rfl):SelR _ _ _)
  refine zpb (X:=Nat) (k':=7) (L':=(lb 14 2174)) (fun u11_1=>([(3,.pointer (some ⟨u11_1,0,none⟩)),(15,.agg (cw [w4,w5]).toArray),(2,.slice none 0 0),(0,.slice p1 n1 c1)],[boxA u11_1 32 (cw [wz,wz])],[],[qF true w4 w5 (l1.getD (n1 - 1) (0:Rat)),slF rQ p1 c1 l1])) ?_ (fun hD5=> ?_)
  ·
   rintro u11_1
   dsimp only [cw]
   refine zIc 0 kr ?_
   ·
    refine zB rfl rfl rfl rfl (.c rfl .n) ce52 (zJa (z:=1) (hz:=by first|omega|rfl|assumption|decide)) (.n) ?_
    rintro ⟨u0_1,u0_2⟩ -
    dsimp only [aq,nq,cq]
    exact zMa (hD3 (u0_1,u0_2,u11_1)) kr (mR rfl) .rfl .rfl ((.of [0,1,2] rfl):SelR _ _ _)
  refine zmg 0 11 kr ?_ ?_
  ·
   refine zB rfl rfl rfl rfl (.c rfl .n) ce52 (zJa (z:=1) (hz:=by first|omega|rfl|assumption|decide)) (.n) ?_
   rintro ⟨u0_1,u0_2⟩ -
   dsimp only [aq,nq,cq]
   exact zMa (hD4 (u0_1,u0_2)) kr (mR rfl) .rfl .rfl ((.of [0,1,2] rfl):SelR _ _ _)
  ·
   refine zuc rfl rfl rfl rfl (zA zr32 rfl) (fun u11_1 _=> ?_)
   exact zMa (hD5 u11_1) kr (mR rfl) .rfl .rfl ((.of [0,1] rfl):SelR _ _ _)
theorem zKg {p1:Option Addr} {n1:Nat} {c1:Nat} {l1:List (Option Rat)} {p2:Option Addr} {n2:Nat} {c2:Nat} {l2:List (Option Rat)} (hn1:l1.length=n1) (hm1:n1≤190) (hn2:l2.length=n2) (hm2:n2≤190) (hok:Po.gcok (Po.vals l1) (Po.vals l2)):Con yc 233 [.slice p1 n1 c1,.slice p2 n2 c2] [] [slF rE p1 c1 l1,slF rE p2 c2 l2] (Y:=(Option Addr)×Nat) (fun y=>True) (fun y=> .slice (y.1) ((Po.gcd (Po.vals l1) (Po.vals l2)).length) (y.2)) (fun y=>[]) (fun y=>[slF rQ (y.1) (y.2) (Po.gcd (Po.vals l1) (Po.vals l2))]):=by
 refine zk Tryz.func233 rfl rfl rfl (fun c=> ?_)
 show RunC _ _ _ _ _ [(0,.slice p1 n1 c1),(1,.slice p2 n2 c2)] [] [slF rE p1 c1 l1,slF rE p2 c2 l2]
 refine zP 0 rfl (fun hL0=> ?_)
 refine zP 1 rfl (fun hL1=> ?_)
 have hPl:(Po.cl (Po.vals l1)).length≤n1:=by rw [← hn1,←Po.vals_len l1];exact Po.cl_le_len _
 have hQl:(Po.cl (Po.vals l2)).length≤n2:=by rw [← hn2,←Po.vals_len l2];exact Po.cl_le_len _
 have hPm:=Po.mo_len (Po.cl (Po.vals l1))
 have hQm:=Po.mo_len (Po.cl (Po.vals l2))
 refine ze<|za<|e_p (zb rfl)<|zf<|zc<|ze<|za<|e_mv rfl<|zm rfl rfl (.c rfl .n) ce159 (zKa (p1:=p1) (n1:=n1) (c1:=c1) (l1:=l1) (hn1:=ass) (hm1:=by first|omega|rfl|assumption|exact Po.cl_cl _)) (.c (j:=0) rfl .n) ?_
 rintro ⟨p91,c92⟩ -
 dsimp only [aq,nq,cq]
 refine zm rfl rfl (.c rfl .n) ce234 (zMb (p1:=p91) (n1:=(Po.cl (Po.vals l1)).length) (c1:=c92) (l1:=(Po.cl (Po.vals l1))) (hn1:=by first|omega|rfl|assumption|exact Po.cl_cl _) (hm1:=by first|omega|rfl|assumption|exact Po.cl_cl _) (hcl:=by first|omega|rfl|assumption|exact Po.cl_cl _) (hb:=by exact Po.bd_cl hok.1)) (.c (j:=0) rfl .n) ?_
 rintro ⟨p93,c94⟩ -
 dsimp only [aq,nq,cq]
 refine e_mv rfl<|zm rfl rfl (.c rfl .n) ce159 (zKa (p1:=p2) (n1:=n2) (c1:=c2) (l1:=l2) (hn1:=ass) (hm1:=by first|omega|rfl|assumption|exact Po.cl_cl _)) (.c (j:=3) rfl .n) ?_
 rintro ⟨p95,c96⟩ -
 dsimp only [aq,nq,cq]
 refine zm rfl rfl (.c rfl .n) ce234 (zMb (p1:=p95) (n1:=(Po.cl (Po.vals l2)).length) (c1:=c96) (l1:=(Po.cl (Po.vals l2))) (hn1:=by first|omega|rfl|assumption|exact Po.cl_cl _) (hm1:=by first|omega|rfl|assumption|exact Po.cl_cl _) (hcl:=by first|omega|rfl|assumption|exact Po.cl_cl _) (hb:=by exact Po.bd_cl hok.2.1)) (.c (j:=0) rfl .n) ?_
 rintro ⟨p97,c98⟩ -
 dsimp only [aq,nq,cq]
 refine e_p (zb rfl)<|e_p (zb rfl)<|zf<|zc<|ze<|zt<|zca (X:=Nat×(List Rat)×(List Rat)×(Option Addr)×Nat×(Option Addr)×Nat) (fun x:Nat×(List Rat)×(List Rat)×(Option Addr)×Nat×(Option Addr)×Nat=>(x.2.1.length≤190∧x.2.2.1.length≤x.1∧x.1≤190)∧(Po.cl x.2.1=x.2.1∧Po.cl x.2.2.1=x.2.2.1)∧Po.gok x.1 x.2.1 x.2.2.1∧Po.ge x.1 x.2.1 x.2.2.1=(Po.gcd (Po.vals l1) (Po.vals l2))) (fun x=>[(1,.slice (x.2.2.2.2.2.1) (x.2.2.1.length) (x.2.2.2.2.2.2)),(0,.slice (x.2.2.2.1) (x.2.1.length) (x.2.2.2.2.1)),(4,.slice none 0 0)]) (fun x=>[]) (fun x=>[slF rQ (x.2.2.2.1) (x.2.2.2.2.1) (x.2.1),slF rQ (x.2.2.2.2.2.1) (x.2.2.2.2.2.2) (x.2.2.1),slF rQ p97 c98 (Po.mo (Po.cl (Po.vals l2))),slF rQ p95 c96 (Po.cl (Po.vals l2)),slF rQ p93 c94 (Po.mo (Po.cl (Po.vals l1))),slF rQ p91 c92 (Po.cl (Po.vals l1)),slF rE p1 c1 l1,slF rE p2 c2 l2]) (fun x:Nat×(List Rat)×(List Rat)×(Option Addr)×Nat×(Option Addr)×Nat=>x.2.2.1.length) (((Po.cl (Po.vals l2)).length),(Po.mo (Po.cl (Po.vals l1))),(Po.mo (Po.cl (Po.vals l2))),p93,c94,p97,c98) (show ((Po.mo (Po.cl (Po.vals l1))).length≤190∧(Po.mo (Po.cl (Po.vals l2))).length≤((Po.cl (Po.vals l2)).length)∧((Po.cl (Po.vals l2)).length)≤190)∧(Po.cl (Po.mo (Po.cl (Po.vals l1)))=(Po.mo (Po.cl (Po.vals l1)))∧Po.cl (Po.mo (Po.cl (Po.vals l2)))=(Po.mo (Po.cl (Po.vals l2))))∧Po.gok ((Po.cl (Po.vals l2)).length) (Po.mo (Po.cl (Po.vals l1))) (Po.mo (Po.cl (Po.vals l2)))∧Po.ge ((Po.cl (Po.vals l2)).length) (Po.mo (Po.cl (Po.vals l1))) (Po.mo (Po.cl (Po.vals l2)))=(Po.gcd (Po.vals l1) (Po.vals l2)) from by exact ⟨⟨by omega,by omega,by omega⟩,⟨Po.mo_cl _,Po.mo_cl _⟩,hok.2.2,rfl⟩) (mR rfl) (ho:=oN) ((.of [2,0,0,1,2,3,4,5] rfl):SelR _ _ _) ?_
 rintro ⟨f,p,q,pp,cp,pq,ck⟩ hI
 replace hI:(p.length≤190∧q.length≤f∧f≤190)∧(Po.cl p=p∧Po.cl q=q)∧Po.gok f p q∧Po.ge f p q=(Po.gcd (Po.vals l1) (Po.vals l2)):=hI
 try dsimp only
 obtain ⟨⟨hpl,hqf,hf⟩,⟨hcp,hcq⟩,hgk,hge⟩:=hI
 refine ze<|ze<|za<|e_mv rfl<|e_p (zv ya rfl)<|e_p (zra rfl rfl)<|zf<|zc<|zD rfl (fun h16=> ?_) (fun h16=> ?_)
 ·
  have hg:=Po.gok_yes hgk (show q.length≠0 by omega) om
  have hrl:=(Po.dqr_len p q).2
  refine zw<|zc<|zt<|ze<|za<|e_mv rfl<|e_mv rfl<|zqa (addQE 0 rfl)<|zqa (addQE 2 rfl)<|zm rfl rfl (.c rfl (.c rfl .n)) ce176 (zTb (p1:=pp) (n1:=p.length) (c1:=cp) (l1:=(p.map some)) (p2:=pq) (n2:=q.length) (c2:=ck) (l2:=(q.map some)) (hn1:=by exact List.length_map _) (hm1:=by first|omega|rfl|assumption|exact Po.cl_cl _) (hn2:=by exact List.length_map _) (hm2:=by first|omega|rfl|assumption|exact Po.cl_cl _) (hm12:=by first|omega|rfl|assumption|exact Po.cl_cl _) (hb2:=by rw [Po.vals_some];exact hg.1.1) (hok:=by rw [Po.vals_some,Po.vals_some];exact hg.1.2)) (.c (j:=1) rfl (.c (j:=0) rfl .n)) ?_
  rintro ⟨p89,c810,p911,c912⟩ -
  dsimp only [aq,nq,cq]
  refine e_mv rfl<|e_p (zn rfl rfl)<|e_p (zn rfl rfl)<|e_p (zn rfl rfl)<|e_p (zb rfl)<|e_p (zb rfl)<|e_p (zb rfl)<|zf<|zc ?_
  have e13:(Po.dr (Po.vals (p.map some)) (Po.vals (q.map some)):List Rat)=Po.dr p q:=by rw [Po.vals_some,Po.vals_some]
  rw [e13]
  refine za<|e_mv rfl<|e_mv rfl<|zm rfl rfl (.c rfl .n) ce234 (zMb (p1:=p911) (n1:=(Po.dr p q).length) (c1:=c912) (l1:=(Po.dr p q)) (hn1:=by first|omega|rfl|assumption|exact Po.cl_cl _) (hm1:=by first|omega|rfl|assumption|exact Po.cl_cl _) (hcl:=by exact Po.dr_cl _ _) (hb:=by exact hg.2.1)) (.c (j:=1) rfl .n) ?_
  rintro ⟨p914,c915⟩ -
  dsimp only [aq,nq,cq]
  refine e_p (zb rfl)<|e_p (zb rfl)<|zf<|zK<|zV ((f - 1),q,(Po.mo (Po.dr p q)),pq,ck,p914,c915) (show (q.length≤190∧(Po.mo (Po.dr p q)).length≤(f - 1)∧(f - 1)≤190)∧(Po.cl q=q∧Po.cl (Po.mo (Po.dr p q))=(Po.mo (Po.dr p q)))∧Po.gok (f - 1) q (Po.mo (Po.dr p q))∧Po.ge (f - 1) q (Po.mo (Po.dr p q))=(Po.gcd (Po.vals l1) (Po.vals l2)) from by have h9:=Po.mdr_len (p:=p) hcq (show q.length≠0 by omega) hqf;exact ⟨⟨by omega,h9,by omega⟩,⟨hcq,Po.mo_cl _⟩,hg.2.2,(Po.ge_yes om hqf).symm.trans hge⟩) (by have h9:=Po.mo_len (Po.dr p q);have h8:=Po.dr_less (p:=p) hcq (show q.length≠0 by omega);(show (Po.mo (Po.dr p q)).length<q.length;omega)) (mR rfl) (ho:=oN) ((.of [6,0,7,8,9,10,11,12] rfl):SelR _ _ _)
 ·
  refine zaa<|zg<|zg<|zp<|zc<|ze<|za<|e_mv rfl<|e_p (zb rfl)<|zf<|zc<|zG ?_
  have hv9:p=(Po.gcd (Po.vals l1) (Po.vals l2)):=(Po.ge_nil om).symm.trans hge
  exact zx Tryz.results233 (pp,cp) trivial (zo rfl) (by rw [← hv9]) (ho:=oN) ((.e (j:=0) rfl (by rw [← hv9]) .n):SelR _ _ _)
theorem zLg {p1:Option Addr} {n1:Nat} {c1:Nat} {l1:List (Option Rat)} (hn1:l1.length=n1) (hm1:n1≤190) (hok:Po.sqok (Po.vals l1)):Con yc 174 [.slice p1 n1 c1] [] [slF rE p1 c1 l1] (Y:=(Option Addr)×Nat) (fun y=>True) (fun y=> .slice (y.1) ((Po.sqf (Po.vals l1)).length) (y.2)) (fun y=>[]) (fun y=>[slF rQ (y.1) (y.2) (Po.sqf (Po.vals l1))]):=by
 refine zk Tryz.func174 rfl rfl rfl (fun c=> ?_)
 show RunC _ _ _ _ _ [(0,.slice p1 n1 c1)] [] [slF rE p1 c1 l1]
 refine zP 0 rfl (fun hL0=> ?_)
 refine ze<|za<|e_p (zb rfl)<|zf<|zc<|ze<|za<|e_mv rfl<|zm rfl rfl (.c rfl .n) ce159 (zKa (p1:=p1) (n1:=n1) (c1:=c1) (l1:=l1) (hn1:=ass) (hm1:=by first|omega|rfl|assumption|exact Po.cl_cl _)) (.c (j:=0) rfl .n) ?_
 rintro ⟨p91,c92⟩ -
 dsimp only [aq,nq,cq]
 refine e_p (zb rfl)<|zf<|zc<|ze<|ze ?_
 obtain ⟨P,hP⟩:∃z,z=(Po.cl (Po.vals l1)):=⟨_,rfl⟩
 have e3:(Po.cl (Po.vals l1):List Rat)=P:=by exact hP.symm
 rw [e3]
 have hPl:P.length≤n1:=by rw [hP,←hn1,←Po.vals_len l1];exact Po.cl_le_len _
 have hPd:=Po.der_len P
 refine za<|e_mv rfl<|e_p (zv ya rfl)<|e_p (zna rfl rfl)<|zf<|zc<|zD rfl (fun h10=> ?_) (fun h10=> ?_)
 ·
  refine ze<|za<|e_p (zb rfl)<|zf<|zc<|zG<|zu<|zOb rQ ?_
  have hv9:(Po.sqf (Po.vals l1))=[]:=if_pos (by rw [← hP];omega)
  exact zx Tryz.results174 (none,0) trivial (zo rfl) (by rw [hv9];rfl) (ho:=oN) ((.e (j:=0) rfl (by rw [hv9]) .n):SelR _ _ _)
 ·
  obtain ⟨hk1,hk2,hk3⟩:=hok.2.2 (by rw [← hP];omega)
  rw [← hP] at hk1 hk2 hk3
  have hgl:=Po.gcd_len P (Po.der P)
  have hdl:=(Po.dqr_len P (Po.gcd P (Po.der P))).1
  refine zw<|zc<|ze<|za<|e_mv rfl<|e_mv rfl<|e_mv rfl<|zqa (addQE 0 rfl)<|zm rfl rfl (.c rfl .n) ce175 (zTc (p1:=p91) (n1:=(P).length) (c1:=c92) (l1:=((P).map some)) (hn1:=by exact List.length_map _) (hm1:=by first|omega|rfl|assumption|exact Po.cl_cl _) (hb1:=by intro i;rw [Po.msome,hP,Po.cl_get];exact Nat.le_trans (hok.1 i) dd)) (.c (j:=0) rfl .n) ?_
  rintro ⟨p94,c95⟩ -
  dsimp only [aq,nq,cq]
  have e6:(Po.der (Po.vals ((P).map some)):List Rat)=Po.der P:=by rw [Po.vals_some]
  rw [e6]
  refine zqa (addQE 0 rfl)<|zm rfl rfl (.c rfl (.c rfl .n)) ce233 (zKg (p1:=p91) (n1:=(P).length) (c1:=c92) (l1:=((P).map some)) (p2:=p94) (n2:=(Po.der P).length) (c2:=c95) (l2:=((Po.der P).map some)) (hn1:=by exact List.length_map _) (hm1:=by first|omega|rfl|assumption|exact Po.cl_cl _) (hn2:=by exact List.length_map _) (hm2:=by first|omega|rfl|assumption|exact Po.cl_cl _) (hok:=by rw [Po.vals_some,Po.vals_some];exact hk1)) (.c (j:=2) rfl (.c (j:=0) rfl .n)) ?_
  rintro ⟨p97,c98⟩ -
  dsimp only [aq,nq,cq]
  have e9:(Po.gcd (Po.vals ((P).map some)) (Po.vals ((Po.der P).map some)):List Rat)=Po.gcd P (Po.der P):=by rw [Po.vals_some,Po.vals_some]
  rw [e9]
  refine zqa (addQE 0 rfl)<|zm rfl rfl (.c rfl (.c rfl .n)) ce176 (zTb (p1:=p91) (n1:=(P).length) (c1:=c92) (l1:=((P).map some)) (p2:=p97) (n2:=(Po.gcd P (Po.der P)).length) (c2:=c98) (l2:=((Po.gcd P (Po.der P)).map some)) (hn1:=by exact List.length_map _) (hm1:=by first|omega|rfl|assumption|exact Po.cl_cl _) (hn2:=by exact List.length_map _) (hm2:=by first|omega|rfl|assumption|exact Po.cl_cl _) (hm12:=by first|omega|rfl|assumption|exact Po.cl_cl _) (hb2:=by rw [Po.vals_some];exact hk2.1) (hok:=by rw [Po.vals_some,Po.vals_some];exact hk2.2)) (.c (j:=4) rfl (.c (j:=0) rfl .n)) ?_
  rintro ⟨p810,c811,p912,c913⟩ -
  dsimp only [aq,nq,cq]
  refine e_mv rfl<|e_p (zn rfl rfl)<|e_p (zn rfl rfl)<|e_p (zn rfl rfl)<|e_p (zb rfl)<|e_p (zb rfl)<|e_p (zb rfl)<|zf<|zc<|ze ?_
  have e14:(Po.dq (Po.vals ((P).map some)) (Po.vals ((Po.gcd P (Po.der P)).map some)):List Rat)=Po.dq P (Po.gcd P (Po.der P)):=by rw [Po.vals_some,Po.vals_some]
  rw [e14]
  refine za<|e_mv rfl<|zm rfl rfl (.c rfl .n) ce234 (zMb (p1:=p810) (n1:=(Po.dq P (Po.gcd P (Po.der P))).length) (c1:=c811) (l1:=(Po.dq P (Po.gcd P (Po.der P)))) (hn1:=by first|omega|rfl|assumption|exact Po.cl_cl _) (hm1:=by first|omega|rfl|assumption|exact Po.cl_cl _) (hcl:=by exact Po.dq_cl _ _) (hb:=by exact hk3)) (.c (j:=0) rfl .n) ?_
  rintro ⟨p915,c916⟩ -
  dsimp only [aq,nq,cq]
  refine e_p (zb rfl)<|zf<|zc<|zG ?_
  have hv9:(Po.sqf (Po.vals l1))=Po.mo (Po.dq P (Po.gcd P (Po.der P))):=by unfold Po.sqf;rw [← hP,if_neg om]
  exact zx Tryz.results174 (p915,c916) trivial (zo rfl) (by rw [hv9]) (ho:=oN) ((.e (j:=0) rfl (by rw [hv9]) .n):SelR _ _ _)
end Go.Proofs.YtpdbimfnhglhpaaGreat.Sp
namespace Go.Proofs.YtpdbimfnhglhpaaGreat.Sp
open Go
set_option linter.unusedVariables false
set_option maxRecDepth 100000
set_option maxHeartbeats 8000000
theorem zRe {pL:Option Addr} {nL:Nat} {cL:Nat} {L:List (List Rat)} {u1:Wd} {v1:Wd} {x1:Rat} (hnL:L.length=nL) (hmL:nL≤400) (hx:ye x1≤100000000000) (hv:Po.vok L x1):Con yc 180 [.slice pL nL cL,.agg #[u1.b,u1.l,v1.b,v1.l]] [] [slF (rS rQ) pL cL L,qF true u1 v1 x1] (Y:=Unit) (fun y=>True) (fun y=> .int .i64 (Po.vr L x1)) (fun y=>[]) (fun y=>[]):=by
 refine zk Tryz.func180 rfl rfl rfl (fun c=> ?_)
 show RunC _ _ _ _ _ [(0,.slice pL nL cL),(1,.agg #[u1.b,u1.l,v1.b,v1.l])] [] [slF (rS rQ) pL cL L,qF true u1 v1 x1]
 refine zP 0 rfl (fun hL0=> ?_)
 refine ze<|za<|zM rfl rfl (zT rfl rfl) (fun b1=> ?_)
 refine e_p (zb rfl)<|zf<|zc<|ze<|za<|e_p (zb rfl)<|e_p (zb rfl)<|zf<|zc<|ze<|ze<|za<|e_mv rfl<|e_p (zv yb rfl)<|e_mv rfl<|zf<|zc<|zt<|zca (X:=Nat×Int×Int) (fun x:Nat×Int×Int=>(x.1≤nL∧0≤x.2.1∧x.2.1≤x.1∧ -1≤x.2.2∧x.2.2≤1)∧Po.va x1 (L.drop x.1) x.2.1 x.2.2=Po.vr L x1) (fun x=>[(6,.int .i64 (x.2.2)),(5,.int .i64 (x.2.1)),(12,.int .i64 ((x.1:Nat):Int)),(11,.int .i64 ((nL:Nat):Int)),(10,.slice pL nL cL),(4,.int .i64 0),(3,.pointer (some ⟨b1,0,none⟩))]) (fun x=>[boxA b1 32 (cw [u1,v1])]) (fun x=>[slF (rS rQ) pL cL L,qF true u1 v1 x1]) (fun x:Nat×Int×Int=>nL - x.1) (0,0,0) (show (0≤nL∧0≤0∧0≤0∧ -1≤0∧0≤1)∧Po.va x1 (L.drop 0) 0 0=Po.vr L x1 from by exact ⟨by omega,rfl⟩) ((.c rfl (.c rfl (.e rfl cgs (.of rfl)))):SubM _ _) (ho:=(o0 rfl)) ((.of [0,1] rfl):SelR _ _ _) ?_
 rintro ⟨i,n,s⟩ hI
 replace hI:(i≤nL∧0≤n∧n≤i∧ -1≤s∧s≤1)∧Po.va x1 (L.drop i) n s=Po.vr L x1:=hI
 try dsimp only [cw]
 obtain ⟨⟨hi,hn0,hni,hs1,hs2⟩,hvr⟩:=hI
 have hss: -1≤s∧s≤1:=⟨hs1,hs2⟩
 refine ze<|za<|e_p (zY rfl rfl)<|zf<|zc<|ze<|zD rfl (fun h13=> ?_) (fun h13=> ?_)
 ·
  have hiL:i<nL:=by omega
  have hw:=hv (L.getD i []) (by rw [List.getD_eq_getElem?_getD,List.getElem?_eq_getElem om];exact List.getElem_mem _)
  have hva:=Po.va_step x1 (show i<L.length by omega) n s
  refine zw<|zc<|ze<|zt<|ze<|za<|r_vl rfl rfl (zQ (x0:=(L.getD i [])) 0 i rfl yb sz64 rfl (by first|rfl|assumption|(simp;done)|omega) rfl rfl (gD (d:=[]) om)) ?_
  rintro ⟨b2,o3,p4,c5⟩ -
  dsimp only [aq,nq,cq]
  refine e_ru (zh (j:=0) 0 ty64 rfl rfl rfl rfl)<|e_p (zb rfl)<|zf<|zc<|ze<|za<|e_mv rfl<|e_ru (zd 0 ty32 rfl rfl (.t4 .nil))<|zqa (addQe 3 rfl)<|zqa (addQE 2 rfl)<|zm rfl rfl (.c rfl (.c rfl .n)) ce26 (zSd (p1:=p4) (n1:=(L.getD i []).length) (c1:=c5) (l1:=((L.getD i []).map some)) (u1:=u1) (v1:=v1) (x1:=(some x1)) (hn1:=by exact List.length_map _) (hm1:=by exact Nat.le_trans hw.1 dd) (hx:=by exact Nat.le_trans hx dd) (hb1:=by intro j;rw [Po.msome];exact Nat.le_trans (hw.2.1 j) dd) (hs:=by intro j;rw [Po.vals_some];exact hw.2.2 j)) (.c (j:=0) rfl (.c (j:=1) rfl .n)) ?_
  rintro ⟨w36,w47⟩ -
  dsimp only [aq,nq,cq]
  have e8:(Po.ev ((some x1).getD 0) (Po.vals ((L.getD i []).map some)):Rat)=Po.ev x1 (L.getD i []):=by rw [Po.vals_some];rfl
  rw [e8]
  refine zR rfl rfl (.c rfl .n) ce80 (znb (k1:=true) (u1:=w36) (v1:=w47) (q1:=(Po.ev x1 (L.getD i [])))) (.c (j:=0) rfl .n)<|e_p (zb rfl)<|zf<|zc<|ze<|ze<|za<|e_mv rfl<|e_p (zna rfl rfl)<|zf<|zc<|zD rfl (fun h21=> ?_) (fun h21=> ?_)
  ·
   rw [if_pos h21] at hva
   refine zaa<|zg<|zp<|zc<|za<|e_p (zJ (z:=(((i+1):Nat):Int)) rfl rfl (w64 om))<|e_mv rfl<|zf<|zV ((i+1),n,s) (show ((i+1)≤nL∧0≤n∧n≤(i+1)∧ -1≤s∧s≤1)∧Po.va x1 (L.drop (i+1)) n s=Po.vr L x1 from by exact ⟨by omega,hva.symm.trans hvr⟩) (by show nL - (i+1)<nL - i;omega) (mR rfl) (ho:=(o0 rfl)) ((.of [5,6] rfl):SelR _ _ _)
  ·
   rw [if_neg h21] at hva
   refine zw<|zc<|ze<|ze<|za<|e_mv rfl<|e_mv rfl<|e_p (zob (z:=(s*yh (Po.ev x1 (L.getD i [])))) rfl rfl (w64 (by exact ⟨rfl,Po.sg_mul hss (Big.sgq_rng _)⟩)))<|e_p (zY rfl rfl)<|zf<|zc<|zD rfl (fun h25=> ?_) (fun h25=> ?_)
   ·
    rw [if_pos h25] at hva
    refine za<|e_mv rfl<|e_p (zJ (z:=(n+1)) rfl rfl (w64 om))<|e_p (zb rfl)<|zf<|zc<|za<|e_mv rfl<|e_p (zb rfl)<|zf<|zK<|zc<|za<|e_p (zJ (z:=(((i+1):Nat):Int)) rfl rfl (w64 om))<|e_mv rfl<|zf<|zV ((i+1),(n+1),yh (Po.ev x1 (L.getD i []))) (show ((i+1)≤nL∧0≤(n+1)∧(n+1)≤(i+1)∧ -1≤(yh (Po.ev x1 (L.getD i [])))∧(yh (Po.ev x1 (L.getD i [])))≤1)∧Po.va x1 (L.drop (i+1)) (n+1) (yh (Po.ev x1 (L.getD i [])))=Po.vr L x1 from by have h9:=Big.sgq_rng (Po.ev x1 (L.getD i []));exact ⟨by omega,hva.symm.trans hvr⟩) (by show nL - (i+1)<nL - i;omega) (mR rfl) (ho:=(o0 rfl)) ((.of [5,6] rfl):SelR _ _ _)
   ·
    rw [if_neg h25] at hva
    refine zw<|zc<|za<|e_mv rfl<|e_p (zb rfl)<|zf<|zK<|zc<|za<|e_p (zJ (z:=(((i+1):Nat):Int)) rfl rfl (w64 om))<|e_mv rfl<|zf<|zV ((i+1),n,yh (Po.ev x1 (L.getD i []))) (show ((i+1)≤nL∧0≤n∧n≤(i+1)∧ -1≤(yh (Po.ev x1 (L.getD i [])))∧(yh (Po.ev x1 (L.getD i [])))≤1)∧Po.va x1 (L.drop (i+1)) n (yh (Po.ev x1 (L.getD i [])))=Po.vr L x1 from by have h9:=Big.sgq_rng (Po.ev x1 (L.getD i []));exact ⟨by omega,hva.symm.trans hvr⟩) (by show nL - (i+1)<nL - i;omega) (mR rfl) (ho:=(o0 rfl)) ((.of [5,6] rfl):SelR _ _ _)
 ·
  refine zaa<|zg<|zg<|zp<|zc<|ze<|za<|e_mv rfl<|e_p (zb rfl)<|zf<|zc<|zG ?_
  have hv9:n=Po.vr L x1:=by rw [← hvr,List.drop_eq_nil_of_le om];rfl
  exact zx Tryz.results180 () trivial (zo rfl) (by rw [hv9]) (ho:=oN) sN
theorem zMg {pL:Option Addr} {nL:Nat} {cL:Nat} {L:List (List Rat)} {u1:Wd} {v1:Wd} {x1:Rat} {u2:Wd} {v2:Wd} {x2:Rat} (hnL:L.length=nL) (hmL:nL≤400) (hx1:ye x1≤100000000000) (hx2:ye x2≤100000000000) (hv1:Po.vok L x1) (hv2:Po.vok L x2):Con yc 99 [.slice pL nL cL,.agg #[u1.b,u1.l,v1.b,v1.l],.agg #[u2.b,u2.l,v2.b,v2.l]] [] [slF (rS rQ) pL cL L,qF true u1 v1 x1,qF true u2 v2 x2] (Y:=Unit) (fun y=>True) (fun y=> .int .i64 (Po.bt L x1 x2)) (fun y=>[]) (fun y=>[]):=by
 refine zk Tryz.func99 rfl rfl rfl (fun c=> ?_)
 show RunC _ _ _ _ _ [(0,.slice pL nL cL),(1,.agg #[u1.b,u1.l,v1.b,v1.l]),(2,.agg #[u2.b,u2.l,v2.b,v2.l])] [] [slF (rS rQ) pL cL L,qF true u1 v1 x1,qF true u2 v2 x2]
 refine zP 0 rfl (fun hL0=> ?_)
 have g1:=Po.vr_rng L x1
 have g2:=Po.vr_rng L x2
 refine ze<|za<|zM rfl rfl (zT rfl rfl) (fun b1=> ?_)
 refine zM rfl rfl (zT rfl rfl) (fun b2=> ?_)
 refine e_p (zb rfl)<|zf<|zc<|ze<|zW (OW:=[]) (O:=[boxA b2 32 (cw [u2,v2]),boxA b1 32 (cw [u1,v1])]) 100000 mixed (.then .ret) kr<|e_dm 0 rfl rfl rfl<|e_u 1 rfl rfl (zd 1 ty32 rfl rfl (.t4 .nil))<|e_dm 3 rfl rfl rfl<|e_u 4 rfl rfl (zd 0 ty32 rfl rfl (.t4 .nil))<|e_one 2 (zhb rfl rfl rfl rfl (.c rfl (.c rfl .n)) ce180 (zRe (pL:=pL) (nL:=nL) (cL:=cL) (L:=L) (u1:=u1) (v1:=v1) (x1:=x1) (hnL:=ass) (hmL:=ass) (hx:=ass) (hv:=ass)) (.c (j:=0) rfl (.c (j:=1) rfl .n)) ?_)
 refine e_one 5 (zhb rfl rfl rfl rfl (.c rfl (.c rfl .n)) ce180 (zRe (pL:=pL) (nL:=nL) (cL:=cL) (L:=L) (u1:=u2) (v1:=v2) (x1:=x2) (hnL:=ass) (hmL:=ass) (hx:=ass) (hv:=ass)) (.c (j:=0) rfl (.c (j:=2) rfl .n)) ?_)
 refine e_pv 6 rfl rfl (zha (z:=((Po.vr L x1) - (Po.vr L x2))) rfl rfl (w64 om))<|e_pv 7 rfl rfl (zb rfl)<|zU kr<|zc<|zG ?_
 exact zx Tryz.results99 () trivial (zo rfl) rfl (ho:=oN) sN
end Go.Proofs.YtpdbimfnhglhpaaGreat.Sp
namespace Go.Proofs.YtpdbimfnhglhpaaGreat.Sp
open Go
set_option linter.unusedVariables false
set_option maxRecDepth 100000
set_option maxHeartbeats 8000000
theorem zsf {p1:Option Addr} {n1:Nat} {c1:Nat} {l1:List (Option Rat)} (hn1:l1.length=n1) (hm1:n1≤190) (hok:Po.sok (Po.vals l1)):Con yc 96 [.slice p1 n1 c1] [] [slF rE p1 c1 l1] (Y:=(Option Addr)×Nat) (fun y=>True) (fun y=> .slice (y.1) ((Po.sturm (Po.vals l1)).length) (y.2)) (fun y=>[]) (fun y=>[slF (rS rQ) (y.1) (y.2) (Po.sturm (Po.vals l1))]):=by
 refine zk Tryz.func96 rfl rfl rfl (fun c=> ?_)
 show RunC _ _ _ _ _ [(0,.slice p1 n1 c1)] [] [slF rE p1 c1 l1]
 refine zP 0 rfl (fun hL0=> ?_)
 refine ze<|za<|e_p (zb rfl)<|zf<|zc<|ze<|za<|e_mv rfl<|zm rfl rfl (.c rfl .n) ce174 (zLg (p1:=p1) (n1:=n1) (c1:=c1) (l1:=l1) (hn1:=ass) (hm1:=ass) (hok:=by exact hok.1)) (.c (j:=0) rfl .n) ?_
 rintro ⟨p91,c92⟩ -
 dsimp only [aq,nq,cq]
 refine e_p (zb rfl)<|zf<|zc<|ze<|ze ?_
 obtain ⟨A0,hA0⟩:∃z,z=(Po.sqf (Po.vals l1)):=⟨_,rfl⟩
 have e3:(Po.sqf (Po.vals l1):List Rat)=A0:=by exact hA0.symm
 rw [e3]
 have hAl:A0.length≤n1:=by rw [hA0,←hn1,←Po.vals_len l1];exact Po.sqf_len _
 have hAc:Po.cl A0=A0:=by rw [hA0];exact Po.sqf_cl _
 obtain ⟨hk1,hk2,hk3,hk4⟩:=hok
 rw [← hA0] at hk2 hk3 hk4
 have hAd:=Po.der_len A0
 refine za<|e_mv rfl<|e_p (zv ya rfl)<|e_p (zna rfl rfl)<|zf<|zc<|zD rfl (fun h13=> ?_) (fun h13=> ?_)
 ·
  refine ze<|za<|e_p (zb rfl)<|zf<|zc<|zG<|zu<|zOb (rS rQ) ?_
  have hv9:(Po.sturm (Po.vals l1))=[]:=if_pos (by rw [← hA0];omega)
  exact zx Tryz.results96 (none,0) trivial (zo rfl) (by rw [hv9];rfl) (ho:=oN) ((.e (j:=0) rfl (by rw [hv9]) .n):SelR _ _ _)
 ·
  refine zw<|zc<|ze<|za<|e_mv rfl<|zma rfl rfl (zJc 0 rfl yb inf64 rfl (by first|rfl|assumption|(simp;done)|omega)) (fun b4 _=> ?_)
  refine e_p (zb rfl)<|zf<|zc<|ze<|ze<|za<|e_mv rfl<|zqa (addQE 0 rfl)<|zm rfl rfl (.c rfl .n) ce175 (zTc (p1:=p91) (n1:=(A0).length) (c1:=c92) (l1:=((A0).map some)) (hn1:=by exact List.length_map _) (hm1:=by first|omega|rfl|assumption|decide) (hb1:=by intro i;rw [Po.msome];exact Nat.le_trans (hk2 i) dd)) (.c (j:=0) rfl .n) ?_
  rintro ⟨p95,c96⟩ -
  dsimp only [aq,nq,cq]
  refine e_p (zb rfl)<|zf<|zc<|zt ?_
  have e7:(Po.der (Po.vals ((A0).map some)):List Rat)=Po.der A0:=by rw [Po.vals_some]
  rw [e7]
  refine zca (X:=Nat×(List Rat)×(List Rat)×(Option Addr)×Nat×(Option Addr)×Nat×(Option Addr)×Nat×(List (List Rat))) (fun x:Nat×(List Rat)×(List Rat)×(Option Addr)×Nat×(Option Addr)×Nat×(Option Addr)×Nat×(List (List Rat))=>(x.2.1.length≤190∧x.2.2.1.length≤x.1∧x.1≤190∧x.2.2.2.2.2.2.2.2.2.length+x.1≤200)∧(Po.cl x.2.1=x.2.1∧Po.cl x.2.2.1=x.2.2.1)∧Po.stok x.1 x.2.1 x.2.2.1∧x.2.2.2.2.2.2.2.2.2++Po.st x.1 x.2.1 x.2.2.1=(Po.sturm (Po.vals l1))) (fun x=>[(4,.slice (x.2.2.2.2.2.2.2.1) (x.2.2.2.2.2.2.2.2.2.length) (x.2.2.2.2.2.2.2.2.1)),(5,.slice (x.2.2.2.2.2.1) (x.2.2.1.length) (x.2.2.2.2.2.2.1)),(3,.slice (x.2.2.2.1) (x.2.1.length) (x.2.2.2.2.1)),(2,.slice none 0 0)]) (fun x=>[rowA 64 (rS rQ) (x.2.2.2.2.2.2.2.1) (x.2.2.2.2.2.2.2.2.1) (x.2.2.2.2.2.2.2.2.2)]) (fun x=>[slF rQ (x.2.2.2.1) (x.2.2.2.2.1) (x.2.1),slF rQ (x.2.2.2.2.2.1) (x.2.2.2.2.2.2.1) (x.2.2.1),slF rQ p95 c96 (Po.der A0),slF rE p91 c92 ((A0).map some),slF rQ p91 c92 A0,slF rE p1 c1 l1]) (fun x:Nat×(List Rat)×(List Rat)×(Option Addr)×Nat×(Option Addr)×Nat×(Option Addr)×Nat×(List (List Rat))=>x.2.2.1.length) (A0.length,A0,(Po.der A0),p91,c92,p95,c96,some ⟨b4,0,none⟩,1,[A0]) (show (A0.length≤190∧(Po.der A0).length≤A0.length∧A0.length≤190∧([A0]).length+A0.length≤200)∧(Po.cl A0=A0∧Po.cl (Po.der A0)=(Po.der A0))∧Po.stok A0.length A0 (Po.der A0)∧([A0])++Po.st A0.length A0 (Po.der A0)=(Po.sturm (Po.vals l1)) from by exact ⟨⟨by omega,by omega,by omega,by show 1+A0.length≤200;omega⟩,⟨hAc,Po.der_cl _⟩,hk4,by unfold Po.sturm;rw [← hA0,if_neg om];rfl⟩) ((.e rfl cgs (.c rfl (.e rfl cgs (.c rfl .n)))):SubM _ _) (ho:=((.e (i:=0) rfl cgs .n):PickO _ _ _)) ((.e (j:=2) rfl (by first|rfl|simp_all) (.of [0,0,1,2,3] rfl)):SelR _ _ _) ?_
  rintro ⟨f,a,b,pa,ca,pb,cb,pR,cR,A⟩ hI
  replace hI:(a.length≤190∧b.length≤f∧f≤190∧A.length+f≤200)∧(Po.cl a=a∧Po.cl b=b)∧Po.stok f a b∧A++Po.st f a b=(Po.sturm (Po.vals l1)):=hI
  try dsimp only
  obtain ⟨⟨hal,hbf,hf,hAf⟩,⟨hca,hcb⟩,hsk,hst⟩:=hI
  refine ze<|ze<|za<|e_mv rfl<|e_p (zv ya rfl)<|e_p (zra rfl rfl)<|zf<|zc<|zD rfl (fun h20=> ?_) (fun h20=> ?_)
  ·
   have hg:=Po.stok_yes hsk (show b.length≠0 by omega) om
   have hrl:=(Po.dqr_len a b).2
   refine zw<|zc<|zt<|ze<|za<|e_mv rfl<|e_mv rfl<|zma rfl rfl (zJc 1 rfl yb inf64 rfl (by first|rfl|assumption|(simp;done)|omega)) (fun b8 _=> ?_)
   refine zea 0 rfl .z<|zya 1 rfl rfl rfl (zsa 0 rfl yb inf64 dd rfl rfl (by first|rfl|assumption|(simp;done)|omega) rfl (by first|rfl|assumption|(simp;done)|omega) om om) (fun _=>(.s .z)) ?_
   rintro ⟨p9,c10⟩ -
   dsimp only [aq,nq,cq]
   refine e_p (zb rfl)<|zf<|zc<|ze<|za<|e_mv rfl<|e_mv rfl<|zqa (addQE 1 rfl)<|zqa (addQE 3 rfl)<|zm rfl rfl (.c rfl (.c rfl .n)) ce176 (zTb (p1:=pa) (n1:=a.length) (c1:=ca) (l1:=(a.map some)) (p2:=pb) (n2:=b.length) (c2:=cb) (l2:=(b.map some)) (hn1:=by exact List.length_map _) (hm1:=by first|omega|rfl|assumption|decide) (hn2:=by exact List.length_map _) (hm2:=by first|omega|rfl|assumption|decide) (hm12:=by first|omega|rfl|assumption|decide) (hb2:=by rw [Po.vals_some];exact hg.2.1.1) (hok:=by rw [Po.vals_some,Po.vals_some];exact hg.2.1.2)) (.c (j:=1) rfl (.c (j:=0) rfl .n)) ?_
   rintro ⟨p811,c812,p913,c914⟩ -
   dsimp only [aq,nq,cq]
   refine e_mv rfl<|e_p (zn rfl rfl)<|e_p (zn rfl rfl)<|e_p (zn rfl rfl)<|e_p (zb rfl)<|e_p (zb rfl)<|e_p (zb rfl)<|zf<|zc ?_
   have e15:(Po.dr (Po.vals (a.map some)) (Po.vals (b.map some)):List Rat)=Po.dr a b:=by rw [Po.vals_some,Po.vals_some]
   rw [e15]
   refine za<|e_mv rfl<|e_mv rfl<|zm rfl rfl (.c rfl .n) ce52 (zJa (z:=(-1)) (hz:=by first|omega|rfl|assumption|decide)) (.n) ?_
   rintro ⟨w316,w417⟩ -
   dsimp only [aq,nq,cq]
   refine zqa (addQe 0 rfl)<|zqa (addQE 3 rfl)<|zm rfl rfl (.c rfl (.c rfl .n)) ce177 (zid (p1:=p913) (n1:=(Po.dr a b).length) (c1:=c914) (l1:=((Po.dr a b).map some)) (u1:=w316) (v1:=w417) (x1:=(some (((-1):Int):Rat))) (hn1:=by exact List.length_map _) (hm1:=by first|omega|rfl|assumption|decide) (hm9:=by first|omega|rfl|assumption|decide) (hb1:=by rw [Po.vals_some];exact fun i=>Nat.le_trans (hg.2.2.1 i) dd) (hb2:=by exact Po.bd_mono (Po.bd_one (x:=((-1:Int):Rat)) (L:=1) dd) dd) (hs:=by rw [Po.vals_some];intro k lo n h;exact Nat.le_trans (Po.cv_one_hq (L:=1) (Po.bd_cl hg.2.2.1) dd k lo n h) dd)) (.c (j:=0) rfl (.c (j:=1) rfl .n)) ?_
   rintro ⟨p918,c919⟩ -
   dsimp only [aq,nq,cq]
   refine e_p (zb rfl)<|e_p (zb rfl)<|zf<|zK ?_
   have e20:(Po.mul (Po.vals ((Po.dr a b).map some)) (Po.vals [(some (((-1):Int):Rat))]):List Rat)=Po.mul (Po.dr a b) [((-1:Int):Rat)]:=by rw [Po.vals_some];rfl
   rw [e20]
   refine zV ((f - 1),b,(Po.mul (Po.dr a b) [((-1:Int):Rat)]),pb,cb,p918,c919,p9,c10,(A++([b]))) (show (b.length≤190∧(Po.mul (Po.dr a b) [((-1:Int):Rat)]).length≤(f - 1)∧(f - 1)≤190∧(A++([b])).length+(f - 1)≤200)∧(Po.cl b=b∧Po.cl (Po.mul (Po.dr a b) [((-1:Int):Rat)])=(Po.mul (Po.dr a b) [((-1:Int):Rat)]))∧Po.stok (f - 1) b (Po.mul (Po.dr a b) [((-1:Int):Rat)])∧(A++([b]))++Po.st (f - 1) b (Po.mul (Po.dr a b) [((-1:Int):Rat)])=(Po.sturm (Po.vals l1)) from by have h9:=Po.sdr_len (a:=a) hcb (show b.length≠0 by omega) hbf;exact ⟨⟨by omega,h9,by omega,by rw [List.length_append];show A.length+1+(f - 1)≤200;omega⟩,⟨hcb,Po.mul_cl _ _⟩,hg.2.2.2,by rw [List.append_assoc,List.singleton_append,←Po.st_yes om hbf];exact hst⟩) (by have h9:=Po.sdr_len (n:=b.length) (a:=a) hcb (show b.length≠0 by omega) (Nat.le_refl _);(show (Po.mul (Po.dr a b) [((-1:Int):Rat)]).length<b.length;omega)) ((.e rfl (by simp) (.of rfl)):SubM _ _) (ho:=((.c (i:=1) rfl .n):PickO _ _ _)) ((.of [10,0,11,12,13,14] rfl):SelR _ _ _)
  ·
   refine zaa<|zg<|zg<|zp<|zc<|ze<|za<|e_mv rfl<|e_p (zb rfl)<|zf<|zc<|zG<|zjb 0 rfl .z ?_
   have hv9:A=(Po.sturm (Po.vals l1)):=by rw [← hst,Po.st_nil om,List.append_nil]
   exact zx Tryz.results96 (pR,cR) trivial (zo rfl) (by rw [← hv9]) (ho:=oN) ((.e (j:=0) rfl (by rw [← hv9]) .n):SelR _ _ _)
end Go.Proofs.YtpdbimfnhglhpaaGreat.Sp
namespace Go.Proofs.YtpdbimfnhglhpaaGreat.Sp
open Go
set_option linter.unusedVariables false
set_option maxRecDepth 100000
set_option maxHeartbeats 8000000
theorem ztf {p1:Option Addr} {n1:Nat} {c1:Nat} {l1:List (Option Rat)} (hn1:l1.length=n1) (hm1:n1≤190) (hb:Po.bd 60000000000 (Po.vals l1)) (hne:(Po.cl (Po.vals l1)).length≠0):Con yc 97 [.slice p1 n1 c1] [] [slF rE p1 c1 l1] (Y:=Wd×Wd) (fun y=>True) (fun y=> .tuple #[.agg #[y.1.b,y.1.l,y.2.b,y.2.l],.int .i64 0]) (fun y=>[]) (fun y=>[qF true y.1 y.2 (Po.bound (Po.cl (Po.vals l1)))]):=by
 refine zk Tryz.func97 rfl rfl rfl (fun c=> ?_)
 show RunC _ _ _ _ _ [(0,.slice p1 n1 c1)] [] [slF rE p1 c1 l1]
 refine zP 0 rfl (fun hL0=> ?_)
 refine ze<|za<|zM rfl rfl (zA zr32 rfl) (fun b1=> ?_)
 refine e_p (zb rfl)<|zf<|zc<|ze<|za<|e_mv rfl<|zm rfl rfl (.c rfl .n) ce159 (zKa (p1:=p1) (n1:=n1) (c1:=c1) (l1:=l1) (hn1:=ass) (hm1:=by first|omega|rfl|assumption|decide)) (.c (j:=0) rfl .n) ?_
 rintro ⟨p92,c93⟩ -
 dsimp only [aq,nq,cq]
 refine e_p (zb rfl)<|zf<|zc<|ze<|ze ?_
 obtain ⟨P,hP⟩:∃z,z=(Po.cl (Po.vals l1)):=⟨_,rfl⟩
 have e4:(Po.cl (Po.vals l1):List Rat)=P:=by exact hP.symm
 rw [e4]
 refine zP 0 rfl (fun hLP=> ?_)
 have hPl:P.length≤n1:=by rw [hP,←hn1,←Po.vals_len l1];exact Po.cl_le_len _
 have hbP:Po.bd 60000000000 P:=by rw [hP];exact Po.bd_cl hb
 rw [← hP] at hne
 have hPn:P≠[]:=fun e=>hne (by rw [e];rfl)
 have hl0:Po.lead P≠0:=Po.lead_ne (by rw [hP];exact Po.cl_cl _) hPn
 have hlq:=Po.lead_hq hbP
 refine za<|e_mv rfl<|e_p (zv ya rfl)<|e_p (zna rfl rfl)<|zf<|zc<|zD rfl (fun h13=> ?_) (fun h13=> ?_)
 ·
  omega
 ·
  refine zw<|zc<|ze<|za<|zm rfl rfl (.n) ce84 (zKb) (.n) ?_
  rintro ⟨w35,w46⟩ -
  dsimp only [aq,nq,cq]
  refine zM rfl rfl (zA zr32 rfl) (fun b7=> ?_)
  refine zl 0 rfl rfl rfl rfl rfl sz32 rfl (.t4 .nil) .z<|zf<|zc<|ze<|ze<|za<|e_mv rfl<|e_mv rfl<|e_p (zv ya rfl)<|e_p (zha (z:=((((P).length:Nat):Int) - 1)) rfl rfl (w64 om)) ?_
  have e8:(((((P).length:Nat):Int) - 1):Int)=(((P.length - 1):Nat):Int):=by omega
  rw [e8]
  refine e_p (zub (hi:=(P.length - 1)) ya sz32 rfl (.s rfl) (.inr ⟨_,rfl⟩) om)<|zUb (zWb 1 rfl (P.length - 1) om) (fun _ _=> ?_)
  refine e_p (zv ya rfl)<|e_mv rfl<|zf<|zc<|zt<|zca (X:=Nat×Wd×Wd) (fun x:Nat×Wd×Wd=>x.1≤P.length - 1) (fun x=>[(22,.int .i64 ((x.1:Nat):Int)),(21,.int .i64 (((P.length - 1):Nat):Int)),(20,.slice p92 (P.length - 1) c93),(4,.pointer (some ⟨b7,0,none⟩)),(0,.slice p92 ((P).length) c93),(3,.int .i64 0),(2,.pointer (some ⟨b1,0,none⟩))]) (fun x=>[boxA b7 32 (cw [x.2.1,x.2.2]),boxA b1 32 (cw [wz,wz])]) (fun x=>[qF true x.2.1 x.2.2 (Po.bm P x.1),slF rQ p92 c93 ((P).take (P.length - 1)),qF true w35 w46 ((0:Int):Rat),slF rQ p92 c93 P,slF rE p1 c1 l1]) (fun x:Nat×Wd×Wd=>P.length - 1 - x.1) (0,w35,w46) (show 0≤P.length - 1 from by exact Nat.zero_le _) ((.e rfl cgs (.of rfl)):SubM _ _) (ho:=((.of [0,0] rfl):PickO _ _ _)) ((.e (j:=1) rfl rfl (.of [0,1,2,3] rfl)):SelR _ _ _) ?_
  rintro ⟨i,su,sv⟩ hI
  replace hI:i≤P.length - 1:=hI
  try dsimp only [cw]
  refine ze<|za<|e_p (zY rfl rfl)<|zf<|zc<|ze<|zD rfl (fun h23=> ?_) (fun h23=> ?_)
  ·
   refine zw<|zc<|ze<|zt<|ze<|za<|r_vl rfl rfl (zQ (x0:=(((P).take (P.length - 1)).getD i (0:Rat))) 1 i rfl ya sz32 rfl (by first|rfl|assumption|(simp;done)|omega|(rw [List.length_take];omega)) rfl rfl (gD (d:=(0:Rat)) (by first|omega|(rw [List.length_take];omega)))) ?_
   rintro ⟨b9,o10,w11,w12⟩ -
   dsimp only [aq,nq,cq]
   refine zqa open_rQ<|e_ru (zO (j:=0) 0 ty32 rfl rfl rfl (.t4 .nil))<|zM rfl rfl (zA zr32 rfl) (fun b13=> ?_)
   refine zl 0 rfl rfl rfl rfl rfl sz32 rfl (.t4 .nil) .z<|zf<|zc<|ze ?_
   have e14:((P).take (P.length - 1)).getD i (0:Rat)=P.getD i 0:=by exact Po.take_get om
   rw [e14]
   refine zW (OW:=[]) (O:=[boxA b13 32 (cw [w11,w12]),boxA b7 32 (cw [su,sv]),boxA b1 32 (cw [wz,wz])]) 12 mixed (.then (.block (.then (.then (.block (.then .ret)))))) kr<|e_u 0 rfl rfl (zd 0 ty32 rfl rfl (.t4 .nil))<|e_dm 1 rfl rfl rfl<|e_dm 2 rfl rfl rfl<|e_pv 3 rfl rfl (zv ya rfl)<|e_pv 4 rfl rfl (zha (z:=((((P).length:Nat):Int) - 1)) rfl rfl (w64 om)) ?_
   have e15:(((((P).length:Nat):Int) - 1):Int)=(((P.length - 1):Nat):Int):=by omega
   rw [e15]
   refine d_vl 5 rfl rfl kr kr rfl rfl (zQ (x0:=((P).getD (P.length - 1) (0:Rat))) 5 (P.length - 1) rfl ya sz32 rfl (by first|rfl|assumption|(simp;done)|omega|(rw [List.length_take];omega)) rfl rfl (gD (d:=(0:Rat)) om)) ?_
   rintro ⟨b16,o17,w18,w19⟩ -
   dsimp only [aq,nq,cq]
   refine zQa open_rQ<|e_u 6 rfl rfl (zO (j:=0) 0 ty32 rfl rfl rfl (.t4 .nil))<|zHe (m':=[(33,.agg (cw [w18,w19]).toArray),(27,.agg (cw [w11,w12]).toArray),(22,.int .i64 ((i:Nat):Int)),(21,.int .i64 (((P.length - 1):Nat):Int)),(20,.slice p92 (P.length - 1) c93),(4,.pointer (some ⟨b7,0,none⟩)),(0,.slice p92 ((P).length) c93),(3,.int .i64 0),(2,.pointer (some ⟨b1,0,none⟩))]) (R':=[qF true w18 w19 ((P).getD (P.length - 1) (0:Rat)),qF true w11 w12 (P.getD i 0),qF true su sv (Po.bm P i),slF rQ p92 c93 ((P).take (P.length - 1)),qF true w35 w46 ((0:Int):Rat),slF rQ p92 c93 P,slF rE p1 c1 l1]) (mR rfl) (List.Perm.refl _) (List.Perm.refl _) ((.of [1,3,4,5,6,7,8] rfl):SelR _ _ _)<|zpb (X:=Wd×Wd×Nat) (k':=0) (L':=(lb 14 16383)) (fun (u7_1,u7_2,u11_1)=>([(7,.pointer (some ⟨u11_1,0,none⟩)),(22,.int .i64 ((i:Nat):Int)),(21,.int .i64 (((P.length - 1):Nat):Int)),(20,.slice p92 (P.length - 1) c93),(4,.pointer (some ⟨b7,0,none⟩)),(0,.slice p92 ((P).length) c93),(3,.int .i64 0),(2,.pointer (some ⟨b1,0,none⟩))],[boxA u11_1 32 (cw [u7_1,u7_2])],[boxA b13 32 (cw [w11,w12]),boxA b7 32 (cw [su,sv]),boxA b1 32 (cw [wz,wz])],[qF true u7_1 u7_2 ((P.getD i 0) / ((P).getD (P.length - 1) (0:Rat))),qF true w18 w19 ((P).getD (P.length - 1) (0:Rat)),qF true w11 w12 (P.getD i 0),qF true su sv (Po.bm P i),slF rQ p92 c93 ((P).take (P.length - 1)),qF true w35 w46 ((0:Int):Rat),slF rQ p92 c93 P,slF rE p1 c1 l1])) ?_ (fun hD0=> ?_)
   ·
    rintro ⟨u7_1,u7_2,u11_1⟩
    dsimp only [cw]
    refine zU kr<|zc<|ze<|za<|e_ru (zd 0 ty32 rfl rfl (.t4 .nil))<|zm rfl rfl (.c rfl .n) ce178 (zCg (k1:=true) (u1:=u7_1) (v1:=u7_2) (q1:=(P.getD i 0) / ((P).getD (P.length - 1) (0:Rat))) (hl:=by have h1:=hbP i;have h2:=Big.hq_div (P.getD i 0) (y:=P.getD (P.length - 1) 0) hl0;have h3:ye (P.getD (P.length - 1) 0)≤60000000000:=hbP _;omega)) (.c (j:=0) rfl .n) ?_
    rintro ⟨w320,w421⟩ -
    dsimp only [aq,nq,cq]
    refine zl 0 rfl rfl rfl rfl rfl sz32 rfl (.t4 .nil) .z<|zf<|zc<|ze<|za<|e_ru (zd 0 ty32 rfl rfl (.t4 .nil))<|e_ru (zd 2 ty32 rfl rfl (.t4 .nil))<|zR rfl rfl (.c rfl (.c rfl .n)) ce179 (zMd (k1:=true) (u1:=w320) (v1:=w421) (q1:=(Big.qabs ((P.getD i 0) / ((P).getD (P.length - 1) (0:Rat))))) (k2:=true) (u2:=su) (v2:=sv) (q2:=(Po.bm P i)) (hl:=by have h1:=hbP i;have h2:=Big.hq_div (P.getD i 0) (y:=P.getD (P.length - 1) 0) hl0;have h3:ye (P.getD (P.length - 1) 0)≤60000000000:=hbP _;have h4:=Po.bm_hq hbP hl0 i;rw [Big.hq_qabs];omega)) (.c (j:=0) rfl (.c (j:=4) rfl .n))<|e_p (zra rfl rfl)<|zf<|zc<|zD rfl (fun h42=> ?_) (fun h42=> ?_)
    ·
     refine za<|e_ru (zd 0 ty32 rfl rfl (.t4 .nil))<|zl 2 rfl rfl rfl rfl rfl sz32 rfl (.t4 .nil) (.s (.s .z))<|zf<|zK<|zc<|za<|e_p (zJ (z:=(((i+1):Nat):Int)) rfl rfl (w64 om))<|e_mv rfl<|zf<|zV ((i+1),w320,w421) (show (i+1)≤P.length - 1 from by omega) (by show P.length - 1 - (i+1)<P.length - 1 - i;omega) (mR rfl) (ho:=((.of [2,2] rfl):PickO _ _ _)) ((.e (j:=0) rfl (by rw [← Po.bm_step];exact congrArg _ (if_pos (Po.lt_sgq.1 h42)).symm) (.of [5,6,7,8] rfl)):SelR _ _ _)
    ·
     refine zw<|zK<|zc<|za<|e_p (zJ (z:=(((i+1):Nat):Int)) rfl rfl (w64 om))<|e_mv rfl<|zf<|zV ((i+1),su,sv) (show (i+1)≤P.length - 1 from by omega) (by show P.length - 1 - (i+1)<P.length - 1 - i;omega) (mR rfl) (ho:=((.of [2,2] rfl):PickO _ _ _)) ((.e (j:=4) rfl (by rw [← Po.bm_step];exact congrArg _ (if_neg (fun k=>h42 (Po.lt_sgq.2 k))).symm) (.of [5,6,7,8] rfl)):SelR _ _ _)
   refine zpb (X:=Wd×Wd×Nat) (k':=2) (L':=(lb 14 4095)) (fun (u7_1,u7_2,u11_1)=>([(7,.pointer (some ⟨u11_1,0,none⟩)),(36,.int .i64 0),(35,.agg (cw [u7_1,u7_2]).toArray),(22,.int .i64 ((i:Nat):Int)),(21,.int .i64 (((P.length - 1):Nat):Int)),(20,.slice p92 (P.length - 1) c93),(4,.pointer (some ⟨b7,0,none⟩)),(0,.slice p92 ((P).length) c93),(3,.int .i64 0),(2,.pointer (some ⟨b1,0,none⟩))],[boxA u11_1 32 (cw [wz,wz])],[boxA b13 32 (cw [w11,w12]),boxA b7 32 (cw [su,sv]),boxA b1 32 (cw [wz,wz])],[qF true u7_1 u7_2 ((P.getD i 0) / ((P).getD (P.length - 1) (0:Rat))),qF true w18 w19 ((P).getD (P.length - 1) (0:Rat)),qF true w11 w12 (P.getD i 0),qF true su sv (Po.bm P i),slF rQ p92 c93 ((P).take (P.length - 1)),qF true w35 w46 ((0:Int):Rat),slF rQ p92 c93 P,slF rE p1 c1 l1])) ?_ (fun hD1=> ?_)
   ·
    rintro ⟨u7_1,u7_2,u11_1⟩
    dsimp only [cw]
    refine zIc 12 kr ?_
    ·
     refine zC kr rfl rfl rfl rfl rfl sz32 rfl (.t4 .nil)<|e_pv 13 rfl rfl (zb rfl) ?_
     exact zMa (hD0 (u7_1,u7_2,u11_1)) kr (mR rfl) .rfl .rfl ((.of [0,1,2,3,4,5,6,7] rfl):SelR _ _ _)
   refine zpb (X:=Wd×Wd) (k':=3) (L':=(lb 14 2047)) (fun (u7_1,u7_2)=>([(36,.int .i64 0),(35,.agg (cw [u7_1,u7_2]).toArray),(22,.int .i64 ((i:Nat):Int)),(21,.int .i64 (((P.length - 1):Nat):Int)),(20,.slice p92 (P.length - 1) c93),(4,.pointer (some ⟨b7,0,none⟩)),(0,.slice p92 ((P).length) c93),(3,.int .i64 0),(2,.pointer (some ⟨b1,0,none⟩))],[],[boxA b13 32 (cw [w11,w12]),boxA b7 32 (cw [su,sv]),boxA b1 32 (cw [wz,wz])],[qF true u7_1 u7_2 ((P.getD i 0) / ((P).getD (P.length - 1) (0:Rat))),qF true w18 w19 ((P).getD (P.length - 1) (0:Rat)),qF true w11 w12 (P.getD i 0),qF true su sv (Po.bm P i),slF rQ p92 c93 ((P).take (P.length - 1)),qF true w35 w46 ((0:Int):Rat),slF rQ p92 c93 P,slF rE p1 c1 l1])) ?_ (fun hD2=> ?_)
   ·
    rintro ⟨u7_1,u7_2⟩
    dsimp only [cw]
    refine zIc 11 kr ?_
    ·
     refine zuc rfl rfl rfl rfl (zA zr32 rfl) (fun u11_1 _=> ?_)
     exact zMa (hD1 (u7_1,u7_2,u11_1)) kr (mR rfl) .rfl .rfl ((.of [0,1,2,3,4,5,6,7] rfl):SelR _ _ _)
   refine zpb (X:=Nat) (k':=6) (L':=(lb 14 2175)) (fun u11_1=>([(7,.pointer (some ⟨u11_1,0,none⟩)),(33,.agg (cw [w18,w19]).toArray),(27,.agg (cw [w11,w12]).toArray),(22,.int .i64 ((i:Nat):Int)),(21,.int .i64 (((P.length - 1):Nat):Int)),(20,.slice p92 (P.length - 1) c93),(4,.pointer (some ⟨b7,0,none⟩)),(0,.slice p92 ((P).length) c93),(3,.int .i64 0),(2,.pointer (some ⟨b1,0,none⟩))],[boxA u11_1 32 (cw [wz,wz])],[boxA b13 32 (cw [w11,w12]),boxA b7 32 (cw [su,sv]),boxA b1 32 (cw [wz,wz])],[qF true w18 w19 ((P).getD (P.length - 1) (0:Rat)),qF true w11 w12 (P.getD i 0),qF true su sv (Po.bm P i),slF rQ p92 c93 ((P).take (P.length - 1)),qF true w35 w46 ((0:Int):Rat),slF rQ p92 c93 P,slF rE p1 c1 l1])) ?_ (fun hD3=> ?_)
   ·
    rintro u11_1
    dsimp only [cw]
    refine zIc 7 kr ?_
    ·
     refine zB rfl rfl rfl rfl (.c rfl (.c rfl .n)) ce139 (zHa (k1:=true) (u1:=w11) (v1:=w12) (q1:=(P.getD i 0)) (k2:=true) (u2:=w18) (v2:=w19) (q2:=((P).getD (P.length - 1) (0:Rat))) (hl:=by have h1:=hbP i;have h2:ye (P.getD (P.length - 1) 0)≤60000000000:=hbP _;omega) (hy:=by exact hl0)) (.c (j:=1) rfl (.c (j:=0) rfl .n)) ?_
     rintro ⟨u7_1,u7_2⟩ -
     dsimp only [aq,nq,cq]
     refine e_dm 8 rfl rfl rfl<|e_pv 9 rfl rfl (zn rfl rfl)<|e_pv 10 rfl rfl (zn rfl rfl) ?_
     exact zMa (hD1 (u7_1,u7_2,u11_1)) kr (mR rfl) .rfl .rfl ((.of [0,1,2,3,4,5,6,7] rfl):SelR _ _ _)
   refine zmg 7 11 kr ?_ ?_
   ·
    refine zB rfl rfl rfl rfl (.c rfl (.c rfl .n)) ce139 (zHa (k1:=true) (u1:=w11) (v1:=w12) (q1:=(P.getD i 0)) (k2:=true) (u2:=w18) (v2:=w19) (q2:=((P).getD (P.length - 1) (0:Rat))) (hl:=by have h1:=hbP i;have h2:ye (P.getD (P.length - 1) 0)≤60000000000:=hbP _;omega) (hy:=by exact hl0)) (.c (j:=1) rfl (.c (j:=0) rfl .n)) ?_
    rintro ⟨u7_1,u7_2⟩ -
    dsimp only [aq,nq,cq]
    refine e_dm 8 rfl rfl rfl<|e_pv 9 rfl rfl (zn rfl rfl)<|e_pv 10 rfl rfl (zn rfl rfl) ?_
    exact zMa (hD2 (u7_1,u7_2)) kr (mR rfl) .rfl .rfl ((.of [0,1,2,3,4,5,6,7] rfl):SelR _ _ _)
   ·
    refine zuc rfl rfl rfl rfl (zA zr32 rfl) (fun u11_1 _=> ?_)
    exact zMa (hD3 u11_1) kr (mR rfl) .rfl .rfl ((.of [0,1,2,3,4,5,6] rfl):SelR _ _ _)
  ·
   refine zaa<|zg<|zg<|zp<|zc<|ze<|zpa (.c (i:=1) rfl (.c (i:=0) rfl .n))<|zW (OW:=[boxA b1 32 (cw [wz,wz])]) (O:=[boxA b7 32 (cw [su,sv])]) 3 mixed (.then .ret) kr<|e_uw 0 rfl rfl (zd 1 ty32 rfl rfl (.t4 .nil))<|e_one 1 (zB rfl rfl rfl rfl (.c rfl .n) ce52 (zJa (z:=1) (hz:=by first|omega|rfl|assumption|decide)) (.n) ?_)
   rintro ⟨w322,w423⟩ -
   dsimp only [aq,nq,cq]
   refine e_one 2 (zB rfl rfl rfl rfl (.c rfl (.c rfl .n)) ce57 (zrb (k1:=true) (u1:=su) (v1:=sv) (q1:=(Po.bm P i)) (k2:=true) (u2:=w322) (v2:=w423) (q2:=((1:Int):Rat)) (hl:=by have h4:=Po.bm_hq hbP hl0 i;have h5:ye ((1:Int):Rat)=1:=dd;omega)) (.c (j:=1) rfl (.c (j:=0) rfl .n)) ?_)
   rintro ⟨w324,w425⟩ -
   dsimp only [aq,nq,cq]
   refine e_one 3 (zC kr rfl rfl rfl rfl rfl sz32 rfl (.t4 .nil) ?_)
   refine e_pv 4 rfl rfl (zb rfl)<|zU kr<|zc<|zG ?_
   have hi9:i=P.length - 1:=by omega
   exact zBa Tryz.results97 (w324,w425) trivial (zq 0 ty32 rfl rfl (.t4 .nil)) (zo rfl) rfl (ho:=oN) ((.e (j:=0) rfl (by rw [hi9];rfl) .n):SelR _ _ _)
theorem zye {u1:Wd} {v1:Wd} {x1:Rat} {u2:Wd} {v2:Wd} {x2:Rat} (hx1:ye x1≤100000000000) (hx2:ye x2≤100000000000):Con yc 100 [.agg #[u1.b,u1.l,v1.b,v1.l],.agg #[u2.b,u2.l,v2.b,v2.l]] [] [qF true u1 v1 x1,qF true u2 v2 x2] (Y:=Wd×Wd) (fun y=>True) (fun y=> .agg #[y.1.b,y.1.l,y.2.b,y.2.l]) (fun y=>[]) (fun y=>[qF true y.1 y.2 (Po.mid x1 x2)]):=by
 refine zk Tryz.func100 rfl rfl rfl (fun c=> ?_)
 show RunC _ _ _ _ _ [(0,.agg #[u1.b,u1.l,v1.b,v1.l]),(1,.agg #[u2.b,u2.l,v2.b,v2.l])] [] [qF true u1 v1 x1,qF true u2 v2 x2]
 refine ze<|za<|zM rfl rfl (zT rfl rfl) (fun b1=> ?_)
 refine zM rfl rfl (zT rfl rfl) (fun b2=> ?_)
 refine zM rfl rfl (zA zr32 rfl) (fun b3=> ?_)
 refine zf<|zc<|ze<|za<|zm rfl rfl (.c rfl (.c rfl .n)) ce47 (zSf (z1:=1) (z2:=2) (hz1:=by first|omega|rfl|assumption|decide) (hz2:=by first|omega|rfl|assumption|decide) (hy:=by first|omega|rfl|assumption|decide)) (.n) ?_
 rintro ⟨w34,w45⟩ -
 dsimp only [aq,nq,cq]
 refine e_mv rfl<|e_p (zn rfl rfl)<|e_p (zn rfl rfl)<|zM rfl rfl (zA zr32 rfl) (fun b6=> ?_)
 refine zl 0 rfl rfl rfl rfl rfl sz32 rfl (.t4 .nil) .z<|e_p (zb rfl)<|zf<|zc<|ze<|zpa (.c (i:=1) rfl (.c (i:=0) rfl (.c (i:=0) rfl (.c (i:=0) rfl .n))))<|zW (OW:=[boxA b3 32 (cw [wz,wz])]) (O:=[boxA b6 32 (cw [w34,w45]),boxA b2 32 (cw [u2,v2]),boxA b1 32 (cw [u1,v1])]) 5 mixed (.then .ret) kr<|e_uw 0 rfl rfl (zd 3 ty32 rfl rfl (.t4 .nil))<|e_uw 1 rfl rfl (zd 2 ty32 rfl rfl (.t4 .nil))<|e_uw 3 rfl rfl (zd 1 ty32 rfl rfl (.t4 .nil))<|e_one 2 (zB rfl rfl rfl rfl (.c rfl (.c rfl .n)) ce57 (zrb (k1:=true) (u1:=u1) (v1:=v1) (q1:=x1) (k2:=true) (u2:=u2) (v2:=v2) (q2:=x2) (hl:=by first|omega|rfl|assumption|decide)) (.c (j:=1) rfl (.c (j:=2) rfl .n)) ?_)
 rintro ⟨w37,w48⟩ -
 dsimp only [aq,nq,cq]
 refine e_one 4 (zB rfl rfl rfl rfl (.c rfl (.c rfl .n)) ce56 (zsb (k1:=true) (u1:=w37) (v1:=w48) (q1:=x1+x2) (k2:=true) (u2:=w34) (v2:=w45) (q2:=Rat.divInt 1 2) (hl:=by have h1:=Big.hq_add x1 x2;have h5:ye (Rat.divInt 1 2)=1:=(by decide +kernel);omega)) (.c (j:=0) rfl (.c (j:=1) rfl .n)) ?_)
 rintro ⟨w39,w410⟩ -
 dsimp only [aq,nq,cq]
 refine e_one 5 (zC kr rfl rfl rfl rfl rfl sz32 rfl (.t4 .nil) ?_)
 refine zU kr<|zc<|zG ?_
 exact zx Tryz.results100 (w39,w410) trivial (zq 0 ty32 rfl rfl (.t4 .nil)) rfl (ho:=oN) (s0 rfl)
end Go.Proofs.YtpdbimfnhglhpaaGreat.Sp
namespace Go.Proofs.YtpdbimfnhglhpaaGreat.Sp
open Go
set_option linter.unusedVariables false
set_option maxRecDepth 100000
set_option maxHeartbeats 8000000
theorem zNg {pL:Option Addr} {nL:Nat} {cL:Nat} {L:List (List Rat)} {bl:Nat} {bo:Nat} {bd:Nat} {n:Nat} {A:List (Rat×Rat)} {u1:Wd} {v1:Wd} {x1:Rat} {u2:Wd} {v2:Wd} {x2:Rat} (hnL:L.length=nL) (hmL:nL≤400) (hA:A.length+(Po.iso L (n+1) x1 x2).length≤1000000) (hk:Po.isk L (n+1) x1 x2) (ih:∀(A:List (Rat×Rat)) (u1 v1:Wd) (x1:Rat) (u2 v2:Wd) (x2:Rat) (hA:A.length+(Po.iso L n x1 x2).length≤1000000) (hk:Po.isk L n x1 x2),Con yc 98 [.agg #[u1.b,u1.l,v1.b,v1.l],.agg #[u2.b,u2.l,v2.b,v2.l],.pointer (some ⟨bl,0,none⟩),.pointer (some ⟨bo,0,none⟩),.pointer (some ⟨bd,0,none⟩)] [orA bo 74 96 rR A] [atF bl 0 [.slice pL nL cL],atF bd 0 [.func (.func 98) #[] #[.pointer (some ⟨bl,0,none⟩),.pointer (some ⟨bo,0,none⟩),.pointer (some ⟨bd,0,none⟩)]],slF (rS rQ) pL cL L,qF true u1 v1 x1,qF true u2 v2 x2] (Y:=Unit) (fun y=>True) (fun y=> .tuple #[]) (fun y=>[orA bo 74 96 rR (A++(Po.iso L n x1 x2))]) (fun y=>[])):Con yc 98 [.agg #[u1.b,u1.l,v1.b,v1.l],.agg #[u2.b,u2.l,v2.b,v2.l],.pointer (some ⟨bl,0,none⟩),.pointer (some ⟨bo,0,none⟩),.pointer (some ⟨bd,0,none⟩)] [orA bo 74 96 rR A] [atF bl 0 [.slice pL nL cL],atF bd 0 [.func (.func 98) #[] #[.pointer (some ⟨bl,0,none⟩),.pointer (some ⟨bo,0,none⟩),.pointer (some ⟨bd,0,none⟩)]],slF (rS rQ) pL cL L,qF true u1 v1 x1,qF true u2 v2 x2] (Y:=Unit) (fun y=>True) (fun y=> .tuple #[]) (fun y=>[orA bo 74 96 rR (A++(Po.iso L (n+1) x1 x2))]) (fun y=>[]):=by
 refine zk Tryz.func98 rfl rfl rfl (fun c=> ?_)
 show RunC _ _ _ _ _ [(0,.agg #[u1.b,u1.l,v1.b,v1.l]),(1,.agg #[u2.b,u2.l,v2.b,v2.l]),(2,.pointer (some ⟨bl,0,none⟩)),(3,.pointer (some ⟨bo,0,none⟩)),(4,.pointer (some ⟨bd,0,none⟩))] [orA bo 74 96 rR A] [atF bl 0 [.slice pL nL cL],atF bd 0 [.func (.func 98) #[] #[.pointer (some ⟨bl,0,none⟩),.pointer (some ⟨bo,0,none⟩),.pointer (some ⟨bd,0,none⟩)]],slF (rS rQ) pL cL L,qF true u1 v1 x1,qF true u2 v2 x2]
 refine zP 2 rfl (fun hL2=> ?_)
 obtain ⟨⟨hx1,hx2,hv1,hv2⟩,hr⟩:=hk
 refine ze<|za<|zM rfl rfl (zT rfl rfl) (fun b1=> ?_)
 refine zM rfl rfl (zT rfl rfl) (fun b2=> ?_)
 refine zf<|zc<|ze<|za<|e_ru (zh (j:=0) 0 ty134 rfl rfl rfl rfl)<|e_ru (zd 1 ty32 rfl rfl (.t4 .nil))<|e_ru (zd 0 ty32 rfl rfl (.t4 .nil))<|zR rfl rfl (.c rfl (.c rfl (.c rfl .n))) ce99 (zMg (pL:=pL) (nL:=nL) (cL:=cL) (L:=L) (u1:=u1) (v1:=v1) (x1:=x1) (u2:=u2) (v2:=v2) (x2:=x2) (hnL:=ass) (hmL:=ass) (hx1:=by first|omega|rfl|assumption|decide) (hx2:=by first|omega|rfl|assumption|decide) (hv1:=by first|omega|rfl|assumption|decide) (hv2:=by first|omega|rfl|assumption|decide)) (.c (j:=2) rfl (.c (j:=3) rfl (.c (j:=4) rfl .n)))<|zf<|zc<|zt<|ze<|za<|e_p (zna rfl rfl)<|e_p (zb rfl)<|zf<|zc<|zD rfl (fun h23=> ?_) (fun h23=> ?_)
 ·
  have hmo:=Po.iso_none (n:=n+1) h23
  refine zw<|zK<|zkg<|zib (fun w mm=>mm.orCast (l2:=(A++Po.iso L (n+1) x1 x2)) 2 rfl (by rw [hmo,List.append_nil])) ?_
  dsimp only [List.eraseIdx]
  exact zze Tryz.results98 () trivial rfl (ho:=(o0 rfl)) sN
 ·
  refine ze<|za<|e_p (zna rfl rfl)<|e_p (zb rfl)<|zf<|zc<|zD rfl (fun h25=> ?_) (fun h25=> ?_)
  ·
   have hmo:=Po.iso_one (n:=n) h25
   have hml:(Po.iso L (n+1) x1 x2).length=1:=by rw [hmo];rfl
   refine zzf (fun w mm=>mm.orOpen 2 rfl) ?_
   rintro ⟨p3,c4⟩ -
   dsimp only [List.eraseIdx]
   refine za<|e_ru (zi 0 ty74 rfl rfl rfl)<|e_ru (zd 3 ty32 rfl rfl (.t4 .nil))<|e_ru (zd 2 ty32 rfl rfl (.t4 .nil))<|e_p (zZ zr96 rfl Tryz.underlying96 (.c sz32 (.c sz32 .n)) (.c rfl (.c rfl .n)) (.c rfl rfl rfl (.t4 .nil) (.c rfl rfl rfl (.s4 (.t4 .nil)) .n)))<|zma rfl rfl (zka (r:=rR) (k:=1) yf inf96 rfl dd dd dd (.c (x:=(x1,x2)) (cs:=[u1.b,u1.l,v1.b,v1.l,u2.b,u2.l,v2.b,v2.l]) (u1,v1,u2,v2) rfl rfl rfl (fun g hr=>⟨Holds.get 3 rfl hr,Holds.get 4 rfl hr⟩) .n)) (fun b6 _=> ?_)
   refine zea 0 rfl .z<|zya 2 rfl rfl rfl (zsa 0 rfl yf inf96 dd rfl rfl (by first|rfl|assumption|(simp;done)|omega) rfl (by first|rfl|assumption|(simp;done)|omega) om om) (fun _=>(.s (.s .z))) ?_
   rintro ⟨p7,c8⟩ -
   dsimp only [aq,nq,cq]
   refine zl 1 rfl rfl rfl rfl rfl sz74 rfl (.take .nil) (.s .z)<|zf<|zK<|zkg<|zib (fun w mm=>mm.orClose 1 1 rfl rfl (by simp)) ?_
   dsimp only [List.eraseIdx]
   refine zib (fun w mm=>mm.orCast (l2:=(A++Po.iso L (n+1) x1 x2)) 0 rfl (by rw [hmo])) ?_
   dsimp only [List.eraseIdx]
   exact zze Tryz.results98 () trivial rfl (ho:=(o0 rfl)) sN
  ·
   obtain ⟨hr1,hr2⟩:=hr h23 h25
   have hmo:=Po.iso_more (n:=n) h23 h25
   have hml:(Po.iso L (n+1) x1 x2).length=(Po.iso L n x1 (Po.mid x1 x2)).length+(Po.iso L n (Po.mid x1 x2) x2).length:=by rw [hmo,List.length_append]
   refine ze<|za<|e_ru (zd 1 ty32 rfl rfl (.t4 .nil))<|e_ru (zd 0 ty32 rfl rfl (.t4 .nil))<|zm rfl rfl (.c rfl (.c rfl .n)) ce100 (zye (u1:=u1) (v1:=v1) (x1:=x1) (u2:=u2) (v2:=v2) (x2:=x2) (hx1:=by first|omega|rfl|assumption|decide) (hx2:=by first|omega|rfl|assumption|decide)) (.c (j:=3) rfl (.c (j:=4) rfl .n)) ?_
   rintro ⟨w39,w410⟩ -
   dsimp only [aq,nq,cq]
   refine zM rfl rfl (zA zr32 rfl) (fun b11=> ?_)
   refine zl 0 rfl rfl rfl rfl rfl sz32 rfl (.t4 .nil) .z<|zf<|zc<|ze<|za<|e_ru (zh (j:=0) 2 ty137 rfl rfl rfl rfl)<|e_ru (zd 2 ty32 rfl rfl (.t4 .nil))<|e_ru (zd 0 ty32 rfl rfl (.t4 .nil))<|l_perm (zfa (i:=3) rfl)<|zZd (A:=[orA bo 74 96 rR A]) (F:=[boxA b11 32 [w39.b,w39.l,w410.b,w410.l],boxA b2 32 [u2.b,u2.l,v2.b,v2.l],boxA b1 32 [u1.b,u1.l,v1.b,v1.l]]) (first:=[]) (cap:=[.pointer (some ⟨bl,0,none⟩),.pointer (some ⟨bo,0,none⟩),.pointer (some ⟨bd,0,none⟩)]) rfl rfl rfl (.c rfl (.c rfl .n)) ce98 (ih (A:=A) (u1:=u1) (v1:=v1) (x1:=x1) (u2:=w39) (v2:=w410) (x2:=(Po.mid x1 x2)) (hA:=by first|omega|rfl|assumption|decide) (hk:=by first|omega|rfl|assumption|decide)) (.c (j:=1) rfl (.c (j:=2) rfl (.c (j:=3) rfl (.c (j:=4) rfl (.c (j:=0) rfl .n))))) ?_
   rintro ⟨⟩ -
   dsimp only [aq,nq,cq]
   refine zf<|zc<|za<|e_ru (zh (j:=0) 2 ty137 rfl rfl rfl rfl)<|e_ru (zd 1 ty32 rfl rfl (.t4 .nil))<|e_ru (zd 2 ty32 rfl rfl (.t4 .nil))<|zZd (A:=[orA bo 74 96 rR (A++(Po.iso L n x1 (Po.mid x1 x2)))]) (F:=[boxA b11 32 [w39.b,w39.l,w410.b,w410.l],boxA b2 32 [u2.b,u2.l,v2.b,v2.l],boxA b1 32 [u1.b,u1.l,v1.b,v1.l]]) (first:=[]) (cap:=[.pointer (some ⟨bl,0,none⟩),.pointer (some ⟨bo,0,none⟩),.pointer (some ⟨bd,0,none⟩)]) rfl rfl rfl (.c rfl (.c rfl .n)) ce98 (ih (A:=(A++(Po.iso L n x1 (Po.mid x1 x2)))) (u1:=w39) (v1:=w410) (x1:=(Po.mid x1 x2)) (u2:=u2) (v2:=v2) (x2:=x2) (hA:=by rw [List.length_append];omega) (hk:=by first|omega|rfl|assumption|decide)) (.c (j:=1) rfl (.c (j:=2) rfl (.c (j:=3) rfl (.c (j:=0) rfl (.c (j:=5) rfl .n))))) ?_
   rintro ⟨⟩ -
   dsimp only [aq,nq,cq]
   refine zf<|zK<|zkg<|zib (fun w mm=>mm.orCast (l2:=(A++Po.iso L (n+1) x1 x2)) 0 rfl (by rw [hmo,List.append_assoc])) ?_
   dsimp only [List.eraseIdx]
   exact zze Tryz.results98 () trivial rfl (ho:=(o0 rfl)) sN
theorem zgh {pL:Option Addr} {nL:Nat} {cL:Nat} {L:List (List Rat)} {bl:Nat} {bo:Nat} {bd:Nat} {n:Nat} {A:List (Rat×Rat)} {u1:Wd} {v1:Wd} {x1:Rat} {u2:Wd} {v2:Wd} {x2:Rat} (hnL:L.length=nL) (hmL:nL≤400) (hA:A.length+(Po.iso L n x1 x2).length≤1000000) (hk:Po.isk L n x1 x2):Con yc 98 [.agg #[u1.b,u1.l,v1.b,v1.l],.agg #[u2.b,u2.l,v2.b,v2.l],.pointer (some ⟨bl,0,none⟩),.pointer (some ⟨bo,0,none⟩),.pointer (some ⟨bd,0,none⟩)] [orA bo 74 96 (rR) (A)] [atF bl (0) [.slice (pL) (nL) (cL)],atF bd (0) [.func (.func 98) #[] #[.pointer (some ⟨bl,0,none⟩),.pointer (some ⟨bo,0,none⟩),.pointer (some ⟨bd,0,none⟩)]],slF (rS (rQ)) (pL) (cL) (L),qF true u1 v1 (x1),qF true u2 v2 (x2)] (Y:=Unit) (fun y=>True) (fun y=> .tuple #[]) (fun y=>[orA bo 74 96 (rR) ((A++(Po.iso L n x1 x2)))]) (fun y=>[]):=by
  induction n generalizing A u1 v1 x1 u2 v2 x2 with
  |zero=>exact hk.elim
  |succ n ih=>exact zNg hnL hmL hA hk (fun A u1 v1 x1 u2 v2 x2 hA hk=>by apply ih <;> assumption)
theorem zTd {p1:Option Addr} {n1:Nat} {c1:Nat} {l1:List (Option Rat)} {n:Nat} (hn1:l1.length=n1) (hm1:n1≤190) (hok:Po.sok (Po.vals l1)) (hb:Po.bd 40000000000 (Po.vals l1)) (hne:(Po.sturm (Po.vals l1)).length≠0) (hne2:(Po.cl (Po.vals l1)).length≠0) (hlS:(Po.sturm (Po.vals l1)).length≤400) (hA:(Po.iso (Po.sturm (Po.vals l1)) n (-(Po.bound (Po.cl (Po.vals l1)))) (Po.bound (Po.cl (Po.vals l1)))).length≤1000000) (hk:Po.isk (Po.sturm (Po.vals l1)) n (-(Po.bound (Po.cl (Po.vals l1)))) (Po.bound (Po.cl (Po.vals l1)))):Con yc 32 [.slice p1 n1 c1] [] [slF rE p1 c1 l1] (Y:=(Option Addr)×Nat) (fun y=>True) (fun y=> .tuple #[.slice (y.1) ((Po.iso (Po.sturm (Po.vals l1)) n (-(Po.bound (Po.cl (Po.vals l1)))) (Po.bound (Po.cl (Po.vals l1)))).length) (y.2),.int .i64 0]) (fun y=>[]) (fun y=>[slF rR (y.1) (y.2) (Po.iso (Po.sturm (Po.vals l1)) n (-(Po.bound (Po.cl (Po.vals l1)))) (Po.bound (Po.cl (Po.vals l1))))]):=by
 refine zk Tryz.func32 rfl rfl rfl (fun c=> ?_)
 show RunC _ _ _ _ _ [(0,.slice p1 n1 c1)] [] [slF rE p1 c1 l1]
 refine zP 0 rfl (fun hL0=> ?_)
 refine ze<|za<|e_p (zb rfl)<|e_p (zb rfl)<|zf<|zc<|ze<|za<|e_mv rfl<|zm rfl rfl (.c rfl .n) ce96 (zsf (p1:=p1) (n1:=n1) (c1:=c1) (l1:=l1) (hn1:=ass) (hm1:=ass) (hok:=ass)) (.c (j:=0) rfl .n) ?_
 rintro ⟨p91,c92⟩ -
 dsimp only [aq,nq,cq]
 refine zM rfl rfl (zA zr134 rfl) (fun b3=> ?_)
 refine zl 0 rfl rfl rfl rfl rfl sz134 rfl (.take .nil) .z<|zf<|zc<|ze<|ze<|za<|e_ru (zi 0 ty134 rfl rfl rfl)<|e_p (zv yb rfl)<|e_p (zna rfl rfl)<|zf<|zc<|zD rfl (fun h13=> ?_) (fun h13=> ?_)
 ·
  omega
 ·
  refine zw<|zc<|ze<|za<|e_mv rfl<|zm rfl rfl (.c rfl .n) ce97 (ztf (p1:=p1) (n1:=n1) (c1:=c1) (l1:=l1) (hn1:=ass) (hm1:=ass) (hb:=by exact Po.bd_mono hb dd) (hne:=ass)) (.c (j:=1) rfl .n) ?_
  rintro ⟨w34,w45⟩ -
  dsimp only [aq,nq,cq]
  refine e_mv rfl<|e_p (zn rfl rfl)<|e_p (zn rfl rfl)<|zM rfl rfl (zA zr32 rfl) (fun b6=> ?_)
  refine zl 0 rfl rfl rfl rfl rfl sz32 rfl (.t4 .nil) .z<|e_p (zb rfl)<|zf<|zc<|ze<|za<|zM rfl rfl (zA zr74 rfl) (fun b7=> ?_)
  refine zf<|zc<|ze<|za<|zM rfl rfl (zA zr137 rfl) (fun b8=> ?_)
  refine zf<|zc<|ze<|za<|e_p (zEa .n (.c rfl (.c rfl (.c rfl .n))))<|zl 0 rfl rfl rfl rfl rfl sz137 rfl (.take .nil) .z<|zf<|zc<|ze<|zDa 3 rfl (.s (.s (.s .z)))<|zDa 0 rfl .z<|zXb 96 rR<|zjd (fun w mm=>mm.orClose 2 0 rfl rfl (by rfl)) ?_
  dsimp only [List.eraseIdx]
  refine zW (OW:=[orA b7 74 96 rR ([])]) (O:=[emA,boxA b6 32 (cw [w34,w45]),emA]) 4 mixed (.then .ret) kr<|e_u 0 rfl rfl (zh (j:=0) 0 ty137 rfl rfl rfl rfl)<|e_uw 1 rfl rfl (zd 2 ty32 rfl rfl (.t4 .nil))<|e_uw 3 rfl rfl (zd 2 ty32 rfl rfl (.t4 .nil))<|e_one 2 (zB rfl rfl rfl rfl (.c rfl .n) ce54 (zpd (k1:=true) (u1:=w34) (v1:=w45) (q1:=(Po.bound (Po.cl (Po.vals l1)))) (hl:=by exact Nat.le_trans (Po.bound_hq (Po.bd_cl hb) (Po.lead_ne (Po.cl_cl _) (fun e=>hne2 (by rw [e];rfl)))) dd)) (.c (j:=2) rfl .n) ?_)
  rintro ⟨w39,w410⟩ -
  dsimp only [aq,nq,cq]
  refine e_one 4 (zyf (first:=[]) (cap:=[.pointer (some ⟨b3,0,none⟩),.pointer (some ⟨b7,0,none⟩),.pointer (some ⟨b8,0,none⟩)]) (A':=fun y=>orA b7 74 96 rR (([])++(Po.iso (Po.sturm (Po.vals l1)) n (- (Po.bound (Po.cl (Po.vals l1)))) (Po.bound (Po.cl (Po.vals l1)))))) kr rfl rfl rfl rfl (.c rfl (.c rfl .n)) ce98 (zgh (pL:=p91) (nL:=(Po.sturm (Po.vals l1)).length) (cL:=c92) (L:=(Po.sturm (Po.vals l1))) (bl:=b3) (bo:=b7) (bd:=b8) (n:=n) (A:=[]) (u1:=w39) (v1:=w410) (x1:= - (Po.bound (Po.cl (Po.vals l1)))) (u2:=w34) (v2:=w45) (x2:=(Po.bound (Po.cl (Po.vals l1)))) (hnL:=by rfl) (hmL:=ass) (hA:=by show 0+_≤_;rw [Nat.zero_add];exact hA) (hk:=ass)) (.c (j:=2) rfl (.c (j:=1) rfl (.c (j:=4) rfl (.c (j:=0) rfl (.c (j:=3) rfl .n))))) ?_)
  rintro ⟨⟩ -
  dsimp only [aq,nq,cq]
  refine zU kr<|zc<|ze<|zzf (fun w mm=>mm.orOpen 0 rfl) ?_
  rintro ⟨p11,c12⟩ -
  dsimp only [List.eraseIdx]
  refine za<|e_ru (zi 0 ty74 rfl rfl rfl)<|e_p (zb rfl)<|e_p (zb rfl)<|zf<|zc<|zG<|zjb 1 rfl (.s .z) ?_
  exact zBa Tryz.results32 (p11,c12) trivial (zo rfl) (zo rfl) rfl (ho:=oN) (s0 rfl)
end Go.Proofs.YtpdbimfnhglhpaaGreat.Sp
namespace Go.Proofs.YtpdbimfnhglhpaaGreat.Dt
open Go.Proofs.YtpdbimfnhglhpaaGreat.Mx Go.Proofs.YtpdbimfnhglhpaaGreat.Big Go.Proofs.YtpdbimfnhglhpaaGreat.Td Go.Proofs.YtpdbimfnhglhpaaGreat.Po
set_option linter.unusedVariables false
def vl (M:List (List (Option Rat))):List (List Rat):=M.map fun l=>l.map fun x=>x.getD 0
theorem zhh {M:List (List (Option Rat))} {n:Nat} (hn:M.length=n) (h:∀i,i<n→(M.getD i []).length=(M.getD 0 []).length∧∀j,j<(M.getD i []).length→((M.getD i []).getD j none).isSome=true):M=(vl M).map fun l=>l.map Option.some:=
  Sp.rows_some fun i hi=>(h i (by omega)).2
theorem vl_len {M:List (List (Option Rat))} {n:Nat} (hn:M.length=n):(vl M).length=n:=by unfold vl;rw [List.length_map];exact hn
theorem vl_row {M:List (List (Option Rat))} {n:Nat} (h:∀i,i<n→(M.getD i []).length=(M.getD 0 []).length∧∀j,j<(M.getD i []).length→((M.getD i []).getD j none).isSome=true) (h0:n=(M.getD 0 []).length):∀i,i<n→((vl M).getD i []).length=n:=fun i hi=>by
  unfold vl;rw [Sp.rows_len,(h i hi).1];exact h0.symm
theorem vl_bd {M:List (List (Option Rat))} {n:Nat} (hn:M.length=n) (h:∀i,i<n→(((M.getD i []).length:Nat):Int)≤4∧∀j,j<(M.getD i []).length→hq (((M.getD i []).getD j none).getD 0)≤1):Mx.bd (vl M) 1:=fun i c=>by
  unfold vl e
  rw [Sp.rows_get]
  by_cases hi:i<n
  · by_cases hc : c < (M.getD i []).length
    · exact (h i hi).2 c hc
    · have : (M.getD i []).getD c none = none := by rw [List.getD_eq_getElem?_getD, List.getElem?_eq_none (by omega)]; rfl
      rw [this];show hq 0≤1;rw [hq_zero];exact Nat.le_refl _
  · have : M.getD i [] = [] := by rw [List.getD_eq_getElem?_getD, List.getElem?_eq_none (by omega)]; rfl
    rw [this];show hq 0≤1;rw [hq_zero];exact Nat.le_refl _
theorem int_1:(1:Rat)=((1:Int):Rat):=by decide +kernel
theorem iso_hd {n:Nat} {z:Nat} (h:n%2=1→z≠0) (h2:¬n%2=0):0<z:=by have:=h (by omega);omega
end Go.Proofs.YtpdbimfnhglhpaaGreat.Dt
namespace Go.Proofs.YtpdbimfnhglhpaaGreat.Sp
open Go
set_option linter.unusedVariables false
set_option maxRecDepth 100000
set_option maxHeartbeats 8000000
theorem zud {pM:Option Addr} {nM:Nat} {cM:Nat} {M:List (List (Option Rat))} (hnM:M.length=nM):Con yc 4 [.slice pM nM cM] [] [slF (rS rE) pM cM M] (Y:=Unit) (fun y=>True) (fun y=> .bool true) (fun y=>[]) (fun y=>[]):=by
 refine zk Tryz.func4 rfl rfl rfl (fun c=> ?_)
 show RunC _ _ _ _ _ [(0,.slice pM nM cM)] [] [slF (rS rE) pM cM M]
 refine zP 0 rfl (fun hL0=> ?_)
 refine ze<|za<|e_p (zb rfl)<|zf<|zc<|ze<|ze<|za<|zR rfl rfl (.n) ce18 (zrf) (.n)<|e_p (zUa rfl)<|zf<|zc<|zoa rfl rfl<|zw<|zc<|ze<|zab (X:=Bool) (fun x=>(x=false→(((1≤nM∧nM≤64)∧1≤(M.getD 0 []).length∧(M.getD 0 []).length≤64)∧∀i,i<nM→(M.getD i []).length=(M.getD 0 []).length∧∀j,j<(M.getD i []).length→((M.getD i []).getD j none).isSome=true)∧nM=(M.getD 0 []).length∧nM≤4∧∀i,i<nM→(((M.getD i []).length:Nat):Int)≤4∧∀j,j<(M.getD i []).length→ye (((M.getD i []).getD j none).getD 0)≤1)) (fun x=>[(42,.bool x),(2,.bool false),(0,.slice pM nM cM)]) (fun x=>[]) (fun x=>[slF (rS rE) pM cM M]) ?_ ?_
 ·
  refine za<|e_mv rfl<|zm rfl rfl (.c rfl .n) ce19 (zpe (pM:=pM) (nM:=nM) (cM:=cM) (M:=M) (hnM:=ass)) (.c (j:=0) rfl .n) ?_
  rintro z91 hck
  dsimp only [aq,nq,cq]
  replace hck:(z91=0→((1≤nM∧nM≤64)∧1≤(M.getD 0 []).length∧(M.getD 0 []).length≤64)∧∀i,i<nM→(M.getD i []).length=(M.getD 0 []).length∧∀j,j<(M.getD i []).length→((M.getD i []).getD j none).isSome=true):=hck
  refine e_p (zxa rfl rfl)<|zga rfl rfl (zja rfl) (fun h2=> ?_) (fun h2=> ?_)
  ·
   refine e_no<|e_no<|e_no<|e_no<|e_no<|e_no<|e_no<|e_p (zE rfl rfl)<|e_mv rfl<|e_no<|e_no<|e_no<|e_p (zE rfl rfl)<|zf ?_
   exact zla true (show (true=false→(((1≤nM∧nM≤64)∧1≤(M.getD 0 []).length∧(M.getD 0 []).length≤64)∧∀i,i<nM→(M.getD i []).length=(M.getD 0 []).length∧∀j,j<(M.getD i []).length→((M.getD i []).getD j none).isSome=true)∧nM=(M.getD 0 []).length∧nM≤4∧∀i,i<nM→(((M.getD i []).length:Nat):Int)≤4∧∀j,j<(M.getD i []).length→ye (((M.getD i []).getD j none).getD 0)≤1) from by first|(intro e;cases e;done)|(intro e;have h9:=hsh (by simpa using e);have h8:=hck om;exact ⟨h8,by omega,by omega,h9.2⟩)) ((.e rfl (congrArg Value.bool cbu) (.c rfl (.c rfl .n))):SubM _ _) (ho:=oN) (s0 rfl)
  ·
   refine e_mv rfl<|e_p (zv yd rfl)<|e_mv rfl<|r_vl rfl rfl (zQ (x0:=(M.getD 0 [])) 0 0 rfl yd sz62 rfl cbo rfl rfl (gD (d:=[]) (by have h9:=hck om;omega))) ?_
   rintro ⟨b3,o4,p5,c6⟩ -
   dsimp only [aq,nq,cq]
   refine e_ru (zh (j:=0) 0 ty62 rfl rfl rfl rfl)<|e_p (zv yg rfl)<|e_p (zxa rfl rfl)<|e_p (zE rfl rfl)<|zga rfl rfl (zja rfl) (fun h7=> ?_) (fun h7=> ?_)
   ·
    refine e_no<|e_no<|e_no<|e_p (zE rfl rfl)<|zf ?_
    exact zla true (show (true=false→(((1≤nM∧nM≤64)∧1≤(M.getD 0 []).length∧(M.getD 0 []).length≤64)∧∀i,i<nM→(M.getD i []).length=(M.getD 0 []).length∧∀j,j<(M.getD i []).length→((M.getD i []).getD j none).isSome=true)∧nM=(M.getD 0 []).length∧nM≤4∧∀i,i<nM→(((M.getD i []).length:Nat):Int)≤4∧∀j,j<(M.getD i []).length→ye (((M.getD i []).getD j none).getD 0)≤1) from by first|(intro e;cases e;done)|(intro e;have h9:=hsh (by simpa using e);have h8:=hck om;exact ⟨h8,by omega,by omega,h9.2⟩)) ((.e rfl (congrArg Value.bool cbu) (.c rfl (.c rfl .n))):SubM _ _) (ho:=oN) ((.c (j:=2) rfl .n):SelR _ _ _)
   ·
    refine e_mv rfl<|zm rfl rfl (.c rfl (.c rfl (.c rfl .n))) ce20 (zse (pM:=pM) (nM:=nM) (cM:=cM) (M:=M) (mm:=4) (gg:=2) (hnM:=ass) (hgg:=by first|rfl|assumption|omega|exact ⟨by omega,by omega⟩|exact h1|exact Mx.mk_len _ _ _|exact Mx.mk_rl _ _ _|exact Dt.HM_len|(intro i hi;exact Dt.HM_row hi))) (.c (j:=2) rfl .n) ?_
    rintro b98 hsh
    dsimp only [aq,nq,cq]
    replace hsh:(b98=true→((nM:Nat):Int)≤4∧∀i,i<nM→(((M.getD i []).length:Nat):Int)≤4∧∀j,j<(M.getD i []).length→ye (((M.getD i []).getD j none).getD 0)≤1):=hsh
    refine e_p (zUa rfl)<|e_p (zE rfl rfl)<|zf ?_
    exact zla (!b98) (show ((!b98)=false→(((1≤nM∧nM≤64)∧1≤(M.getD 0 []).length∧(M.getD 0 []).length≤64)∧∀i,i<nM→(M.getD i []).length=(M.getD 0 []).length∧∀j,j<(M.getD i []).length→((M.getD i []).getD j none).isSome=true)∧nM=(M.getD 0 []).length∧nM≤4∧∀i,i<nM→(((M.getD i []).length:Nat):Int)≤4∧∀j,j<(M.getD i []).length→ye (((M.getD i []).getD j none).getD 0)≤1) from by first|(intro e;cases e;done)|(intro e;have h9:=hsh (by simpa using e);have h8:=hck om;exact ⟨h8,by omega,by omega,h9.2⟩)) (mR rfl) (ho:=oN) ((.c (j:=2) rfl .n):SelR _ _ _)
 ·
  rintro g9 hC
  replace hC:(g9=false→(((1≤nM∧nM≤64)∧1≤(M.getD 0 []).length∧(M.getD 0 []).length≤64)∧∀i,i<nM→(M.getD i []).length=(M.getD 0 []).length∧∀j,j<(M.getD i []).length→((M.getD i []).getD j none).isSome=true)∧nM=(M.getD 0 []).length∧nM≤4∧∀i,i<nM→(((M.getD i []).length:Nat):Int)≤4∧∀j,j<(M.getD i []).length→ye (((M.getD i []).getD j none).getD 0)≤1):=hC
  try dsimp only
  refine zXa rfl (fun h42=> ?_) (fun h42=> ?_)
  ·
   refine ze<|za<|e_p (zb rfl)<|zf<|zc<|zG<|zu ?_
   exact zx Tryz.results4 () trivial (zo rfl) rfl (ho:=oN) sN
  ·
   obtain ⟨⟨hk1,hk2⟩,hk3,hk4,hk5⟩:=hC (by simpa using h42)
   have h1:1≤nM∧nM≤4:=⟨hk1.1.1,hk4⟩
   obtain ⟨A,hA⟩:∃z,z=Dt.vl M:=⟨_,rfl⟩
   have hMA:M=A.map fun l=>l.map Option.some:=by rw [hA];exact Dt.zhh hnM hk2
   have hnA:A.length=nM:=by rw [hA];exact Dt.vl_len hnM
   have hrA:∀i,i<nM→(A.getD i []).length=nM:=by rw [hA];exact Dt.vl_row hk2 hk3
   have hbA:Mx.bd A 1:=by rw [hA];exact Dt.vl_bd hnM hk5
   refine zRg (slF (rS rQ) pM cM A) (slFF_EQ 0 rfl hMA) ?_
   have hcl:=Dt.cp_len (m:=Mx.e A) h1.1 h1.2
   have hcl1:=hcl.1
   have hcq:=Dt.cp_hq84 h1.1 h1.2 hbA
   refine zw<|zc<|ze<|za<|e_mv rfl<|e_p (zv yd rfl)<|e_p (zb rfl)<|zf<|zc<|ze<|za<|e_mv rfl<|zm rfl rfl (.c rfl .n) ce21 (zjg (pA:=pM) (nA:=nM) (cA:=cM) (A:=A) (hnA:=by first|rfl|assumption|omega|exact ⟨by omega,by omega⟩|exact h1|exact Mx.mk_len _ _ _|exact Mx.mk_rl _ _ _|exact Dt.HM_len|(intro i hi;exact Dt.HM_row hi)) (hrA:=by first|rfl|assumption|omega|exact ⟨by omega,by omega⟩|exact h1|exact Mx.mk_len _ _ _|exact Mx.mk_rl _ _ _|exact Dt.HM_len|(intro i hi;exact Dt.HM_row hi)) (h1:=by exact h1) (hbA:=by first|rfl|assumption|omega|exact ⟨by omega,by omega⟩|exact h1|exact Mx.mk_len _ _ _|exact Mx.mk_rl _ _ _|exact Dt.HM_len|(intro i hi;exact Dt.HM_row hi))) (.c (j:=0) rfl .n) ?_
   rintro ⟨p99,c910⟩ -
   dsimp only [aq,nq,cq]
   refine e_mv rfl<|e_p (zn rfl rfl)<|e_p (zn rfl rfl)<|e_p (zb rfl)<|e_p (zb rfl)<|zf<|zc<|ze<|ze<|zW (OW:=[]) (O:=[]) 100000 mixed (.then (.then .ret)) kr<|e_dm 0 rfl rfl rfl<|e_pv 1 rfl rfl (zUa rfl)<|e_dm 2 rfl rfl rfl<|e_dm 3 rfl rfl rfl<|e_pv 4 rfl rfl (zv ya rfl)<|e_dm 5 rfl rfl rfl<|e_pv 6 rfl rfl (zJ (z:=(((nM+1):Nat):Int)) rfl rfl (w64 om))<|e_pv 7 rfl rfl (zxa rfl rfl) ?_
   rw [show (decide ((((Dt.cp (Mx.e A) nM).length:Nat):Int)≠(((nM+1):Nat):Int)))=false from by exact decide_eq_false om]
   refine e_pv 8 rfl rfl (zE rfl rfl)<|e_dm 9 rfl rfl rfl<|e_dm 10 rfl rfl rfl<|e_dm 11 rfl rfl rfl<|d_vl 12 rfl rfl kr kr rfl rfl (zQ (x0:=((Dt.cp (Mx.e A) nM).getD nM (0:Rat))) 0 nM rfl ya sz32 rfl cbo rfl rfl (gD (d:=(0:Rat)) om)) ?_
   rintro ⟨b11,o12,w13,w14⟩ -
   dsimp only [aq,nq,cq]
   refine zQa open_rQ<|e_u 13 rfl rfl (zO (j:=0) 0 ty32 rfl rfl rfl (.t4 .nil))<|e_one 14 (zB rfl rfl rfl rfl (.c rfl .n) ce23 (zeb (z:=1) (hz:=by first|rfl|assumption|omega|exact ⟨by omega,by omega⟩|exact h1|exact Mx.mk_len _ _ _|exact Mx.mk_rl _ _ _|exact Dt.HM_len|(intro i hi;exact Dt.HM_row hi))) (.n) ?_)
   rintro ⟨w315,w416⟩ -
   dsimp only [aq,nq,cq]
   refine e_one 15 (zhb rfl rfl rfl rfl (.c rfl (.c rfl .n)) ce22 (zlb (u1:=w13) (v1:=w14) (q1:=((Dt.cp (Mx.e A) nM).getD nM (0:Rat))) (u2:=w315) (v2:=w416) (q2:=((1:Int):Rat)) (hl:=by have h9:=hcq nM;have h8:ye ((1:Int):Rat)=1:=dd;omega)) (.c (j:=2) rfl (.c (j:=0) rfl .n)) ?_)
   rw [show (decide (((Dt.cp (Mx.e A) nM).getD nM (0:Rat))=((1:Int):Rat)))=true from by exact decide_eq_true (hcl.2.trans Dt.int_1)]
   refine e_pv 16 rfl rfl (zUa rfl)<|e_pv 17 rfl rfl (zE rfl rfl)<|zU kr<|zc<|zoa rfl rfl<|zw<|zc<|ze<|za<|e_mv rfl<|zm rfl rfl (.c rfl .n) ce24 (zsd (pA:=pM) (nA:=nM) (cA:=cM) (A:=A) (b:=1) (hnA:=by first|rfl|assumption|omega|exact ⟨by omega,by omega⟩|exact h1|exact Mx.mk_len _ _ _|exact Mx.mk_rl _ _ _|exact Dt.HM_len|(intro i hi;exact Dt.HM_row hi)) (hrA:=by first|rfl|assumption|omega|exact ⟨by omega,by omega⟩|exact h1|exact Mx.mk_len _ _ _|exact Mx.mk_rl _ _ _|exact Dt.HM_len|(intro i hi;exact Dt.HM_row hi)) (h1:=by exact h1) (hb1:=by exact Nat.le_refl _) (hbA:=by exact hbA) (hG:=by exact Nat.le_trans (Dt.Gq_mono 1 h1.2) dd)) (.c (j:=4) rfl .n) ?_
   rintro ⟨w317,w418⟩ -
   dsimp only [aq,nq,cq]
   refine e_mv rfl<|e_p (zn rfl rfl)<|e_p (zn rfl rfl)<|zM rfl rfl (zA zr32 rfl) (fun b19=> ?_)
   refine zl 0 rfl rfl rfl rfl rfl sz32 rfl (.t4 .nil) .z<|e_p (zb rfl)<|zf<|zc<|zab (X:=Wd×Wd) (fun x=>True) (fun x=>[(7,.int .i64 0),(6,.pointer (some ⟨b19,0,none⟩)),(4,.slice p99 ((Dt.cp (Mx.e A) nM).length) c910),(3,.int .i64 ((nM:Nat):Int)),(2,.bool false),(0,.slice pM nM cM)]) (fun x=>[boxA b19 32 (cw [x.1,x.2])]) (fun x=>[qF true x.1 x.2 (if nM%2=1 then -(Dt.det4 (Dt.pad nM (Mx.e A))) else (Dt.det4 (Dt.pad nM (Mx.e A)))),qF true w317 w418 (Dt.det4 (Dt.pad nM (Mx.e A))),qF true w315 w416 ((1:Int):Rat),atF b11 o12 [w13.b,w13.l,w14.b,w14.l],qF true w13 w14 ((Dt.cp (Mx.e A) nM).getD nM (0:Rat)),slF rQ p99 c910 (Dt.cp (Mx.e A) nM),slF (rS rQ) pM cM A,slF (rS rE) pM cM M]) ?_ ?_
   ·
    refine ze<|za<|e_mv rfl<|e_p (zbb (z:=(((nM%2):Nat):Int)) rfl rfl om (remN om om))<|e_p (zna rfl rfl)<|zf<|zc<|zD rfl (fun h75=> ?_) (fun h75=> ?_)
    ·
     refine za<|e_ru (zd 0 ty32 rfl rfl (.t4 .nil))<|zm rfl rfl (.c rfl .n) ce25 (zNd (k1:=true) (u1:=w317) (v1:=w418) (q1:=(Dt.det4 (Dt.pad nM (Mx.e A)))) (hl:=by have h9:=Dt.det_pq (n:=nM) hbA;omega)) (.c (j:=0) rfl .n) ?_
     rintro ⟨w320,w421⟩ -
     dsimp only [aq,nq,cq]
     refine zl 0 rfl rfl rfl rfl rfl sz32 rfl (.t4 .nil) .z<|zf ?_
     exact zla (w320,w421) tt9 (mR rfl) (ho:=(o0 rfl)) ((.e (j:=0) rfl (by rw [if_pos (show nM%2=1 by omega)]) (.of [1,2,3,4,5,6,7] rfl)):SelR _ _ _)
    ·
     refine zw ?_
     exact zla (w317,w418) tt9 (mR rfl) (ho:=(o0 rfl)) ((.e (j:=0) rfl (by rw [if_neg (show ¬nM%2=1 by omega)]) (.of [0,1,2,3,4,5,6] rfl)):SelR _ _ _)
   ·
    rintro ⟨wd,we⟩ -
    try dsimp only [cw]
    refine ze<|ze ?_
    have hdq:ye (if nM%2=1 then -(Dt.det4 (Dt.pad nM (Mx.e A))) else (Dt.det4 (Dt.pad nM (Mx.e A))))≤65:=by have h9:=Dt.det_pq (n:=nM) hbA;split;rw [Big.hq_neg];exact h9;exact h9
    refine zW (OW:=[]) (O:=[boxA b19 32 (cw [wd,we])]) 100000 mixed (.then (.then .ret)) kr<|e_dm 0 rfl rfl rfl<|e_pv 1 rfl rfl (zxa rfl rfl)<|e_dm 2 rfl rfl rfl<|e_dm 3 rfl rfl rfl<|e_u 6 rfl rfl (zd 0 ty32 rfl rfl (.t4 .nil))<|e_one 4 (zB rfl rfl rfl rfl (.c rfl .n) ce23 (zeb (z:=0) (hz:=by first|rfl|assumption|omega|exact ⟨by omega,by omega⟩|exact h1|exact Mx.mk_len _ _ _|exact Mx.mk_rl _ _ _|exact Dt.HM_len|(intro i hi;exact Dt.HM_row hi))) (.n) ?_)
    rintro ⟨w322,w423⟩ -
    dsimp only [aq,nq,cq]
    first|refine zQa (addQe 0 rfl) ?_|refine o_mapR (addQe 0 rfl) ?_
    first|refine zQa (addQE 7 rfl) ?_|refine o_mapR (addQE 7 rfl) ?_
    refine e_one 5 (zB rfl rfl rfl rfl (.c rfl (.c rfl .n)) ce26 (zSd (p1:=p99) (n1:=(Dt.cp (Mx.e A) nM).length) (c1:=c910) (l1:=((Dt.cp (Mx.e A) nM).map some)) (u1:=w322) (v1:=w423) (x1:=(some ((0:Int):Rat))) (hn1:=by exact List.length_map _) (hm1:=om) (hx:=by show ye ((0:Int):Rat)≤_;decide) (hb1:=by intro i;rw [Po.msome];exact Nat.le_trans (hcq i) dd) (hs:=by intro i;rw [Po.vals_some];exact Nat.le_trans (Dt.cp_evq h1.1 h1.2 hbA i) dd)) (.c (j:=0) rfl (.c (j:=1) rfl .n)) ?_)
    rintro ⟨w324,w425⟩ -
    dsimp only [aq,nq,cq]
    have e26:((Po.ev ((some ((0:Int):Rat)).getD 0) (Po.vals ((Dt.cp (Mx.e A) nM).map some))):Rat)=(Po.ev ((0:Int):Rat) (Dt.cp (Mx.e A) nM)):=by rw [Po.vals_some];rfl
    rw [e26]
    refine e_one 7 (zhb rfl rfl rfl rfl (.c rfl (.c rfl .n)) ce22 (zlb (u1:=w324) (v1:=w425) (q1:=(Po.ev ((0:Int):Rat) (Dt.cp (Mx.e A) nM))) (u2:=wd) (v2:=we) (q2:=(if nM%2=1 then -(Dt.det4 (Dt.pad nM (Mx.e A))) else (Dt.det4 (Dt.pad nM (Mx.e A))))) (hl:=by have h9:=Dt.cp_evq h1.1 h1.2 hbA 0;rw [List.drop_zero] at h9;omega)) (.c (j:=0) rfl (.c (j:=4) rfl .n)) ?_)
    rw [show (decide ((Po.ev ((0:Int):Rat) (Dt.cp (Mx.e A) nM))=(if nM%2=1 then -(Dt.det4 (Dt.pad nM (Mx.e A))) else (Dt.det4 (Dt.pad nM (Mx.e A))))))=true from by exact decide_eq_true (Dt.cp_ev0 h1.1 h1.2)]
    refine e_pv 8 rfl rfl (zUa rfl)<|e_pv 9 rfl rfl (zE rfl rfl)<|zU kr<|zc<|zoa rfl rfl<|zw<|zc<|ze<|za<|e_mv rfl<|zm rfl rfl (.c rfl .n) ce27 (zgc (n:=nM) (h1:=by exact ⟨by omega,by omega⟩)) (.n) ?_
    rintro ⟨p327,c328⟩ -
    dsimp only [aq,nq,cq]
    refine e_mv rfl<|e_p (zn rfl rfl)<|e_p (zn rfl rfl)<|e_p (zb rfl)<|e_p (zb rfl)<|zf<|zc<|ze<|za<|e_mv rfl<|zm rfl rfl (.c rfl .n) ce23 (zeb (z:=0) (hz:=by first|rfl|assumption|omega|exact ⟨by omega,by omega⟩|exact h1|exact Mx.mk_len _ _ _|exact Mx.mk_rl _ _ _|exact Dt.HM_len|(intro i hi;exact Dt.HM_row hi))) (.n) ?_
    rintro ⟨w329,w430⟩ -
    dsimp only [aq,nq,cq]
    refine zm rfl rfl (.c rfl (.c rfl .n)) ce28 (znc (pA:=p327) (nA:=nM) (cA:=c328) (A:=(Mx.mk nM nM (fun ii jj=>Td.un ii jj))) (N:=nM) (uk:=w329) (vk:=w430) (xk:=((0:Int):Rat)) (hnA:=by first|rfl|assumption|omega|exact ⟨by omega,by omega⟩|exact h1|exact Mx.mk_len _ _ _|exact Mx.mk_rl _ _ _|exact Dt.HM_len|(intro i hi;exact Dt.HM_row hi)) (hrA:=by first|rfl|assumption|omega|exact ⟨by omega,by omega⟩|exact h1|exact Mx.mk_len _ _ _|exact Mx.mk_rl _ _ _|exact Dt.HM_len|(intro i hi;exact Dt.HM_row hi)) (h1:=by exact ⟨by omega,by omega⟩) (h2:=by exact ⟨by omega,by omega⟩) (hqA:=by exact Dt.un_bd dd) (hxk:=dd)) (.c (j:=1) rfl (.c (j:=0) rfl .n)) ?_
    rintro ⟨p331,c332⟩ -
    dsimp only [aq,nq,cq]
    refine e_mv rfl<|e_p (zn rfl rfl)<|e_p (zn rfl rfl)<|e_p (zb rfl)<|e_p (zb rfl)<|zf<|zc<|ze<|ze ?_
    have e33:(Mx.mk nM nM (fun ii jj=>((0:Int):Rat)*Mx.e (Mx.mk nM nM (fun ii jj=>Td.un ii jj)) ii jj):List (List Rat))=Dt.HM nM A (fun i=>(Dt.cp (Mx.e A) nM).getD i 0) 0:=by exact Dt.HM_zero
    rw [e33]
    refine za<|e_mv rfl<|e_p (zb rfl)<|zf<|zc<|zt<|zca (X:=Nat×(Option Addr)×Nat) (fun x:Nat×(Option Addr)×Nat=>x.1≤nM+1) (fun x=>[(10,.slice (x.2.1) nM (x.2.2)),(12,.int .i64 (((nM:Nat):Int) - ((x.1:Nat):Int))),(8,.slice p327 nM c328),(4,.slice p99 ((Dt.cp (Mx.e A) nM).length) c910),(3,.int .i64 ((nM:Nat):Int)),(0,.slice pM nM cM)]) (fun x=>[boxA b19 32 (cw [wd,we])]) (fun x=>[slF (rS rQ) (x.2.1) (x.2.2) (Dt.HM nM A (fun i=>(Dt.cp (Mx.e A) nM).getD i 0) x.1),slF (rS rQ) p327 c328 (Mx.mk nM nM (fun ii jj=>Td.un ii jj)),slF rE p99 c910 ((Dt.cp (Mx.e A) nM).map some),qF true wd we (if nM%2=1 then -(Dt.det4 (Dt.pad nM (Mx.e A))) else (Dt.det4 (Dt.pad nM (Mx.e A)))),slF rQ p99 c910 (Dt.cp (Mx.e A) nM),slF (rS rQ) pM cM A,slF (rS rE) pM cM M]) (fun x:Nat×(Option Addr)×Nat=>nM+1 - x.1) (0,p331,c332) (show 0≤nM+1 from by exact Nat.zero_le _) ((.c rfl (.e rfl (by first|rfl|(congr 1;done)|(congr 1;omega)) (.of rfl))):SubM _ _) (ho:=(o0 rfl)) ((.of [0,2,4,7,12,13,14] rfl):SelR _ _ _) ?_
    rintro ⟨k,pS,cS⟩ hK
    replace hK:k≤nM+1:=hK
    try dsimp only [cw]
    refine ze<|ze<|za<|e_mv rfl<|e_p (zTa rfl rfl)<|zf<|zc<|zD rfl (fun h34=> ?_) (fun h34=> ?_)
    ·
     refine zw<|zc<|ze<|zt<|ze<|za<|e_mv rfl<|e_mv rfl<|e_mv rfl ?_
     have e35:((((nM:Nat):Int) - ((k:Nat):Int)):Int)=(((nM - k):Nat):Int):=by omega
     rw [e35]
     refine r_vl rfl rfl (zQ (x0:=((Dt.cp (Mx.e A) nM).getD (nM - k) (0:Rat))) 4 (nM - k) rfl ya sz32 rfl cbo rfl rfl (gD (d:=(0:Rat)) om)) ?_
     rintro ⟨b36,o37,w38,w39⟩ -
     dsimp only [aq,nq,cq]
     refine zqa open_rQ<|e_ru (zO (j:=0) 0 ty32 rfl rfl rfl (.t4 .nil))<|zm rfl rfl (.c rfl (.c rfl .n)) ce28 (znc (pA:=p327) (nA:=nM) (cA:=c328) (A:=(Mx.mk nM nM (fun ii jj=>Td.un ii jj))) (N:=nM) (uk:=w38) (vk:=w39) (xk:=((Dt.cp (Mx.e A) nM).getD (nM - k) (0:Rat))) (hnA:=by first|rfl|assumption|omega|exact ⟨by omega,by omega⟩|exact h1|exact Mx.mk_len _ _ _|exact Mx.mk_rl _ _ _|exact Dt.HM_len|(intro i hi;exact Dt.HM_row hi)) (hrA:=by first|rfl|assumption|omega|exact ⟨by omega,by omega⟩|exact h1|exact Mx.mk_len _ _ _|exact Mx.mk_rl _ _ _|exact Dt.HM_len|(intro i hi;exact Dt.HM_row hi)) (h1:=by exact ⟨by omega,by omega⟩) (h2:=by exact ⟨by omega,by omega⟩) (hqA:=by exact Dt.un_bd dd) (hxk:=by exact Nat.le_trans (hcq _) dd)) (.c (j:=3) rfl (.c (j:=1) rfl .n)) ?_
     rintro ⟨p340,c341⟩ -
     dsimp only [aq,nq,cq]
     refine e_mv rfl<|e_p (zn rfl rfl)<|e_p (zn rfl rfl)<|e_p (zb rfl)<|e_p (zb rfl)<|zf<|zc<|ze ?_
     have e42:(Mx.mk nM nM (fun ii jj=>((Dt.cp (Mx.e A) nM).getD (nM - k) (0:Rat))*Mx.e (Mx.mk nM nM (fun ii jj=>Td.un ii jj)) ii jj):List (List Rat))=Dt.XI nM ((Dt.cp (Mx.e A) nM).getD (nM - k) 0):=by rfl
     rw [e42]
     refine za<|e_mv rfl<|e_mv rfl<|zm rfl rfl (.c rfl (.c rfl .n)) ce29 (zHg (pA:=pS) (nA:=nM) (cA:=cS) (A:=(Dt.HM nM A (fun i=>(Dt.cp (Mx.e A) nM).getD i 0) k)) (pB:=pM) (cB:=cM) (B:=A) (hnA:=by first|rfl|assumption|omega|exact ⟨by omega,by omega⟩|exact h1|exact Mx.mk_len _ _ _|exact Mx.mk_rl _ _ _|exact Dt.HM_len|(intro i hi;exact Dt.HM_row hi)) (hrA:=by first|rfl|assumption|omega|exact ⟨by omega,by omega⟩|exact h1|exact Mx.mk_len _ _ _|exact Mx.mk_rl _ _ _|exact Dt.HM_len|(intro i hi;exact Dt.HM_row hi)) (hnB:=by first|rfl|assumption|omega|exact ⟨by omega,by omega⟩|exact h1|exact Mx.mk_len _ _ _|exact Mx.mk_rl _ _ _|exact Dt.HM_len|(intro i hi;exact Dt.HM_row hi)) (hrB:=by first|rfl|assumption|omega|exact ⟨by omega,by omega⟩|exact h1|exact Mx.mk_len _ _ _|exact Mx.mk_rl _ _ _|exact Dt.HM_len|(intro i hi;exact Dt.HM_row hi)) (h1:=by exact ⟨by omega,by omega⟩) (hqA:=by exact (Dt.Hs_hq h1.2 hbA hcq k).up (by have h9:=Dt.Hb5 h1.2 (show k≤nM by omega);omega)) (hqB:=by exact hbA.up dd)) (.c (j:=3) rfl (.c (j:=8) rfl .n)) ?_
     rintro ⟨p343,c344⟩ -
     dsimp only [aq,nq,cq]
     refine e_mv rfl<|e_p (zn rfl rfl)<|e_p (zn rfl rfl)<|e_p (zb rfl)<|e_p (zb rfl)<|zf<|zc<|ze ?_
     have e45:(Mx.mk nM nM (fun ii jj=>Td.dl ((Dt.HM nM A (fun i=>(Dt.cp (Mx.e A) nM).getD i 0) k).getD ii []) ((Mx.mk nM nM (fun ii jj=>Mx.e A jj ii)).getD jj []) nM):List (List Rat))=Dt.PM nM (Dt.HM nM A (fun i=>(Dt.cp (Mx.e A) nM).getD i 0) k) A:=by rfl
     rw [e45]
     refine za<|e_mv rfl<|e_mv rfl<|zm rfl rfl (.c rfl (.c rfl .n)) ce30 (zFg (pA:=p343) (nA:=nM) (cA:=c344) (A:=(Dt.PM nM (Dt.HM nM A (fun i=>(Dt.cp (Mx.e A) nM).getD i 0) k) A)) (pB:=p340) (cB:=c341) (B:=(Dt.XI nM ((Dt.cp (Mx.e A) nM).getD (nM - k) 0))) (N:=nM) (hnA:=by first|rfl|assumption|omega|exact ⟨by omega,by omega⟩|exact h1|exact Mx.mk_len _ _ _|exact Mx.mk_rl _ _ _|exact Dt.HM_len|(intro i hi;exact Dt.HM_row hi)) (hrA:=by first|rfl|assumption|omega|exact ⟨by omega,by omega⟩|exact h1|exact Mx.mk_len _ _ _|exact Mx.mk_rl _ _ _|exact Dt.HM_len|(intro i hi;exact Dt.HM_row hi)) (hnB:=by first|rfl|assumption|omega|exact ⟨by omega,by omega⟩|exact h1|exact Mx.mk_len _ _ _|exact Mx.mk_rl _ _ _|exact Dt.HM_len|(intro i hi;exact Dt.HM_row hi)) (hrB:=by first|rfl|assumption|omega|exact ⟨by omega,by omega⟩|exact h1|exact Mx.mk_len _ _ _|exact Mx.mk_rl _ _ _|exact Dt.HM_len|(intro i hi;exact Dt.HM_row hi)) (h1:=by exact ⟨by omega,by omega⟩) (h2:=by exact ⟨by omega,by omega⟩) (hqA:=by exact (Dt.PM_hq h1.2 (Dt.Hs_hq h1.2 hbA hcq k) hbA).up (Dt.Hb5 h1.2 om)) (hqB:=by exact (Dt.XI_hq (Nat.le_trans (hcq _) (by decide:84≤100000))))) (.c (j:=0) rfl (.c (j:=1) rfl .n)) ?_
     rintro ⟨p346,c347⟩ -
     dsimp only [aq,nq,cq]
     refine e_mv rfl<|e_p (zn rfl rfl)<|e_p (zn rfl rfl)<|e_p (zb rfl)<|e_p (zb rfl)<|zf<|zc<|ze<|ze ?_
     have e48:(Mx.mk nM nM (fun ii jj=>Mx.e (Dt.PM nM (Dt.HM nM A (fun i=>(Dt.cp (Mx.e A) nM).getD i 0) k) A) ii jj+Mx.e (Dt.XI nM ((Dt.cp (Mx.e A) nM).getD (nM - k) 0)) ii jj):List (List Rat))=Dt.HM nM A (fun i=>(Dt.cp (Mx.e A) nM).getD i 0) (k+1):=by exact Dt.HM_step rfl
     rw [e48]
     refine za<|e_mv rfl<|e_mv rfl<|e_p (zJ (z:=0) rfl rfl (w64 dd))<|e_mv rfl<|e_p (zJ (z:=0) rfl rfl (w64 dd))<|e_p (zxa rfl rfl)<|zf<|zc<|zoa rfl rfl<|zw<|zc<|za<|e_mv rfl<|e_p (zb rfl)<|zf<|zK<|zc<|za<|e_mv rfl<|e_p (zha (z:=((((nM - k):Nat):Int) - 1)) rfl rfl (w64 om))<|e_p (zb rfl)<|zf<|zV ((k+1),p346,c347) (show (k+1)≤nM+1 from by show k+1≤nM+1;omega) (by show nM+1 - (k+1)<nM+1 - k;omega) ((.c rfl (.e rfl (by first|rfl|(congr 1;done)|(congr 1;omega)) (.of rfl))):SubM _ _) (ho:=(o0 rfl)) ((.of [0,6,7,8,9,10,11] rfl):SelR _ _ _)
    ·
     refine zaa<|zg<|zg<|zp<|zc<|ze<|ze ?_
     have ekn:k=nM+1:=by omega
     have hHl:(Dt.HM nM A (fun i=>(Dt.cp (Mx.e A) nM).getD i 0) k).length=nM:=Dt.HM_len
     refine za<|e_mv rfl<|e_p (zv yd rfl)<|e_mv rfl<|zf<|zc<|zt<|zca (X:=Nat) (fun x:Nat=>x≤nM) (fun x=>[(134,.int .i64 ((x:Nat):Int)),(133,.int .i64 ((nM:Nat):Int)),(132,.slice pS nM cS),(4,.slice p99 ((Dt.cp (Mx.e A) nM).length) c910),(3,.int .i64 ((nM:Nat):Int)),(0,.slice pM nM cM)]) (fun x=>[boxA b19 32 (cw [wd,we])]) (fun x=>[slF (rS rQ) pS cS (Dt.HM nM A (fun x=>(Dt.cp (Mx.e A) nM).getD x 0) k),slF rE p99 c910 ((Dt.cp (Mx.e A) nM).map some),qF true wd we (if nM%2=1 then -(Dt.det4 (Dt.pad nM (Mx.e A))) else (Dt.det4 (Dt.pad nM (Mx.e A)))),slF rQ p99 c910 (Dt.cp (Mx.e A) nM),slF (rS rQ) pM cM A,slF (rS rE) pM cM M]) (fun x:Nat=>nM - x) 0 (show 0≤nM from by exact Nat.zero_le _) ((.e rfl cgs (.of rfl)):SubM _ _) (ho:=(o0 rfl)) ((.e (j:=0) rfl (by first|rfl|simp_all) (.of [2,3,4,5,6] rfl)):SelR _ _ _) ?_
     rintro i hI2
     replace hI2:i≤nM:=hI2
     try dsimp only [cw]
     refine ze<|za<|e_p (zY rfl rfl)<|zf<|zc<|ze<|zD rfl (fun h49=> ?_) (fun h49=> ?_)
     ·
      refine zw<|zc<|ze<|zt<|ze<|za<|r_vl rfl rfl (zQ (x0:=((Dt.HM nM A (fun i=>(Dt.cp (Mx.e A) nM).getD i 0) k).getD i [])) 0 i rfl yd sz62 rfl cbo rfl rfl (gD (d:=[]) om)) ?_
      rintro ⟨b50,o51,p52,c53⟩ -
      dsimp only [aq,nq,cq]
      refine e_ru (zh (j:=0) 0 ty62 rfl rfl rfl rfl)<|e_p (zb rfl)<|zf<|zc<|ze ?_
      have hr9:((Dt.HM nM A (fun i=>(Dt.cp (Mx.e A) nM).getD i 0) k).getD i []).length=nM:=Dt.HM_row om
      refine za<|e_mv rfl<|e_p (zv yg rfl)<|e_mv rfl<|zf<|zc<|zt<|zca (X:=Nat) (fun x:Nat=>x≤nM) (fun x=>[(140,.int .i64 ((x:Nat):Int)),(139,.int .i64 ((((Dt.HM nM A (fun i=>(Dt.cp (Mx.e A) nM).getD i 0) k).getD i []).length:Nat):Int)),(138,.slice p52 (((Dt.HM nM A (fun i=>(Dt.cp (Mx.e A) nM).getD i 0) k).getD i []).length) c53),(134,.int .i64 ((i:Nat):Int)),(133,.int .i64 ((nM:Nat):Int)),(132,.slice pS nM cS),(4,.slice p99 ((Dt.cp (Mx.e A) nM).length) c910),(3,.int .i64 ((nM:Nat):Int)),(0,.slice pM nM cM)]) (fun x=>[boxA b19 32 (cw [wd,we])]) (fun x=>[slF rQ p52 c53 ((Dt.HM nM A (fun i=>(Dt.cp (Mx.e A) nM).getD i 0) k).getD i []),slF (rS rQ) pS cS (Dt.HM nM A (fun i=>(Dt.cp (Mx.e A) nM).getD i 0) k),slF rE p99 c910 ((Dt.cp (Mx.e A) nM).map some),qF true wd we (if nM%2=1 then -(Dt.det4 (Dt.pad nM (Mx.e A))) else (Dt.det4 (Dt.pad nM (Mx.e A)))),slF rQ p99 c910 (Dt.cp (Mx.e A) nM),slF (rS rQ) pM cM A,slF (rS rE) pM cM M]) (fun x:Nat=>nM - x) 0 (show 0≤nM from by exact Nat.zero_le _) ((.e rfl cgs (.of rfl)):SubM _ _) (ho:=(o0 rfl)) ((.of [1,2,3,4,5,6,7] rfl):SelR _ _ _) ?_
      rintro j hJ
      replace hJ:j≤nM:=hJ
      try dsimp only [cw]
      refine ze<|za<|e_p (zY rfl rfl)<|zf<|zc<|ze<|zD rfl (fun h54=> ?_) (fun h54=> ?_)
      ·
       refine zw<|zc<|ze<|zt<|ze<|za<|r_vl rfl rfl (zQ (x0:=(((Dt.HM nM A (fun i=>(Dt.cp (Mx.e A) nM).getD i 0) k).getD i []).getD j (0:Rat))) 0 j rfl yg sz32 rfl cbo rfl rfl (gD (d:=(0:Rat)) om)) ?_
       rintro ⟨b55,o56,w57,w58⟩ -
       dsimp only [aq,nq,cq]
       refine zqa open_rQ<|e_ru (zO (j:=0) 0 ty32 rfl rfl rfl (.t4 .nil))<|zM rfl rfl (zA zr32 rfl) (fun b59=> ?_)
       refine zl 0 rfl rfl rfl rfl rfl sz32 rfl (.t4 .nil) .z<|zf<|zc<|ze<|za<|e_ru (zd 0 ty32 rfl rfl (.t4 .nil))<|zR rfl rfl (.c rfl .n) ce12 (zgd (k1:=true) (u1:=w57) (v1:=w58) (q1:=(((Dt.HM nM A (fun i=>(Dt.cp (Mx.e A) nM).getD i 0) k).getD i []).getD j (0:Rat))) (hl:=by have h9:=Dt.Hs_hq h1.2 hbA hcq (nM+1) i j;have h8:=Dt.Hb_mono (show nM+1≤5 by omega);have h7:Dt.Hb 5≤100000:=dd;rw [show k=nM+1 by omega];exact Nat.le_trans h9 (Nat.le_trans h8 (Nat.le_trans h7 dd)))) (.c (j:=1) rfl .n)<|e_p (zxa rfl rfl)<|zf<|zc<|zD rfl (fun h146=> ?_) (fun h146=> ?_)
       ·
        exact absurd (show yh (((Dt.HM nM A (fun i=>(Dt.cp (Mx.e A) nM).getD i 0) k).getD i []).getD j 0)=0 by rw [show k=nM+1 by omega,Dt.HM_end h1.1 h1.2 om om];rfl) h146
       ·
        refine zw<|zK<|zc<|za<|e_p (zJ (z:=(((j+1):Nat):Int)) rfl rfl (w64 om))<|e_mv rfl<|zf<|zV (j+1) (show (j+1)≤nM from by show j+1≤nM;omega) (by show nM - (j+1)<nM - j;omega) (mR rfl) (ho:=((.c (i:=1) rfl .n):PickO _ _ _)) ((.of [2,3,4,5,6,7,8] rfl):SelR _ _ _)
      ·
       refine zaa<|zg<|zg<|zp<|zK<|zc<|za<|e_p (zJ (z:=(((i+1):Nat):Int)) rfl rfl (w64 om))<|e_mv rfl<|zf<|zV (i+1) (show (i+1)≤nM from by show i+1≤nM;omega) (by show nM - (i+1)<nM - i;omega) (mR rfl) (ho:=(o0 rfl)) ((.e (j:=1) rfl (by first|rfl|simp_all) (.of [2,3,4,5,6] rfl)):SelR _ _ _)
     ·
      refine zaa<|zg<|zg<|zp<|zc<|ze<|ze<|za<|e_mv rfl<|zm rfl rfl (.c rfl .n) ce31 (zdg (pM:=pM) (nM:=nM) (cM:=cM) (M:=A) (hnM:=by first|rfl|assumption|omega|exact ⟨by omega,by omega⟩|exact h1|exact Mx.mk_len _ _ _|exact Mx.mk_rl _ _ _|exact Dt.HM_len|(intro i hi;exact Dt.HM_row hi))) (.c (j:=4) rfl .n) ?_
      rintro b960 htn
      dsimp only [aq,nq,cq]
      replace htn:(b960=true→nM≤3):=htn
      refine e_p (zUa rfl)<|zf<|zc<|zXa rfl (fun h151=> ?_) (fun h151=> ?_)
      ·
       refine ze<|za<|e_p (zb rfl)<|zf<|zc<|zG<|zu ?_
       exact zx Tryz.results4 () trivial (zo rfl) rfl (ho:=oN) sN
      ·
       have h3:=htn (by simpa using h151)
       obtain ⟨kk,hI1,hI2,hI3,hI4,hI5,hI6,hI7,hI8⟩:=Dt.cp_all (m:=Mx.e A) h1.1 h3 (fun r c _ _=>hbA r c)
       refine zw<|zc<|ze<|za<|e_mv rfl<|zm rfl rfl (.c rfl .n) ce32 (zTd (p1:=p99) (n1:=(Dt.cp (Mx.e A) nM).length) (c1:=c910) (l1:=((Dt.cp (Mx.e A) nM).map some)) (n:=kk) (hn1:=by exact List.length_map _) (hm1:=om) (hok:=by rw [Po.vals_some];exact hI1) (hb:=by rw [Po.vals_some];exact hI2) (hne:=by rw [Po.vals_some];exact hI3) (hne2:=by rw [Po.vals_some];exact hI4) (hlS:=by rw [Po.vals_some];exact hI5) (hA:=by rw [Po.vals_some];exact hI7) (hk:=by rw [Po.vals_some];exact hI6)) (.c (j:=1) rfl .n) ?_
       rintro ⟨p961,c962⟩ -
       dsimp only [aq,nq,cq]
       refine e_mv rfl<|e_p (zn rfl rfl)<|e_p (zn rfl rfl)<|e_p (zb rfl)<|e_p (zb rfl)<|zf<|zc<|zab (X:=Unit) (fun x=>True) (fun x=>[(2,.bool true)]) (fun x=>[boxA b19 32 (cw [wd,we])]) (fun x=>[slF rR p961 c962 (Po.iso (Po.sturm (Po.vals ((Dt.cp (Mx.e A) nM).map some))) kk (-(Po.bound (Po.cl (Po.vals ((Dt.cp (Mx.e A) nM).map some))))) (Po.bound (Po.cl (Po.vals ((Dt.cp (Mx.e A) nM).map some))))),slF (rS rQ) pS cS (Dt.HM nM A (fun i=>(Dt.cp (Mx.e A) nM).getD i 0) k),slF rE p99 c910 ((Dt.cp (Mx.e A) nM).map some),qF true wd we (if nM%2=1 then -(Dt.det4 (Dt.pad nM (Mx.e A))) else (Dt.det4 (Dt.pad nM (Mx.e A)))),slF rQ p99 c910 (Dt.cp (Mx.e A) nM),slF (rS rQ) pM cM A,slF (rS rE) pM cM M]) ?_ ?_
       ·
        have e63:(Po.iso (Po.sturm (Po.vals ((Dt.cp (Mx.e A) nM).map some))) kk (-(Po.bound (Po.cl (Po.vals ((Dt.cp (Mx.e A) nM).map some))))) (Po.bound (Po.cl (Po.vals ((Dt.cp (Mx.e A) nM).map some)))):List (Rat×Rat))=Po.iso (Po.sturm (Dt.cp (Mx.e A) nM)) kk (-Po.bound (Po.cl (Dt.cp (Mx.e A) nM))) (Po.bound (Po.cl (Dt.cp (Mx.e A) nM))):=by rw [Po.vals_some]
        rw [e63]
        refine za<|e_mv rfl<|e_p (zna rfl rfl)<|e_mv rfl<|e_mv rfl<|e_p (zbb (z:=(((nM%2):Nat):Int)) rfl rfl om (remN om om))<|e_p (zna rfl rfl)<|zga rfl rfl (zja rfl) (fun h64=> ?_) (fun h64=> ?_)
        ·
         refine e_no<|e_no<|e_no<|e_p (zE rfl rfl)<|e_p (zE rfl rfl)<|e_p (zb rfl)<|zf ?_
         exact zla () tt9 ((.c rfl .n):SubM _ _) (ho:=(o0 rfl)) ((.e (j:=0) rfl (by first|rfl|simp_all) (.of [1,2,3,4,5,6] rfl)):SelR _ _ _)
        ·
         refine e_mv rfl<|e_p (zv yf rfl)<|e_p (zra rfl rfl)<|e_p (zE rfl rfl)<|e_p (zE rfl rfl)<|e_p (zb rfl)<|zf ?_
         exact zla () tt9 ((.e rfl (congrArg Value.bool (by first|rfl|exact (decide_eq_true om).symm|exact (decide_eq_true (show (0:Int)<(((Po.iso (Po.sturm (Dt.cp (Mx.e A) nM)) kk (-Po.bound (Po.cl (Dt.cp (Mx.e A) nM))) (Po.bound (Po.cl (Dt.cp (Mx.e A) nM)))).length:Nat):Int) by have h9:=Dt.iso_hd hI8 om;omega)))) .n):SubM _ _) (ho:=(o0 rfl)) ((.e (j:=0) rfl (by first|rfl|simp_all) (.of [1,2,3,4,5,6] rfl)):SelR _ _ _)
       ·
        rintro ⟨⟩ -
        try dsimp only [cw]
        refine zG ?_
        exact zx Tryz.results4 () trivial (zo rfl) rfl (ho:=oN) sN
end Go.Proofs.YtpdbimfnhglhpaaGreat.Sp
namespace Go.Proofs.YtpdbimfnhglhpaaGreat.Sp
open Go
set_option linter.unusedVariables false
def rRaw:Rp ((Bool×List Int)×(Bool×List Int)):=rP (rP rB (rS (rI .u32))) (rP rB (rS (rI .u32)))
theorem eF_of {g:Hp} {s t:Bool} {p1 p2:Option Addr} {c1 c2:Nat} {la lb:List Int} (ha:Sl (rI .u32) g p1 c1 la) (hb:Sl (rI .u32) g p2 c2 lb) (k1:la.length≤1099511627776) (k2:lb.length≤1099511627776):
    (eF ⟨s,p1,la.length,c1⟩ ⟨t,p2,lb.length,c2⟩ (qo ((s,la),(t,lb)))).on g:=⟨((s,la),(t,lb)),⟨rfl,rfl,k1,ha⟩,⟨rfl,rfl,k2,hb⟩,rfl⟩
theorem sl_raw {g:Hp} {p:Option Addr} {c:Nat} {l:List ((Bool×List Int)×(Bool×List Int))} (k:Sl rRaw g p c l) (hb:∀x,x∈l→x.1.2.length≤1099511627776∧x.2.2.length≤1099511627776):Sl rE g p c (l.map qo):=by
  refine ⟨by rw [List.length_map];exact k.1,k.2.1,k.2.2.1,fun i x e=> ?_⟩
  rw [List.getElem?_map] at e
  obtain ⟨x0,e0,rfl⟩:=Option.map_eq_some_iff.1 e
  obtain ⟨b,off,⟨⟨γ1,p1,c1⟩,⟨γ2,p2,c2⟩⟩,e1,e2,e3⟩:=k.2.2.2 i x0 e0
  obtain ⟨h1,h2⟩:=hb x0 (List.mem_of_getElem? e0)
  exact ⟨b,off,(⟨x0.1.1,p1,x0.1.2.length,c1⟩,⟨x0.2.1,p2,x0.2.2.length,c2⟩),e1,e2,eF_of e3.1.2 e3.2.2 h1 h2⟩
theorem mz_raw1 {x:(Bool×List Int)×(Bool×List Int)} {n:Nat} (h:(fun z:(Bool×List Int)×(Bool×List Int)=>(fun z:Bool×List Int=>(fun _:Bool=>1) z.1+mzL (fun _:Int=>1) z.2) z.1+(fun z:Bool×List Int=>(fun _:Bool=>1) z.1+mzL (fun _:Int=>1) z.2) z.2) x≤n):x.1.2.length≤n∧x.2.2.length≤n:=by
  have q1:=mzL_len (mz:=fun _:Int=>1) (l:=x.1.2) (fun _=>Nat.le_refl 1)
  have q2:=mzL_len (mz:=fun _:Int=>1) (l:=x.2.2) (fun _=>Nat.le_refl 1)
  simp only at h
  omega
theorem mz_raw {l:List ((Bool×List Int)×(Bool×List Int))} {n:Nat} (h:mzL (fun z:(Bool×List Int)×(Bool×List Int)=>(fun z:Bool×List Int=>(fun _:Bool=>1) z.1+mzL (fun _:Int=>1) z.2) z.1+(fun z:Bool×List Int=>(fun _:Bool=>1) z.1+mzL (fun _:Int=>1) z.2) z.2) l≤n) (hn:n≤1099511627776):∀x,x∈l→x.1.2.length≤1099511627776∧x.2.2.length≤1099511627776:=fun x hx=>by
  have:=mzL_mem (mz:=fun z:(Bool×List Int)×(Bool×List Int)=>(fun z:Bool×List Int=>(fun _:Bool=>1) z.1+mzL (fun _:Int=>1) z.2) z.1+(fun z:Bool×List Int=>(fun _:Bool=>1) z.1+mzL (fun _:Int=>1) z.2) z.2) hx
  exact mz_raw1 (Nat.le_trans (Nat.le_of_succ_le (Nat.le_trans this h)) hn)
end Go.Proofs.YtpdbimfnhglhpaaGreat.Sp
namespace Go.Proofs.YtpdbimfnhglhpaaGreat.Sp
open Go
set_option linter.unusedVariables false
theorem sl_raw2 {g:Hp} {p:Option Addr} {c:Nat} {L:List (List ((Bool×List Int)×(Bool×List Int)))} (k:Sl (rS rRaw) g p c L) (hb:∀l,l∈L→∀x,x∈l→x.1.2.length≤1099511627776∧x.2.2.length≤1099511627776):Sl (rS rE) g p c (L.map fun l=>l.map qo):=by
  refine ⟨by rw [List.length_map];exact k.1,k.2.1,k.2.2.1,fun i x e=> ?_⟩
  rw [List.getElem?_map] at e
  obtain ⟨x0,e0,rfl⟩:=Option.map_eq_some_iff.1 e
  obtain ⟨b,off,γ,e1,e2,e3⟩:=k.2.2.2 i x0 e0
  refine ⟨b,off,γ,e1,?_,sl_raw e3 (hb x0 (List.mem_of_getElem? e0))⟩
  have e4:(rS rE).enc (x0.map qo) γ=(rS rRaw).enc x0 γ:=by
    show [Value.slice γ.1 (x0.map qo).length γ.2]=[Value.slice γ.1 x0.length γ.2]
    rw [List.length_map]
  rw [e4];exact e2
theorem mz_raw2 {L:List (List ((Bool×List Int)×(Bool×List Int)))} {n:Nat} (h:mzL (mzL (fun z:(Bool×List Int)×(Bool×List Int)=>(fun z:Bool×List Int=>(fun _:Bool=>1) z.1+mzL (fun _:Int=>1) z.2) z.1+(fun z:Bool×List Int=>(fun _:Bool=>1) z.1+mzL (fun _:Int=>1) z.2) z.2)) L≤n) (hn:n≤1099511627776):∀l,l∈L→∀x,x∈l→x.1.2.length≤1099511627776∧x.2.2.length≤1099511627776:=fun l hl=>by
  have:=mzL_mem (mz:=mzL (fun z:(Bool×List Int)×(Bool×List Int)=>(fun z:Bool×List Int=>(fun _:Bool=>1) z.1+mzL (fun _:Int=>1) z.2) z.1+(fun z:Bool×List Int=>(fun _:Bool=>1) z.1+mzL (fun _:Int=>1) z.2) z.2)) hl
  exact mz_raw (Nat.le_trans (Nat.le_of_succ_le this) h) hn
end Go.Proofs.YtpdbimfnhglhpaaGreat.Sp
