/- Lemmas on the walk and plain lemmas that the claim of this folder uses; each states its own conditions. Lines were printed by a program of ours. -/
import Derived.Test.YtbiaimgafknkmaaGreatZ4D
set_option linter.unusedVariables false
set_option linter.unusedSimpArgs false
set_option linter.unusedSectionVars false
open Go.Proofs.YtbiaimgafknkmaaGreat.Big renaming hq → ya
namespace Go.Proofs.YtbiaimgafknkmaaGreat.Sp
open Go
set_option linter.unusedVariables false
set_option maxRecDepth 100000
set_option maxHeartbeats 8000000
theorem zcc {p1:Option Addr} {n1:Nat} {c1:Nat} {l1:List (Option Rat)} {p2:Option Addr} {n2:Nat} {c2:Nat} {l2:List (Option Rat)} {u1:Wd} {v1:Wd} {x1:Option Rat} (hn1:l1.length=n1) (hn2:l2.length=n2):Con Tryz.prog 4 [.slice p1 n1 c1,.slice p2 n2 c2,.agg #[u1.b,u1.l,v1.b,v1.l]] [] [slF rE p1 c1 l1,slF rE p2 c2 l2,eF u1 v1 x1] (Y:=Unit) (fun y=>True) (fun y=> .bool true) (fun y=>[]) (fun y=>[]):=by
 refine zl Tryz.func4 rfl rfl rfl (fun c=> ?_)
 show RunC _ _ _ _ _ [(0,.slice p1 n1 c1),(1,.slice p2 n2 c2),(2,.agg #[u1.b,u1.l,v1.b,v1.l])] [] [slF rE p1 c1 l1,slF rE p2 c2 l2,eF u1 v1 x1]
 refine zQ 0 rfl (fun hL0=> ?_)
 refine zQ 1 rfl (fun hL1=> ?_)
 refine ze<|za<|zG rfl rfl (zM rfl rfl) (fun b1=> ?_)
 refine e_p (zb rfl)<|zf<|zc<|ze<|ze<|za<|zK rfl rfl (.n) ce9 (zgf) (.n)<|e_p (zdb rfl)<|zf<|zc<|zVa rfl rfl<|zB<|zc<|ze<|zib (X:=Bool) (fun x=>(x=false→(((n1:Nat):Int)≤6∧∀i,i<n1→ya ((l1.getD i none).getD 0)≤2)∧(((n2:Nat):Int)≤6∧∀i,i<n2→ya ((l2.getD i none).getD 0)≤2)∧(u1.n≤2∧v1.n≤2))) (fun x=>[(25,.bool x),(6,.bool false),(5,.pointer (some ⟨b1,0,none⟩)),(0,.slice p1 n1 c1),(1,.slice p2 n2 c2)]) (fun x=>[boxA b1 28 (cw [u1,v1])]) (fun x=>[slF rE p1 c1 l1,slF rE p2 c2 l2,eF u1 v1 x1]) ?_ ?_
 ·
  refine za<|e_mv rfl<|zj rfl rfl (.c rfl (.c rfl .n)) ce10 (zff (p1:=p1) (n1:=n1) (c1:=c1) (l1:=l1) (m:=6) (hn1:=ass)) (.c (j:=0) rfl .n) ?_
  rintro b92 hfa
  dsimp only [aq,nq,cq]
  replace hfa:(b92=true→((n1:Nat):Int)≤6∧∀i,i<n1→ya ((l1.getD i none).getD 0)≤2):=hfa
  refine e_p (zdb rfl)<|zBe rfl rfl (zpa rfl) (fun h12=> ?_) (fun h12=> ?_)
  ·
   refine e_no<|e_no<|e_no<|e_p (zO rfl rfl)<|e_mv rfl<|e_no<|e_no<|e_no<|e_p (zO rfl rfl)<|zf ?_
   exact zua true (show (true=false→(((n1:Nat):Int)≤6∧∀i,i<n1→ya ((l1.getD i none).getD 0)≤2)∧(((n2:Nat):Int)≤6∧∀i,i<n2→ya ((l2.getD i none).getD 0)≤2)∧(u1.n≤2∧v1.n≤2)) from by (intro k;cases k)) ((.e rfl (congrArg Value.bool cbu) (.of rfl)):SubM _ _) (ho:=((.c (i:=0) rfl .n):PickO _ _ _)) ((.of [0,1,2] rfl):SelR _ _ _)
  ·
   have hf1:=hfa (by simpa using h12)
   refine e_mv rfl<|zj rfl rfl (.c rfl (.c rfl .n)) ce10 (zff (p1:=p2) (n1:=n2) (c1:=c2) (l1:=l2) (m:=6) (hn1:=ass)) (.c (j:=1) rfl .n) ?_
   rintro b93 hfb
   dsimp only [aq,nq,cq]
   replace hfb:(b93=true→((n2:Nat):Int)≤6∧∀i,i<n2→ya ((l2.getD i none).getD 0)≤2):=hfb
   refine e_p (zdb rfl)<|e_p (zO rfl rfl)<|zBe rfl rfl (zpa rfl) (fun h17=> ?_) (fun h17=> ?_)
   ·
    refine e_no<|e_no<|e_no<|e_p (zO rfl rfl)<|zf ?_
    exact zua true (show (true=false→(((n1:Nat):Int)≤6∧∀i,i<n1→ya ((l1.getD i none).getD 0)≤2)∧(((n2:Nat):Int)≤6∧∀i,i<n2→ya ((l2.getD i none).getD 0)≤2)∧(u1.n≤2∧v1.n≤2)) from by (intro k;cases k)) ((.e rfl (congrArg Value.bool cbu) (.of rfl)):SubM _ _) (ho:=((.c (i:=0) rfl .n):PickO _ _ _)) ((.of [0,1,2] rfl):SelR _ _ _)
   ·
    have hf2:=hfb (by simpa using h17)
    refine e_ru (zd 0 ty28 rfl rfl (.t4 .nil))<|zK rfl rfl (.c rfl .n) ce11 (zBd (u1:=u1) (v1:=v1)) (.n)<|e_p (znb rfl)<|e_p (zO rfl rfl)<|zf ?_
    exact zua (decide (¬(u1.n≤2∧v1.n≤2))) (show ((decide (¬(u1.n≤2∧v1.n≤2)))=false→(((n1:Nat):Int)≤6∧∀i,i<n1→ya ((l1.getD i none).getD 0)≤2)∧(((n2:Nat):Int)≤6∧∀i,i<n2→ya ((l2.getD i none).getD 0)≤2)∧(u1.n≤2∧v1.n≤2)) from by (intro k;exact ⟨hf1,hf2,Decidable.not_not.1 (of_decide_eq_false k)⟩)) ((.e rfl (congrArg Value.bool cbu) (.of rfl)):SubM _ _) (ho:=((.c (i:=0) rfl .n):PickO _ _ _)) ((.of [0,1,2] rfl):SelR _ _ _)
 ·
  rintro g9 hC
  replace hC:(g9=false→(((n1:Nat):Int)≤6∧∀i,i<n1→ya ((l1.getD i none).getD 0)≤2)∧(((n2:Nat):Int)≤6∧∀i,i<n2→ya ((l2.getD i none).getD 0)≤2)∧(u1.n≤2∧v1.n≤2)):=hC
  try dsimp only [cw]
  refine zLb rfl (fun h21=> ?_) (fun h21=> ?_)
  ·
   refine ze<|za<|e_p (zb rfl)<|zf<|zc<|zE<|zq ?_
   exact zx Tryz.results4 () trivial (zo rfl) rfl (ho:=(.n:PickO _ _ _)) (.n:SelR _ _ _)
  ·
   obtain ⟨hf1,hf2,hsm⟩:=hC h21
   refine zfd (p:=ya (x1.getD 0)≤2) (fun g hh=>ee_hq (Holds.get 2 rfl hh) hsm.1 hsm.2) (fun hqx=> ?_)
   have hm1:n1≤6:=by omega
   have hb1:=Po.few_all hn1 hf1.2
   have hv1:=Po.few_bd hb1
   have hl1:(Po.vals l1).length=n1:=by rw [Po.vals_len,hn1]
   have hm2:n2≤6:=by omega
   have hb2:=Po.few_all hn2 hf2.2
   have hv2:=Po.few_bd hb2
   have hl2:(Po.vals l2).length=n2:=by rw [Po.vals_len,hn2]
   have hla:=Po.add_len (Po.vals l1) (Po.vals l2)
   have hlm:=Po.mul_len (Po.vals l1) (Po.vals l2)
   refine zB<|zc<|ze<|za<|e_mv rfl<|e_mv rfl<|zj rfl rfl (.c rfl (.c rfl .n)) ce13 (zbc (p1:=p1) (n1:=n1) (c1:=c1) (l1:=l1) (p2:=p2) (n2:=n2) (c2:=c2) (l2:=l2) (hn1:=ass) (hm1:=by first|omega|rfl|assumption|decide) (hn2:=ass) (hm2:=by first|omega|rfl|assumption|decide) (hb:=by intro i;have h1:=hb1 i;have h2:=hb2 i;omega)) (.c (j:=0) rfl (.c (j:=1) rfl .n)) ?_
   rintro ⟨p94,c95⟩ -
   dsimp only [aq,nq,cq]
   refine e_mv rfl<|e_mv rfl<|zj rfl rfl (.c rfl (.c rfl .n)) ce17 (zbb (p1:=p1) (n1:=n1) (c1:=c1) (l1:=l1) (p2:=p2) (n2:=n2) (c2:=c2) (l2:=l2) (hn1:=ass) (hm1:=by first|omega|rfl|assumption|decide) (hn2:=ass) (hm2:=by first|omega|rfl|assumption|decide) (hm12:=by first|omega|rfl|assumption|decide) (hb1:=by exact Po.bd_mono hv1 dd) (hb2:=by exact Po.bd_mono hv2 dd) (hs:=by exact fun k lo n _=>Po.cv_hq_of (K:=2) (L:=2) (N:=20) (Po.bd_cl hv1) (Po.bd_cl hv2) (by have:=Po.cl_le_len (Po.vals l1);omega) dd k lo n)) (.c (j:=1) rfl (.c (j:=2) rfl .n)) ?_
   rintro ⟨p96,c97⟩ -
   dsimp only [aq,nq,cq]
   refine e_p (zb rfl)<|e_p (zb rfl)<|zf<|zc<|ze ?_
   obtain ⟨S9,hS9⟩:∃z,z=(Po.add (Po.vals l1) (Po.vals l2)):=⟨_,rfl⟩
   have e8:(Po.add (Po.vals l1) (Po.vals l2):List Rat)=S9:=by exact hS9.symm
   rw [e8]
   obtain ⟨M9,hM9⟩:∃z,z=(Po.mul (Po.vals l1) (Po.vals l2)):=⟨_,rfl⟩
   have e9:(Po.mul (Po.vals l1) (Po.vals l2):List Rat)=M9:=by exact hM9.symm
   rw [e9]
   have hvS:Po.bd 5 S9:=by rw [hS9];exact Po.bd_add hv1 hv2
   have hvM:Po.bd 31 M9:=by rw [hM9];exact Po.bd_mul (N:=6) hv1 hv2 om
   have hSl:S9.length≤6:=by rw [hS9];omega
   have hMl:M9.length≤11:=by rw [hM9];omega
   have hq1:=Po.add_len (Po.vals l2) (Po.vals l1)
   have hq2:=Po.mul_len (Po.vals l2) (Po.vals l1)
   have hvA:Po.bd 49 (Po.mul S9 (Po.vals l2)):=Po.bd_mul (N:=6) hvS hv2 hSl
   have hAl:=Po.mul_len S9 (Po.vals l2)
   have hvB:Po.bd 31 (Po.mul (Po.vals l2) (Po.vals l2)):=Po.bd_mul (N:=6) hv2 hv2 om
   have hBl:=Po.mul_len (Po.vals l2) (Po.vals l2)
   have hvC:Po.bd 63 (Po.add M9 (Po.mul (Po.vals l2) (Po.vals l2))):=Po.bd_add hvM hvB
   have hCl:=Po.add_len M9 (Po.mul (Po.vals l2) (Po.vals l2))
   have he1:ya (Po.ev (x1.getD 0) (Po.vals l1))≤31:=Po.ev_drop_hq (N:=6) hqx hv1 om 0
   have he2:ya (Po.ev (x1.getD 0) (Po.vals l2))≤31:=Po.ev_drop_hq (N:=6) hqx hv2 om 0
   have he3:ya (Po.ev (x1.getD 0) S9)≤49:=Po.ev_drop_hq (N:=6) hqx hvS hSl 0
   have he4:ya (Po.ev (x1.getD 0) M9)≤375:=Po.ev_drop_hq (N:=11) hqx hvM hMl 0
   have hvD:Po.bd 34 (Po.der M9):=Po.bd_der hvM om
   have hDl:=Po.der_len M9
   have hv3:Po.bd 5 (Po.der (Po.vals l1)):=Po.bd_der hv1 om
   have hl3:=Po.der_len (Po.vals l1)
   have hv4:Po.bd 5 (Po.der (Po.vals l2)):=Po.bd_der hv2 om
   have hl4:=Po.der_len (Po.vals l2)
   have hv5:Po.bd 49 (Po.mul (Po.der (Po.vals l1)) (Po.vals l2)):=Po.bd_mul (N:=6) hv3 hv2 om
   have hl5:=Po.mul_len (Po.der (Po.vals l1)) (Po.vals l2)
   have hv6:Po.bd 49 (Po.mul (Po.vals l1) (Po.der (Po.vals l2))):=Po.bd_mul (N:=6) hv1 hv4 om
   have hl6:=Po.mul_len (Po.vals l1) (Po.der (Po.vals l2))
   have hv7:Po.bd 99 (Po.add (Po.mul (Po.der (Po.vals l1)) (Po.vals l2)) (Po.mul (Po.vals l1) (Po.der (Po.vals l2)))):=Po.bd_add hv5 hv6
   have hl7:=Po.add_len (Po.mul (Po.der (Po.vals l1)) (Po.vals l2)) (Po.mul (Po.vals l1) (Po.der (Po.vals l2)))
   refine zU (OW:=[]) (O:=[boxA b1 28 (cw [u1,v1])]) 8 mixed (.then .ret) kr<|e_dm 0 rfl rfl rfl<|e_u 1 rfl rfl (zd 0 ty28 rfl rfl (.t4 .nil))<|e_dm 3 rfl rfl rfl<|e_u 4 rfl rfl (zd 0 ty28 rfl rfl (.t4 .nil))<|zmd (m':=[(36,.agg (cw [u1,v1]).toArray),(35,.slice p2 n2 c2),(33,.agg (cw [u1,v1]).toArray),(32,.slice p1 n1 c1),(8,.slice p96 ((M9).length) c97),(7,.slice p94 ((S9).length) c95),(6,.bool false),(5,.pointer (some ⟨b1,0,none⟩)),(0,.slice p1 n1 c1),(1,.slice p2 n2 c2)]) (R':=[slF rQ p96 c97 M9,slF rQ p94 c95 S9,slF rE p1 c1 l1,slF rE p2 c2 l2,eF u1 v1 x1]) ((.of rfl):SubM _ _) (List.Perm.refl _) (List.Perm.refl _) ((.of [0,1,2,3,4] rfl):SelR _ _ _)<|zya (X:=Wd×Wd×Wd×Wd×Nat×Nat) (k':=0) (L':=(lb 10 1023)) (fun (u2_1,u2_2,u5_1,u5_2,u6_1,u7_1)=>([(10,.pointer (some ⟨u7_1,0,none⟩)),(9,.pointer (some ⟨u6_1,0,none⟩)),(8,.slice p96 ((M9).length) c97),(7,.slice p94 ((S9).length) c95),(6,.bool false),(5,.pointer (some ⟨b1,0,none⟩)),(0,.slice p1 n1 c1),(1,.slice p2 n2 c2)],[boxA u7_1 28 (cw [u5_1,u5_2]),boxA u6_1 28 (cw [u2_1,u2_2])],[boxA b1 28 (cw [u1,v1])],[qF true u5_1 u5_2 (Po.ev (x1.getD 0) (Po.vals l2)),qF true u2_1 u2_2 (Po.ev (x1.getD 0) (Po.vals l1)),slF rQ p96 c97 M9,slF rQ p94 c95 S9,slF rE p1 c1 l1,slF rE p2 c2 l2,eF u1 v1 x1])) ?_ (fun hD0=> ?_)
   ·
    rintro ⟨u2_1,u2_2,u5_1,u5_2,u6_1,u7_1⟩
    dsimp only [cw]
    refine zR kr<|zc<|ze<|zib (X:=Unit) (fun x=>True) (fun x=>[(63,.bool false),(10,.pointer (some ⟨u7_1,0,none⟩)),(9,.pointer (some ⟨u6_1,0,none⟩)),(8,.slice p96 ((M9).length) c97),(7,.slice p94 ((S9).length) c95),(6,.bool false),(5,.pointer (some ⟨b1,0,none⟩)),(0,.slice p1 n1 c1),(1,.slice p2 n2 c2)]) (fun x=>[boxA u7_1 28 (cw [u5_1,u5_2]),boxA u6_1 28 (cw [u2_1,u2_2]),boxA b1 28 (cw [u1,v1])]) (fun x=>[qF true u5_1 u5_2 (Po.ev (x1.getD 0) (Po.vals l2)),qF true u2_1 u2_2 (Po.ev (x1.getD 0) (Po.vals l1)),slF rQ p96 c97 M9,slF rQ p94 c95 S9,slF rE p1 c1 l1,slF rE p2 c2 l2,eF u1 v1 x1]) ?_ ?_
    ·
     refine za<|e_mv rfl<|e_mv rfl<|e_mv rfl<|zj rfl rfl (.c rfl (.c rfl .n)) ce13 (zbc (p1:=p2) (n1:=n2) (c1:=c2) (l1:=l2) (p2:=p1) (n2:=n1) (c2:=c1) (l2:=l1) (hn1:=ass) (hm1:=by first|omega|rfl|assumption|decide) (hn2:=ass) (hm2:=by first|omega|rfl|assumption|decide) (hb:=by intro i;have h1:=hb1 i;have h2:=hb2 i;omega)) (.c (j:=5) rfl (.c (j:=4) rfl .n)) ?_
     rintro ⟨p910,c911⟩ -
     dsimp only [aq,nq,cq]
     refine zK rfl rfl (.c rfl (.c rfl .n)) ce12 (zqb (p1:=p94) (n1:=(S9).length) (c1:=c95) (l1:=S9) (p2:=p910) (n2:=(Po.add (Po.vals l2) (Po.vals l1)).length) (c2:=c911) (l2:=(Po.add (Po.vals l2) (Po.vals l1))) (hn1:=by rfl) (hm1:=om) (hn2:=by rfl) (hm2:=om) (hb1:=by exact Po.bd_mono hvS dd) (hb2:=by exact Po.bd_mono (Po.bd_add hv2 hv1) dd)) (.c (j:=4) rfl (.c (j:=0) rfl .n)) ?_
     rw [show (decide (S9=(Po.add (Po.vals l2) (Po.vals l1))))=true from by exact decide_eq_true (by rw [hS9];exact Po.add_comm' _ _)]
     refine e_p (zdb rfl)<|e_mv rfl<|e_mv rfl<|e_mv rfl<|e_mv rfl<|zj rfl rfl (.c rfl (.c rfl .n)) ce17 (zbb (p1:=p2) (n1:=n2) (c1:=c2) (l1:=l2) (p2:=p1) (n2:=n1) (c2:=c1) (l2:=l1) (hn1:=ass) (hm1:=by first|omega|rfl|assumption|decide) (hn2:=ass) (hm2:=by first|omega|rfl|assumption|decide) (hm12:=by first|omega|rfl|assumption|decide) (hb1:=by exact Po.bd_mono hv2 dd) (hb2:=by exact Po.bd_mono hv1 dd) (hs:=by exact fun k lo n _=>Po.cv_hq_of (N:=10) (Po.bd_cl hv2) (Po.bd_cl hv1) (Nat.le_trans (Po.cl_le_len _) om) dd k lo n)) (.c (j:=6) rfl (.c (j:=5) rfl .n)) ?_
     rintro ⟨p912,c913⟩ -
     dsimp only [aq,nq,cq]
     refine zK rfl rfl (.c rfl (.c rfl .n)) ce12 (zqb (p1:=p96) (n1:=(M9).length) (c1:=c97) (l1:=M9) (p2:=p912) (n2:=(Po.mul (Po.vals l2) (Po.vals l1)).length) (c2:=c913) (l2:=(Po.mul (Po.vals l2) (Po.vals l1))) (hn1:=by rfl) (hm1:=om) (hn2:=by rfl) (hm2:=om) (hb1:=by exact Po.bd_mono hvM dd) (hb2:=by exact Po.bd_mono (Po.bd_mul (N:=6) hv2 hv1 om) dd)) (.c (j:=4) rfl (.c (j:=0) rfl .n)) ?_
     rw [show (decide (M9=(Po.mul (Po.vals l2) (Po.vals l1))))=true from by exact decide_eq_true (by rw [hM9];exact Po.mul_comm' _ _)]
     refine e_p (zdb rfl)<|e_p (zO rfl rfl)<|e_mv rfl<|e_mv rfl<|e_mv rfl<|zia (addQE 5 rfl)<|zj rfl rfl (.c rfl (.c rfl .n)) ce17 (zbb (p1:=p94) (n1:=(S9).length) (c1:=c95) (l1:=((S9).map some)) (p2:=p2) (n2:=n2) (c2:=c2) (l2:=l2) (hn1:=by exact List.length_map _) (hm1:=by first|omega|rfl|assumption|decide) (hn2:=ass) (hm2:=by first|omega|rfl|assumption|decide) (hm12:=by first|omega|rfl|assumption|decide) (hb1:=by rw [Po.vals_some];exact Po.bd_mono hvS dd) (hb2:=by exact Po.bd_mono hv2 dd) (hs:=by rw [Po.vals_some];exact fun k lo n _=>Po.cv_hq_of (N:=10) (Po.bd_cl hvS) (Po.bd_cl hv2) (Nat.le_trans (Po.cl_le_len _) om) dd k lo n)) (.c (j:=0) rfl (.c (j:=8) rfl .n)) ?_
     rintro ⟨p914,c915⟩ -
     dsimp only [aq,nq,cq]
     refine e_mv rfl<|e_mv rfl<|e_mv rfl<|zj rfl rfl (.c rfl (.c rfl .n)) ce17 (zbb (p1:=p2) (n1:=n2) (c1:=c2) (l1:=l2) (p2:=p2) (n2:=n2) (c2:=c2) (l2:=l2) (hn1:=ass) (hm1:=by first|omega|rfl|assumption|decide) (hn2:=ass) (hm2:=by first|omega|rfl|assumption|decide) (hm12:=by first|omega|rfl|assumption|decide) (hb1:=by exact Po.bd_mono hv2 dd) (hb2:=by exact Po.bd_mono hv2 dd) (hs:=by exact fun k lo n _=>Po.cv_hq_of (N:=10) (Po.bd_cl hv2) (Po.bd_cl hv2) (Nat.le_trans (Po.cl_le_len _) om) dd k lo n)) (.c (j:=9) rfl (.c (j:=9) rfl .n)) ?_
     rintro ⟨p916,c917⟩ -
     dsimp only [aq,nq,cq]
     refine zia (addQE 7 rfl)<|zia (addQE 1 rfl)<|zj rfl rfl (.c rfl (.c rfl .n)) ce13 (zbc (p1:=p96) (n1:=(M9).length) (c1:=c97) (l1:=((M9).map some)) (p2:=p916) (n2:=(Po.mul (Po.vals l2) (Po.vals l2)).length) (c2:=c917) (l2:=((Po.mul (Po.vals l2) (Po.vals l2)).map some)) (hn1:=by exact List.length_map _) (hm1:=by first|omega|rfl|assumption|decide) (hn2:=by exact List.length_map _) (hm2:=by first|omega|rfl|assumption|decide) (hb:=by intro i;rw [Po.msome,Po.msome];have h1:=hvM i;have h2:=hvB i;omega)) (.c (j:=1) rfl (.c (j:=0) rfl .n)) ?_
     rintro ⟨p918,c919⟩ -
     dsimp only [aq,nq,cq]
     refine zK rfl rfl (.c rfl (.c rfl .n)) ce12 (zqb (p1:=p914) (n1:=(Po.mul (Po.vals ((S9).map some)) (Po.vals l2)).length) (c1:=c915) (l1:=(Po.mul (Po.vals ((S9).map some)) (Po.vals l2))) (p2:=p918) (n2:=(Po.add (Po.vals ((M9).map some)) (Po.vals ((Po.mul (Po.vals l2) (Po.vals l2)).map some))).length) (c2:=c919) (l2:=(Po.add (Po.vals ((M9).map some)) (Po.vals ((Po.mul (Po.vals l2) (Po.vals l2)).map some)))) (hn1:=by rfl) (hm1:=by rw [Po.vals_some];omega) (hn2:=by rfl) (hm2:=by rw [Po.vals_some,Po.vals_some];omega) (hb1:=by rw [Po.vals_some];exact Po.bd_mono hvA dd) (hb2:=by rw [Po.vals_some,Po.vals_some];exact Po.bd_mono hvC dd)) (.c (j:=4) rfl (.c (j:=0) rfl .n)) ?_
     rw [show (decide ((Po.mul (Po.vals ((S9).map some)) (Po.vals l2))=(Po.add (Po.vals ((M9).map some)) (Po.vals ((Po.mul (Po.vals l2) (Po.vals l2)).map some)))))=true from by exact decide_eq_true (by rw [Po.vals_some,Po.vals_some,Po.vals_some,hS9,hM9];exact Po.mul_dist _ _ _)]
     refine e_p (zdb rfl)<|e_p (zO rfl rfl)<|zf ?_
     exact zua () (show True from by first|trivial|omega|simp_all) ((.of rfl):SubM _ _) (ho:=((.of [0,0,0] rfl):PickO _ _ _)) ((.of [8,9,10,11,12,13,14] rfl):SelR _ _ _)
    ·
     rintro ⟨⟩ -
     try dsimp only [cw]
     refine zVa rfl rfl<|zB<|zc<|ze<|zib (X:=Unit) (fun x=>True) (fun x=>[(81,.bool false),(8,.slice p96 ((M9).length) c97),(6,.bool false),(0,.slice p1 n1 c1),(1,.slice p2 n2 c2)]) (fun x=>[boxA u7_1 28 (cw [u5_1,u5_2]),boxA u6_1 28 (cw [u2_1,u2_2]),boxA b1 28 (cw [u1,v1])]) (fun x=>[qF true u5_1 u5_2 (Po.ev (x1.getD 0) (Po.vals l2)),qF true u2_1 u2_2 (Po.ev (x1.getD 0) (Po.vals l1)),slF rQ p96 c97 M9,slF rQ p94 c95 S9,slF rE p1 c1 l1,slF rE p2 c2 l2,eF u1 v1 x1]) ?_ ?_
     ·
      refine zU (OW:=[]) (O:=[boxA u7_1 28 (cw [u5_1,u5_2]),boxA u6_1 28 (cw [u2_1,u2_2]),boxA b1 28 (cw [u1,v1])]) 100000 mixed (.then (.then .ret)) kr<|e_dm 0 rfl rfl rfl<|e_u 1 rfl rfl (zd 2 ty28 rfl rfl (.t4 .nil))<|e_u 3 rfl rfl (zd 1 ty28 rfl rfl (.t4 .nil))<|e_u 4 rfl rfl (zd 0 ty28 rfl rfl (.t4 .nil))<|zlb (addQE 3 rfl)<|e_one 2 (zp rfl rfl rfl rfl (.c rfl (.c rfl .n)) ce21 (zHa (p1:=p94) (n1:=(S9).length) (c1:=c95) (l1:=((S9).map some)) (u1:=u1) (v1:=v1) (x1:=x1) (hn1:=by exact List.length_map _) (hm1:=by first|omega|rfl|assumption|decide) (hx:=by exact Nat.le_trans hqx dd) (hb1:=by intro i;rw [Po.msome];exact Nat.le_trans (hvS i) dd) (hs:=by rw [Po.vals_some];exact fun i=>Nat.le_trans (Po.ev_drop_hq (N:=6) hqx hvS om i) dd)) (.c (j:=0) rfl (.c (j:=7) rfl .n)) ?_)
      rintro ⟨w320,w421⟩ -
      dsimp only [aq,nq,cq]
      refine e_one 5 (zp rfl rfl rfl rfl (.c rfl (.c rfl .n)) ce23 (zAd (k1:=true) (u1:=u2_1) (v1:=u2_2) (q1:=(Po.ev (x1.getD 0) (Po.vals l1))) (k2:=true) (u2:=u5_1) (v2:=u5_2) (q2:=(Po.ev (x1.getD 0) (Po.vals l2))) (hl:=om)) (.c (j:=3) rfl (.c (j:=2) rfl .n)) ?_)
      rintro ⟨w322,w423⟩ -
      dsimp only [aq,nq,cq]
      refine e_one 6 (zMa rfl rfl rfl rfl (.c rfl (.c rfl .n)) ce22 (zSa (u1:=w320) (v1:=w421) (q1:=(Po.ev (x1.getD 0) (Po.vals ((S9).map some)))) (u2:=w322) (v2:=w423) (q2:=(Po.ev (x1.getD 0) (Po.vals l1))+(Po.ev (x1.getD 0) (Po.vals l2))) (hl:=by rw [Po.vals_some];have h9:=Big.hq_add (Po.ev (x1.getD 0) (Po.vals l1)) (Po.ev (x1.getD 0) (Po.vals l2));omega)) (.c (j:=1) rfl (.c (j:=0) rfl .n)) ?_)
      rw [show (decide ((Po.ev (x1.getD 0) (Po.vals ((S9).map some)))=((Po.ev (x1.getD 0) (Po.vals l1))+(Po.ev (x1.getD 0) (Po.vals l2)))))=true from by exact decide_eq_true (by rw [Po.vals_some,hS9];exact Po.ev_add _ _ _)]
      refine e_pv 7 rfl rfl (zdb rfl)<|e_dm 8 rfl rfl rfl<|e_dm 9 rfl rfl rfl<|e_u 10 rfl rfl (zd 2 ty28 rfl rfl (.t4 .nil))<|e_u 12 rfl rfl (zd 1 ty28 rfl rfl (.t4 .nil))<|e_u 13 rfl rfl (zd 0 ty28 rfl rfl (.t4 .nil))<|zlb (addQE 5 rfl)<|e_one 11 (zp rfl rfl rfl rfl (.c rfl (.c rfl .n)) ce21 (zHa (p1:=p96) (n1:=(M9).length) (c1:=c97) (l1:=((M9).map some)) (u1:=u1) (v1:=v1) (x1:=x1) (hn1:=by exact List.length_map _) (hm1:=by first|omega|rfl|assumption|decide) (hx:=by exact Nat.le_trans hqx dd) (hb1:=by intro i;rw [Po.msome];exact Nat.le_trans (hvM i) dd) (hs:=by rw [Po.vals_some];exact fun i=>Nat.le_trans (Po.ev_drop_hq (N:=11) hqx hvM om i) dd)) (.c (j:=0) rfl (.c (j:=10) rfl .n)) ?_)
      rintro ⟨w324,w425⟩ -
      dsimp only [aq,nq,cq]
      refine e_one 14 (zp rfl rfl rfl rfl (.c rfl (.c rfl .n)) ce24 (zbf (k1:=true) (u1:=u2_1) (v1:=u2_2) (q1:=(Po.ev (x1.getD 0) (Po.vals l1))) (k2:=true) (u2:=u5_1) (v2:=u5_2) (q2:=(Po.ev (x1.getD 0) (Po.vals l2))) (hl:=om)) (.c (j:=6) rfl (.c (j:=5) rfl .n)) ?_)
      rintro ⟨w326,w427⟩ -
      dsimp only [aq,nq,cq]
      refine e_one 15 (zMa rfl rfl rfl rfl (.c rfl (.c rfl .n)) ce22 (zSa (u1:=w324) (v1:=w425) (q1:=(Po.ev (x1.getD 0) (Po.vals ((M9).map some)))) (u2:=w326) (v2:=w427) (q2:=(Po.ev (x1.getD 0) (Po.vals l1))*(Po.ev (x1.getD 0) (Po.vals l2))) (hl:=by rw [Po.vals_some];have h9:=Big.hq_mul (Po.ev (x1.getD 0) (Po.vals l1)) (Po.ev (x1.getD 0) (Po.vals l2));omega)) (.c (j:=1) rfl (.c (j:=0) rfl .n)) ?_)
      rw [show (decide ((Po.ev (x1.getD 0) (Po.vals ((M9).map some)))=((Po.ev (x1.getD 0) (Po.vals l1))*(Po.ev (x1.getD 0) (Po.vals l2)))))=true from by exact decide_eq_true (by rw [Po.vals_some,hM9];exact Po.ev_mul _ _ _)]
      refine e_pv 16 rfl rfl (zdb rfl)<|e_pv 17 rfl rfl (zO rfl rfl)<|zR kr ?_
      exact zua () (show True from by first|trivial|omega|simp_all) ((.of rfl):SubM _ _) (ho:=((.of [0,0,0] rfl):PickO _ _ _)) ((.of [6,7,8,9,10,11,12] rfl):SelR _ _ _)
     ·
      rintro ⟨⟩ -
      try dsimp only [cw]
      refine zVa rfl rfl<|zB<|zc<|ze<|za<|e_mv rfl<|zia (addQE 2 rfl)<|zj rfl rfl (.c rfl .n) ce25 (zhb (p1:=p96) (n1:=(M9).length) (c1:=c97) (l1:=((M9).map some)) (hn1:=by exact List.length_map _) (hm1:=by first|omega|rfl|assumption|decide) (hb1:=by intro i;rw [Po.msome];exact Nat.le_trans (hvM i) dd)) (.c (j:=0) rfl .n) ?_
      rintro ⟨p928,c929⟩ -
      dsimp only [aq,nq,cq]
      refine e_mv rfl<|zj rfl rfl (.c rfl .n) ce25 (zhb (p1:=p1) (n1:=n1) (c1:=c1) (l1:=l1) (hn1:=ass) (hm1:=by first|omega|rfl|assumption|decide) (hb1:=by exact fun i=>Nat.le_trans (hb1 i) dd)) (.c (j:=6) rfl .n) ?_
      rintro ⟨p930,c931⟩ -
      dsimp only [aq,nq,cq]
      refine e_mv rfl<|zia (addQE 0 rfl)<|zj rfl rfl (.c rfl (.c rfl .n)) ce17 (zbb (p1:=p930) (n1:=(Po.der (Po.vals l1)).length) (c1:=c931) (l1:=((Po.der (Po.vals l1)).map some)) (p2:=p2) (n2:=n2) (c2:=c2) (l2:=l2) (hn1:=by exact List.length_map _) (hm1:=by first|omega|rfl|assumption|decide) (hn2:=ass) (hm2:=by first|omega|rfl|assumption|decide) (hm12:=by first|omega|rfl|assumption|decide) (hb1:=by rw [Po.vals_some];exact Po.bd_mono hv3 dd) (hb2:=by exact Po.bd_mono hv2 dd) (hs:=by rw [Po.vals_some];exact fun k lo n _=>Po.cv_hq_of (N:=10) (Po.bd_cl hv3) (Po.bd_cl hv2) (Nat.le_trans (Po.cl_le_len _) om) dd k lo n)) (.c (j:=0) rfl (.c (j:=9) rfl .n)) ?_
      rintro ⟨p932,c933⟩ -
      dsimp only [aq,nq,cq]
      refine e_mv rfl<|e_mv rfl<|zj rfl rfl (.c rfl .n) ce25 (zhb (p1:=p2) (n1:=n2) (c1:=c2) (l1:=l2) (hn1:=ass) (hm1:=by first|omega|rfl|assumption|decide) (hb1:=by exact fun i=>Nat.le_trans (hb2 i) dd)) (.c (j:=10) rfl .n) ?_
      rintro ⟨p934,c935⟩ -
      dsimp only [aq,nq,cq]
      refine zia (addQE 0 rfl)<|zj rfl rfl (.c rfl (.c rfl .n)) ce17 (zbb (p1:=p1) (n1:=n1) (c1:=c1) (l1:=l1) (p2:=p934) (n2:=(Po.der (Po.vals l2)).length) (c2:=c935) (l2:=((Po.der (Po.vals l2)).map some)) (hn1:=ass) (hm1:=by first|omega|rfl|assumption|decide) (hn2:=by exact List.length_map _) (hm2:=by first|omega|rfl|assumption|decide) (hm12:=by first|omega|rfl|assumption|decide) (hb1:=by exact Po.bd_mono hv1 dd) (hb2:=by rw [Po.vals_some];exact Po.bd_mono hv4 dd) (hs:=by rw [Po.vals_some];exact fun k lo n _=>Po.cv_hq_of (N:=10) (Po.bd_cl hv1) (Po.bd_cl hv4) (Nat.le_trans (Po.cl_le_len _) om) dd k lo n)) (.c (j:=11) rfl (.c (j:=0) rfl .n)) ?_
      rintro ⟨p936,c937⟩ -
      dsimp only [aq,nq,cq]
      refine zia (addQE 3 rfl)<|zia (addQE 1 rfl)<|zj rfl rfl (.c rfl (.c rfl .n)) ce13 (zbc (p1:=p932) (n1:=(Po.mul (Po.vals ((Po.der (Po.vals l1)).map some)) (Po.vals l2)).length) (c1:=c933) (l1:=((Po.mul (Po.vals ((Po.der (Po.vals l1)).map some)) (Po.vals l2)).map some)) (p2:=p936) (n2:=(Po.mul (Po.vals l1) (Po.vals ((Po.der (Po.vals l2)).map some))).length) (c2:=c937) (l2:=((Po.mul (Po.vals l1) (Po.vals ((Po.der (Po.vals l2)).map some))).map some)) (hn1:=by exact List.length_map _) (hm1:=by rw [Po.vals_some];omega) (hn2:=by exact List.length_map _) (hm2:=by rw [Po.vals_some];omega) (hb:=by intro i;rw [Po.msome,Po.msome,Po.vals_some,Po.vals_some];have h1:=hv5 i;have h2:=hv6 i;omega)) (.c (j:=1) rfl (.c (j:=0) rfl .n)) ?_
      rintro ⟨p938,c939⟩ -
      dsimp only [aq,nq,cq]
      refine zK rfl rfl (.c rfl (.c rfl .n)) ce12 (zqb (p1:=p928) (n1:=(Po.der (Po.vals ((M9).map some))).length) (c1:=c929) (l1:=(Po.der (Po.vals ((M9).map some)))) (p2:=p938) (n2:=(Po.add (Po.vals ((Po.mul (Po.vals ((Po.der (Po.vals l1)).map some)) (Po.vals l2)).map some)) (Po.vals ((Po.mul (Po.vals l1) (Po.vals ((Po.der (Po.vals l2)).map some))).map some))).length) (c2:=c939) (l2:=(Po.add (Po.vals ((Po.mul (Po.vals ((Po.der (Po.vals l1)).map some)) (Po.vals l2)).map some)) (Po.vals ((Po.mul (Po.vals l1) (Po.vals ((Po.der (Po.vals l2)).map some))).map some)))) (hn1:=by rfl) (hm1:=by rw [Po.vals_some];omega) (hn2:=by rfl) (hm2:=by rw [Po.vals_some,Po.vals_some,Po.vals_some,Po.vals_some];omega) (hb1:=by rw [Po.vals_some];exact Po.bd_mono hvD dd) (hb2:=by rw [Po.vals_some,Po.vals_some,Po.vals_some,Po.vals_some];exact Po.bd_mono hv7 dd)) (.c (j:=9) rfl (.c (j:=0) rfl .n)) ?_
      rw [show (decide ((Po.der (Po.vals ((M9).map some)))=(Po.add (Po.vals ((Po.mul (Po.vals ((Po.der (Po.vals l1)).map some)) (Po.vals l2)).map some)) (Po.vals ((Po.mul (Po.vals l1) (Po.vals ((Po.der (Po.vals l2)).map some))).map some)))))=true from by exact decide_eq_true (by rw [Po.vals_some,Po.vals_some,Po.vals_some,Po.vals_some,Po.vals_some,hM9];exact Po.der_mul _ _)]
      refine e_p (zb rfl)<|zf<|zc<|zE ?_
      exact zx Tryz.results4 () trivial (zo rfl) rfl (ho:=(.n:PickO _ _ _)) (.n:SelR _ _ _)
   refine zya (X:=Wd×Wd×Wd×Wd×Nat×Nat) (k':=1) (L':=(lb 10 511)) (fun (u2_1,u2_2,u5_1,u5_2,u6_1,u7_1)=>([(10,.pointer (some ⟨u7_1,0,none⟩)),(9,.pointer (some ⟨u6_1,0,none⟩)),(37,.agg (cw [u5_1,u5_2]).toArray),(8,.slice p96 ((M9).length) c97),(7,.slice p94 ((S9).length) c95),(6,.bool false),(5,.pointer (some ⟨b1,0,none⟩)),(0,.slice p1 n1 c1),(1,.slice p2 n2 c2)],[boxA u6_1 28 (cw [u2_1,u2_2]),boxA u7_1 28 (cw [wz,wz])],[boxA b1 28 (cw [u1,v1])],[qF true u5_1 u5_2 (Po.ev (x1.getD 0) (Po.vals l2)),qF true u2_1 u2_2 (Po.ev (x1.getD 0) (Po.vals l1)),slF rQ p96 c97 M9,slF rQ p94 c95 S9,slF rE p1 c1 l1,slF rE p2 c2 l2,eF u1 v1 x1])) ?_ (fun hD1=> ?_)
   ·
    rintro ⟨u2_1,u2_2,u5_1,u5_2,u6_1,u7_1⟩
    dsimp only [cw]
    refine zBb 9 kr ?_
    ·
     refine zGe (zS (i:=1) rfl)<|zv kr rfl rfl rfl rfl rfl sz28 rfl (.t4 .nil) ?_
     exact zba (hD0 (u2_1,u2_2,u5_1,u5_2,u6_1,u7_1)) kr ((.of rfl):SubM _ _) .rfl .rfl ((.of [0,1,2,3,4,5,6] rfl):SelR _ _ _)
   refine zya (X:=Wd×Wd×Wd×Wd×Nat×Nat) (k':=2) (L':=(lb 10 255)) (fun (u2_1,u2_2,u5_1,u5_2,u6_1,u7_1)=>([(10,.pointer (some ⟨u7_1,0,none⟩)),(9,.pointer (some ⟨u6_1,0,none⟩)),(37,.agg (cw [u5_1,u5_2]).toArray),(34,.agg (cw [u2_1,u2_2]).toArray),(8,.slice p96 ((M9).length) c97),(7,.slice p94 ((S9).length) c95),(6,.bool false),(5,.pointer (some ⟨b1,0,none⟩)),(0,.slice p1 n1 c1),(1,.slice p2 n2 c2)],[boxA u7_1 28 (cw [wz,wz]),boxA u6_1 28 (cw [wz,wz])],[boxA b1 28 (cw [u1,v1])],[qF true u5_1 u5_2 (Po.ev (x1.getD 0) (Po.vals l2)),qF true u2_1 u2_2 (Po.ev (x1.getD 0) (Po.vals l1)),slF rQ p96 c97 M9,slF rQ p94 c95 S9,slF rE p1 c1 l1,slF rE p2 c2 l2,eF u1 v1 x1])) ?_ (fun hD2=> ?_)
   ·
    rintro ⟨u2_1,u2_2,u5_1,u5_2,u6_1,u7_1⟩
    dsimp only [cw]
    refine zBb 8 kr ?_
    ·
     refine zGe (zS (i:=1) rfl)<|zv kr rfl rfl rfl rfl rfl sz28 rfl (.t4 .nil) ?_
     exact zba (hD1 (u2_1,u2_2,u5_1,u5_2,u6_1,u7_1)) kr ((.of rfl):SubM _ _) .rfl .rfl ((.of [0,1,2,3,4,5,6] rfl):SelR _ _ _)
   refine zya (X:=Wd×Wd×Wd×Wd×Nat) (k':=3) (L':=(lb 10 127)) (fun (u2_1,u2_2,u5_1,u5_2,u6_1)=>([(9,.pointer (some ⟨u6_1,0,none⟩)),(37,.agg (cw [u5_1,u5_2]).toArray),(34,.agg (cw [u2_1,u2_2]).toArray),(8,.slice p96 ((M9).length) c97),(7,.slice p94 ((S9).length) c95),(6,.bool false),(5,.pointer (some ⟨b1,0,none⟩)),(0,.slice p1 n1 c1),(1,.slice p2 n2 c2)],[boxA u6_1 28 (cw [wz,wz])],[boxA b1 28 (cw [u1,v1])],[qF true u5_1 u5_2 (Po.ev (x1.getD 0) (Po.vals l2)),qF true u2_1 u2_2 (Po.ev (x1.getD 0) (Po.vals l1)),slF rQ p96 c97 M9,slF rQ p94 c95 S9,slF rE p1 c1 l1,slF rE p2 c2 l2,eF u1 v1 x1])) ?_ (fun hD3=> ?_)
   ·
    rintro ⟨u2_1,u2_2,u5_1,u5_2,u6_1⟩
    dsimp only [cw]
    refine zBb 7 kr ?_
    ·
     refine zOa rfl rfl rfl rfl (zu zr28 rfl) (fun u7_1 _=> ?_)
     exact zba (hD2 (u2_1,u2_2,u5_1,u5_2,u6_1,u7_1)) kr ((.of rfl):SubM _ _) .rfl .rfl ((.of [0,1,2,3,4,5,6] rfl):SelR _ _ _)
   refine zya (X:=Wd×Wd×Wd×Wd×Nat) (k':=3) (L':=(lb 10 191)) (fun (u2_1,u2_2,u5_1,u5_2,u7_1)=>([(10,.pointer (some ⟨u7_1,0,none⟩)),(37,.agg (cw [u5_1,u5_2]).toArray),(34,.agg (cw [u2_1,u2_2]).toArray),(8,.slice p96 ((M9).length) c97),(7,.slice p94 ((S9).length) c95),(6,.bool false),(5,.pointer (some ⟨b1,0,none⟩)),(0,.slice p1 n1 c1),(1,.slice p2 n2 c2)],[boxA u7_1 28 (cw [wz,wz])],[boxA b1 28 (cw [u1,v1])],[qF true u5_1 u5_2 (Po.ev (x1.getD 0) (Po.vals l2)),qF true u2_1 u2_2 (Po.ev (x1.getD 0) (Po.vals l1)),slF rQ p96 c97 M9,slF rQ p94 c95 S9,slF rE p1 c1 l1,slF rE p2 c2 l2,eF u1 v1 x1])) ?_ (fun hD4=> ?_)
   ·
    rintro ⟨u2_1,u2_2,u5_1,u5_2,u7_1⟩
    dsimp only [cw]
    refine zBb 6 kr ?_
    ·
     refine zOa rfl rfl rfl rfl (zu zr28 rfl) (fun u6_1 _=> ?_)
     exact zba (hD2 (u2_1,u2_2,u5_1,u5_2,u6_1,u7_1)) kr ((.of rfl):SubM _ _) (zLc 1 rfl (zLc 0 rfl .nil)) .rfl ((.of [0,1,2,3,4,5,6] rfl):SelR _ _ _)
   refine zya (X:=Wd×Wd×Nat×Nat) (k':=3) (L':=(lb 10 223)) (fun (u2_1,u2_2,u6_1,u7_1)=>([(10,.pointer (some ⟨u7_1,0,none⟩)),(9,.pointer (some ⟨u6_1,0,none⟩)),(34,.agg (cw [u2_1,u2_2]).toArray),(36,.agg (cw [u1,v1]).toArray),(35,.slice p2 n2 c2),(8,.slice p96 ((M9).length) c97),(7,.slice p94 ((S9).length) c95),(6,.bool false),(5,.pointer (some ⟨b1,0,none⟩)),(0,.slice p1 n1 c1),(1,.slice p2 n2 c2)],[boxA u7_1 28 (cw [wz,wz]),boxA u6_1 28 (cw [wz,wz])],[boxA b1 28 (cw [u1,v1])],[qF true u2_1 u2_2 (Po.ev (x1.getD 0) (Po.vals l1)),slF rQ p96 c97 M9,slF rQ p94 c95 S9,slF rE p1 c1 l1,slF rE p2 c2 l2,eF u1 v1 x1])) ?_ (fun hD5=> ?_)
   ·
    rintro ⟨u2_1,u2_2,u6_1,u7_1⟩
    dsimp only [cw]
    refine zBb 5 kr ?_
    ·
     refine zp rfl rfl rfl rfl (.c rfl (.c rfl .n)) ce21 (zHa (p1:=p2) (n1:=n2) (c1:=c2) (l1:=l2) (u1:=u1) (v1:=v1) (x1:=x1) (hn1:=ass) (hm1:=by first|omega|rfl|assumption|decide) (hx:=by exact Nat.le_trans hqx dd) (hb1:=by exact fun i=>Nat.le_trans (hb2 i) dd) (hs:=by exact fun i=>Nat.le_trans (Po.ev_drop_hq (N:=10) hqx hv2 om i) dd)) (.c (j:=4) rfl (.c (j:=5) rfl .n)) ?_
     rintro ⟨u5_1,u5_2⟩ -
     dsimp only [aq,nq,cq]
     exact zba (hD2 (u2_1,u2_2,u5_1,u5_2,u6_1,u7_1)) kr ((.of rfl):SubM _ _) .rfl .rfl ((.of [0,1,2,3,4,5,6] rfl):SelR _ _ _)
   refine zya (X:=Wd×Wd×Wd×Wd) (k':=4) (L':=(lb 10 63)) (fun (u2_1,u2_2,u5_1,u5_2)=>([(37,.agg (cw [u5_1,u5_2]).toArray),(34,.agg (cw [u2_1,u2_2]).toArray),(8,.slice p96 ((M9).length) c97),(7,.slice p94 ((S9).length) c95),(6,.bool false),(5,.pointer (some ⟨b1,0,none⟩)),(0,.slice p1 n1 c1),(1,.slice p2 n2 c2)],[],[boxA b1 28 (cw [u1,v1])],[qF true u5_1 u5_2 (Po.ev (x1.getD 0) (Po.vals l2)),qF true u2_1 u2_2 (Po.ev (x1.getD 0) (Po.vals l1)),slF rQ p96 c97 M9,slF rQ p94 c95 S9,slF rE p1 c1 l1,slF rE p2 c2 l2,eF u1 v1 x1])) ?_ (fun hD6=> ?_)
   ·
    rintro ⟨u2_1,u2_2,u5_1,u5_2⟩
    dsimp only [cw]
    refine zWc 6 7 kr ?_ ?_
    ·
     refine zOa rfl rfl rfl rfl (zu zr28 rfl) (fun u6_1 _=> ?_)
     exact zba (hD3 (u2_1,u2_2,u5_1,u5_2,u6_1)) kr ((.of rfl):SubM _ _) .rfl .rfl ((.of [0,1,2,3,4,5,6] rfl):SelR _ _ _)
    ·
     refine zOa rfl rfl rfl rfl (zu zr28 rfl) (fun u7_1 _=> ?_)
     exact zba (hD4 (u2_1,u2_2,u5_1,u5_2,u7_1)) kr ((.of rfl):SubM _ _) .rfl .rfl ((.of [0,1,2,3,4,5,6] rfl):SelR _ _ _)
   refine zya (X:=Wd×Wd×Nat) (k':=4) (L':=(lb 10 95)) (fun (u2_1,u2_2,u6_1)=>([(9,.pointer (some ⟨u6_1,0,none⟩)),(34,.agg (cw [u2_1,u2_2]).toArray),(36,.agg (cw [u1,v1]).toArray),(35,.slice p2 n2 c2),(8,.slice p96 ((M9).length) c97),(7,.slice p94 ((S9).length) c95),(6,.bool false),(5,.pointer (some ⟨b1,0,none⟩)),(0,.slice p1 n1 c1),(1,.slice p2 n2 c2)],[boxA u6_1 28 (cw [wz,wz])],[boxA b1 28 (cw [u1,v1])],[qF true u2_1 u2_2 (Po.ev (x1.getD 0) (Po.vals l1)),slF rQ p96 c97 M9,slF rQ p94 c95 S9,slF rE p1 c1 l1,slF rE p2 c2 l2,eF u1 v1 x1])) ?_ (fun hD7=> ?_)
   ·
    rintro ⟨u2_1,u2_2,u6_1⟩
    dsimp only [cw]
    refine zWc 5 7 kr ?_ ?_
    ·
     refine zp rfl rfl rfl rfl (.c rfl (.c rfl .n)) ce21 (zHa (p1:=p2) (n1:=n2) (c1:=c2) (l1:=l2) (u1:=u1) (v1:=v1) (x1:=x1) (hn1:=ass) (hm1:=by first|omega|rfl|assumption|decide) (hx:=by exact Nat.le_trans hqx dd) (hb1:=by exact fun i=>Nat.le_trans (hb2 i) dd) (hs:=by exact fun i=>Nat.le_trans (Po.ev_drop_hq (N:=10) hqx hv2 om i) dd)) (.c (j:=4) rfl (.c (j:=5) rfl .n)) ?_
     rintro ⟨u5_1,u5_2⟩ -
     dsimp only [aq,nq,cq]
     exact zba (hD3 (u2_1,u2_2,u5_1,u5_2,u6_1)) kr ((.of rfl):SubM _ _) .rfl .rfl ((.of [0,1,2,3,4,5,6] rfl):SelR _ _ _)
    ·
     refine zOa rfl rfl rfl rfl (zu zr28 rfl) (fun u7_1 _=> ?_)
     exact zba (hD5 (u2_1,u2_2,u6_1,u7_1)) kr ((.of rfl):SubM _ _) .rfl .rfl ((.of [0,1,2,3,4,5] rfl):SelR _ _ _)
   refine zya (X:=Wd×Wd×Nat) (k':=4) (L':=(lb 10 159)) (fun (u2_1,u2_2,u7_1)=>([(10,.pointer (some ⟨u7_1,0,none⟩)),(34,.agg (cw [u2_1,u2_2]).toArray),(36,.agg (cw [u1,v1]).toArray),(35,.slice p2 n2 c2),(8,.slice p96 ((M9).length) c97),(7,.slice p94 ((S9).length) c95),(6,.bool false),(5,.pointer (some ⟨b1,0,none⟩)),(0,.slice p1 n1 c1),(1,.slice p2 n2 c2)],[boxA u7_1 28 (cw [wz,wz])],[boxA b1 28 (cw [u1,v1])],[qF true u2_1 u2_2 (Po.ev (x1.getD 0) (Po.vals l1)),slF rQ p96 c97 M9,slF rQ p94 c95 S9,slF rE p1 c1 l1,slF rE p2 c2 l2,eF u1 v1 x1])) ?_ (fun hD8=> ?_)
   ·
    rintro ⟨u2_1,u2_2,u7_1⟩
    dsimp only [cw]
    refine zWc 5 6 kr ?_ ?_
    ·
     refine zp rfl rfl rfl rfl (.c rfl (.c rfl .n)) ce21 (zHa (p1:=p2) (n1:=n2) (c1:=c2) (l1:=l2) (u1:=u1) (v1:=v1) (x1:=x1) (hn1:=ass) (hm1:=by first|omega|rfl|assumption|decide) (hx:=by exact Nat.le_trans hqx dd) (hb1:=by exact fun i=>Nat.le_trans (hb2 i) dd) (hs:=by exact fun i=>Nat.le_trans (Po.ev_drop_hq (N:=10) hqx hv2 om i) dd)) (.c (j:=4) rfl (.c (j:=5) rfl .n)) ?_
     rintro ⟨u5_1,u5_2⟩ -
     dsimp only [aq,nq,cq]
     exact zba (hD4 (u2_1,u2_2,u5_1,u5_2,u7_1)) kr ((.of rfl):SubM _ _) .rfl .rfl ((.of [0,1,2,3,4,5,6] rfl):SelR _ _ _)
    ·
     refine zOa rfl rfl rfl rfl (zu zr28 rfl) (fun u6_1 _=> ?_)
     exact zba (hD5 (u2_1,u2_2,u6_1,u7_1)) kr ((.of rfl):SubM _ _) (zLc 1 rfl (zLc 0 rfl .nil)) .rfl ((.of [0,1,2,3,4,5] rfl):SelR _ _ _)
   refine zya (X:=Nat×Nat) (k':=4) (L':=(lb 10 219)) (fun (u6_1,u7_1)=>([(10,.pointer (some ⟨u7_1,0,none⟩)),(9,.pointer (some ⟨u6_1,0,none⟩)),(36,.agg (cw [u1,v1]).toArray),(35,.slice p2 n2 c2),(33,.agg (cw [u1,v1]).toArray),(32,.slice p1 n1 c1),(8,.slice p96 ((M9).length) c97),(7,.slice p94 ((S9).length) c95),(6,.bool false),(5,.pointer (some ⟨b1,0,none⟩)),(0,.slice p1 n1 c1),(1,.slice p2 n2 c2)],[boxA u7_1 28 (cw [wz,wz]),boxA u6_1 28 (cw [wz,wz])],[boxA b1 28 (cw [u1,v1])],[slF rQ p96 c97 M9,slF rQ p94 c95 S9,slF rE p1 c1 l1,slF rE p2 c2 l2,eF u1 v1 x1])) ?_ (fun hD9=> ?_)
   ·
    rintro ⟨u6_1,u7_1⟩
    dsimp only [cw]
    refine zBb 2 kr ?_
    ·
     refine zp rfl rfl rfl rfl (.c rfl (.c rfl .n)) ce21 (zHa (p1:=p1) (n1:=n1) (c1:=c1) (l1:=l1) (u1:=u1) (v1:=v1) (x1:=x1) (hn1:=ass) (hm1:=by first|omega|rfl|assumption|decide) (hx:=by exact Nat.le_trans hqx dd) (hb1:=by exact fun i=>Nat.le_trans (hb1 i) dd) (hs:=by exact fun i=>Nat.le_trans (Po.ev_drop_hq (N:=10) hqx hv1 om i) dd)) (.c (j:=2) rfl (.c (j:=4) rfl .n)) ?_
     rintro ⟨u2_1,u2_2⟩ -
     dsimp only [aq,nq,cq]
     exact zba (hD5 (u2_1,u2_2,u6_1,u7_1)) kr ((.of rfl):SubM _ _) .rfl .rfl ((.of [0,1,2,3,4,5] rfl):SelR _ _ _)
   refine zya (X:=Wd×Wd) (k':=5) (L':=(lb 10 31)) (fun (u2_1,u2_2)=>([(34,.agg (cw [u2_1,u2_2]).toArray),(36,.agg (cw [u1,v1]).toArray),(35,.slice p2 n2 c2),(8,.slice p96 ((M9).length) c97),(7,.slice p94 ((S9).length) c95),(6,.bool false),(5,.pointer (some ⟨b1,0,none⟩)),(0,.slice p1 n1 c1),(1,.slice p2 n2 c2)],[],[boxA b1 28 (cw [u1,v1])],[qF true u2_1 u2_2 (Po.ev (x1.getD 0) (Po.vals l1)),slF rQ p96 c97 M9,slF rQ p94 c95 S9,slF rE p1 c1 l1,slF rE p2 c2 l2,eF u1 v1 x1])) ?_ (fun hD10=> ?_)
   ·
    rintro ⟨u2_1,u2_2⟩
    dsimp only [cw]
    refine zCe 5 6 7 kr ?_ ?_ ?_
    ·
     refine zp rfl rfl rfl rfl (.c rfl (.c rfl .n)) ce21 (zHa (p1:=p2) (n1:=n2) (c1:=c2) (l1:=l2) (u1:=u1) (v1:=v1) (x1:=x1) (hn1:=ass) (hm1:=by first|omega|rfl|assumption|decide) (hx:=by exact Nat.le_trans hqx dd) (hb1:=by exact fun i=>Nat.le_trans (hb2 i) dd) (hs:=by exact fun i=>Nat.le_trans (Po.ev_drop_hq (N:=10) hqx hv2 om i) dd)) (.c (j:=4) rfl (.c (j:=5) rfl .n)) ?_
     rintro ⟨u5_1,u5_2⟩ -
     dsimp only [aq,nq,cq]
     exact zba (hD6 (u2_1,u2_2,u5_1,u5_2)) kr ((.of rfl):SubM _ _) .rfl .rfl ((.of [0,1,2,3,4,5,6] rfl):SelR _ _ _)
    ·
     refine zOa rfl rfl rfl rfl (zu zr28 rfl) (fun u6_1 _=> ?_)
     exact zba (hD7 (u2_1,u2_2,u6_1)) kr ((.of rfl):SubM _ _) .rfl .rfl ((.of [0,1,2,3,4,5] rfl):SelR _ _ _)
    ·
     refine zOa rfl rfl rfl rfl (zu zr28 rfl) (fun u7_1 _=> ?_)
     exact zba (hD8 (u2_1,u2_2,u7_1)) kr ((.of rfl):SubM _ _) .rfl .rfl ((.of [0,1,2,3,4,5] rfl):SelR _ _ _)
   refine zya (X:=Nat) (k':=5) (L':=(lb 10 91)) (fun u6_1=>([(9,.pointer (some ⟨u6_1,0,none⟩)),(36,.agg (cw [u1,v1]).toArray),(35,.slice p2 n2 c2),(33,.agg (cw [u1,v1]).toArray),(32,.slice p1 n1 c1),(8,.slice p96 ((M9).length) c97),(7,.slice p94 ((S9).length) c95),(6,.bool false),(5,.pointer (some ⟨b1,0,none⟩)),(0,.slice p1 n1 c1),(1,.slice p2 n2 c2)],[boxA u6_1 28 (cw [wz,wz])],[boxA b1 28 (cw [u1,v1])],[slF rQ p96 c97 M9,slF rQ p94 c95 S9,slF rE p1 c1 l1,slF rE p2 c2 l2,eF u1 v1 x1])) ?_ (fun hD11=> ?_)
   ·
    rintro u6_1
    dsimp only [cw]
    refine zWc 2 7 kr ?_ ?_
    ·
     refine zp rfl rfl rfl rfl (.c rfl (.c rfl .n)) ce21 (zHa (p1:=p1) (n1:=n1) (c1:=c1) (l1:=l1) (u1:=u1) (v1:=v1) (x1:=x1) (hn1:=ass) (hm1:=by first|omega|rfl|assumption|decide) (hx:=by exact Nat.le_trans hqx dd) (hb1:=by exact fun i=>Nat.le_trans (hb1 i) dd) (hs:=by exact fun i=>Nat.le_trans (Po.ev_drop_hq (N:=10) hqx hv1 om i) dd)) (.c (j:=2) rfl (.c (j:=4) rfl .n)) ?_
     rintro ⟨u2_1,u2_2⟩ -
     dsimp only [aq,nq,cq]
     exact zba (hD7 (u2_1,u2_2,u6_1)) kr ((.of rfl):SubM _ _) .rfl .rfl ((.of [0,1,2,3,4,5] rfl):SelR _ _ _)
    ·
     refine zOa rfl rfl rfl rfl (zu zr28 rfl) (fun u7_1 _=> ?_)
     exact zba (hD9 (u6_1,u7_1)) kr ((.of rfl):SubM _ _) .rfl .rfl ((.of [0,1,2,3,4] rfl):SelR _ _ _)
   refine zya (X:=Nat) (k':=5) (L':=(lb 10 155)) (fun u7_1=>([(10,.pointer (some ⟨u7_1,0,none⟩)),(36,.agg (cw [u1,v1]).toArray),(35,.slice p2 n2 c2),(33,.agg (cw [u1,v1]).toArray),(32,.slice p1 n1 c1),(8,.slice p96 ((M9).length) c97),(7,.slice p94 ((S9).length) c95),(6,.bool false),(5,.pointer (some ⟨b1,0,none⟩)),(0,.slice p1 n1 c1),(1,.slice p2 n2 c2)],[boxA u7_1 28 (cw [wz,wz])],[boxA b1 28 (cw [u1,v1])],[slF rQ p96 c97 M9,slF rQ p94 c95 S9,slF rE p1 c1 l1,slF rE p2 c2 l2,eF u1 v1 x1])) ?_ (fun hD12=> ?_)
   ·
    rintro u7_1
    dsimp only [cw]
    refine zWc 2 6 kr ?_ ?_
    ·
     refine zp rfl rfl rfl rfl (.c rfl (.c rfl .n)) ce21 (zHa (p1:=p1) (n1:=n1) (c1:=c1) (l1:=l1) (u1:=u1) (v1:=v1) (x1:=x1) (hn1:=ass) (hm1:=by first|omega|rfl|assumption|decide) (hx:=by exact Nat.le_trans hqx dd) (hb1:=by exact fun i=>Nat.le_trans (hb1 i) dd) (hs:=by exact fun i=>Nat.le_trans (Po.ev_drop_hq (N:=10) hqx hv1 om i) dd)) (.c (j:=2) rfl (.c (j:=4) rfl .n)) ?_
     rintro ⟨u2_1,u2_2⟩ -
     dsimp only [aq,nq,cq]
     exact zba (hD8 (u2_1,u2_2,u7_1)) kr ((.of rfl):SubM _ _) .rfl .rfl ((.of [0,1,2,3,4,5] rfl):SelR _ _ _)
    ·
     refine zOa rfl rfl rfl rfl (zu zr28 rfl) (fun u6_1 _=> ?_)
     exact zba (hD9 (u6_1,u7_1)) kr ((.of rfl):SubM _ _) (zLc 1 rfl (zLc 0 rfl .nil)) .rfl ((.of [0,1,2,3,4] rfl):SelR _ _ _)
   refine zCe 2 6 7 kr ?_ ?_ ?_
   ·
    refine zp rfl rfl rfl rfl (.c rfl (.c rfl .n)) ce21 (zHa (p1:=p1) (n1:=n1) (c1:=c1) (l1:=l1) (u1:=u1) (v1:=v1) (x1:=x1) (hn1:=ass) (hm1:=by first|omega|rfl|assumption|decide) (hx:=by exact Nat.le_trans hqx dd) (hb1:=by exact fun i=>Nat.le_trans (hb1 i) dd) (hs:=by exact fun i=>Nat.le_trans (Po.ev_drop_hq (N:=10) hqx hv1 om i) dd)) (.c (j:=2) rfl (.c (j:=4) rfl .n)) ?_
    rintro ⟨u2_1,u2_2⟩ -
    dsimp only [aq,nq,cq]
    exact zba (hD10 (u2_1,u2_2)) kr ((.of rfl):SubM _ _) .rfl .rfl ((.of [0,1,2,3,4,5] rfl):SelR _ _ _)
   ·
    refine zOa rfl rfl rfl rfl (zu zr28 rfl) (fun u6_1 _=> ?_)
    exact zba (hD11 u6_1) kr ((.of rfl):SubM _ _) .rfl .rfl ((.of [0,1,2,3,4] rfl):SelR _ _ _)
   ·
    refine zOa rfl rfl rfl rfl (zu zr28 rfl) (fun u7_1 _=> ?_)
    exact zba (hD12 u7_1) kr ((.of rfl):SubM _ _) .rfl .rfl ((.of [0,1,2,3,4] rfl):SelR _ _ _)
end Go.Proofs.YtbiaimgafknkmaaGreat.Sp
namespace Go.Proofs.YtbiaimgafknkmaaGreat.Sp
open Go
set_option linter.unusedVariables false
def rRaw:Rp ((Bool×List Int)×(Bool×List Int)):=rP (rP rB (rS (rI .u32))) (rP rB (rS (rI .u32)))
theorem eF_of {g:Hp} {s t:Bool} {p1 p2:Option Addr} {c1 c2:Nat} {la lb:List Int} (ha:Sl (rI .u32) g p1 c1 la) (hb:Sl (rI .u32) g p2 c2 lb) (k1:la.length≤1099511627776) (k2:lb.length≤1099511627776):
    (eF ⟨s,p1,la.length,c1⟩ ⟨t,p2,lb.length,c2⟩ (qo ((s,la),(t,lb)))).on g:=⟨((s,la),(t,lb)),⟨rfl,rfl,k1,ha⟩,⟨rfl,rfl,k2,hb⟩,rfl⟩
theorem sl_raw {g:Hp} {p:Option Addr} {c:Nat} {l:List ((Bool×List Int)×(Bool×List Int))} (k:Sl rRaw g p c l) (hb:∀x,x∈l→x.1.2.length≤1099511627776∧x.2.2.length≤1099511627776):Sl rE g p c (l.map qo):=by
  refine ⟨by rw [List.length_map];exact k.1,k.2.1,k.2.2.1,fun i x e=> ?_⟩
  rw [List.getElem?_map] at e
  obtain ⟨x0,e0,rfl⟩:=Option.map_eq_some_iff.1 e
  obtain ⟨b,off,⟨⟨γ1,p1,c1⟩,⟨γ2,p2,c2⟩⟩,e1,e2,e3⟩:=k.2.2.2 i x0 e0
  obtain ⟨h1,h2⟩:=hb x0 (List.mem_of_getElem? e0)
  exact ⟨b,off,(⟨x0.1.1,p1,x0.1.2.length,c1⟩,⟨x0.2.1,p2,x0.2.2.length,c2⟩),e1,e2,eF_of e3.1.2 e3.2.2 h1 h2⟩
theorem mz_raw1 {x:(Bool×List Int)×(Bool×List Int)} {n:Nat} (h:(fun z:(Bool×List Int)×(Bool×List Int)=>(fun z:Bool×List Int=>(fun _:Bool=>1) z.1+mzL (fun _:Int=>1) z.2) z.1+(fun z:Bool×List Int=>(fun _:Bool=>1) z.1+mzL (fun _:Int=>1) z.2) z.2) x≤n):x.1.2.length≤n∧x.2.2.length≤n:=by
  have q1:=mzL_len (mz:=fun _:Int=>1) (l:=x.1.2) (fun _=>Nat.le_refl 1)
  have q2:=mzL_len (mz:=fun _:Int=>1) (l:=x.2.2) (fun _=>Nat.le_refl 1)
  simp only at h
  omega
theorem mz_raw {l:List ((Bool×List Int)×(Bool×List Int))} {n:Nat} (h:mzL (fun z:(Bool×List Int)×(Bool×List Int)=>(fun z:Bool×List Int=>(fun _:Bool=>1) z.1+mzL (fun _:Int=>1) z.2) z.1+(fun z:Bool×List Int=>(fun _:Bool=>1) z.1+mzL (fun _:Int=>1) z.2) z.2) l≤n) (hn:n≤1099511627776):∀x,x∈l→x.1.2.length≤1099511627776∧x.2.2.length≤1099511627776:=fun x hx=>by
  have:=mzL_mem (mz:=fun z:(Bool×List Int)×(Bool×List Int)=>(fun z:Bool×List Int=>(fun _:Bool=>1) z.1+mzL (fun _:Int=>1) z.2) z.1+(fun z:Bool×List Int=>(fun _:Bool=>1) z.1+mzL (fun _:Int=>1) z.2) z.2) hx
  exact mz_raw1 (Nat.le_trans (Nat.le_of_succ_le (Nat.le_trans this h)) hn)
end Go.Proofs.YtbiaimgafknkmaaGreat.Sp
