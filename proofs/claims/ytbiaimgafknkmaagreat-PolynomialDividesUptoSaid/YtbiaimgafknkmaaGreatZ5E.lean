/- Lemmas on the walk and plain lemmas that the claim of this folder uses; each states its own conditions. Lines were printed by a program of ours. -/
import Derived.Test.YtbiaimgafknkmaaGreatZ5D
set_option linter.unusedVariables false
set_option linter.unusedSimpArgs false
set_option linter.unusedSectionVars false
open Go.Proofs.Tryz renaming underlying23 → ya, underlying55 → yb, underlying48 → yc, prog → yd, underlying76 → yf, underlying60 → yg, underlying28 → yh
open Go.Proofs.YtbiaimgafknkmaaGreat.Big renaming hq → ye, digs → yi, raw → yj
namespace Go.Proofs.YtbiaimgafknkmaaGreat.Sp
open Go
set_option linter.unusedVariables false
set_option maxRecDepth 100000
set_option maxHeartbeats 8000000
theorem zWc {p1:Option Addr} {n1:Nat} {c1:Nat} {l1:List (Option Rat)} (hn1:l1.length=n1) (hm1:n1≤190) (hok:Po.sok (Po.vals l1)):Con yd 67 [.slice p1 n1 c1] [] [slF rE p1 c1 l1] (Y:=(Option Addr)×Nat) (fun y=>True) (fun y=> .slice (y.1) ((Po.sturm (Po.vals l1)).length) (y.2)) (fun y=>[]) (fun y=>[slF (rS rQ) (y.1) (y.2) (Po.sturm (Po.vals l1))]):=by
 refine zl Tryz.func67 rfl rfl rfl (fun c=> ?_)
 show RunC _ _ _ _ _ [(0,.slice p1 n1 c1)] [] [slF rE p1 c1 l1]
 refine zQ 0 rfl (fun hL0=> ?_)
 refine ze<|za<|e_p (zb rfl)<|zf<|zc<|ze<|za<|e_mv rfl<|zj rfl rfl (.c rfl .n) ce102 (zHf (p1:=p1) (n1:=n1) (c1:=c1) (l1:=l1) (hn1:=ass) (hm1:=ass) (hok:=by exact hok.1)) (.c (j:=0) rfl .n) ?_
 rintro ⟨p91,c92⟩ -
 dsimp only [aq,nq,cq]
 refine e_p (zb rfl)<|zf<|zc<|ze<|ze ?_
 obtain ⟨A0,hA0⟩:∃z,z=(Po.sqf (Po.vals l1)):=⟨_,rfl⟩
 have e3:(Po.sqf (Po.vals l1):List Rat)=A0:=by exact hA0.symm
 rw [e3]
 have hAl:A0.length≤n1:=by rw [hA0,←hn1,←Po.vals_len l1];exact Po.sqf_len _
 have hAc:Po.cl A0=A0:=by rw [hA0];exact Po.sqf_cl _
 obtain ⟨hk1,hk2,hk3,hk4⟩:=hok
 rw [← hA0] at hk2 hk3 hk4
 have hAd:=Po.der_len A0
 refine za<|e_mv rfl<|e_p (zC ya rfl)<|e_p (zpa rfl rfl)<|zf<|zc<|zD rfl (fun h13=> ?_) (fun h13=> ?_)
 ·
  refine ze<|za<|e_p (zb rfl)<|zf<|zc<|zE<|zp<|zzb (rS rQ) ?_
  have hv9:(Po.sturm (Po.vals l1))=[]:=if_pos (by rw [← hA0];omega)
  exact zy Tryz.results67 (none,0) trivial (zo rfl) (by rw [hv9];rfl) (ho:=(.n:PickO _ _ _)) ((.e (j:=0) rfl (by rw [hv9]) .n):SelR _ _ _)
 ·
  refine zB<|zc<|ze<|za<|e_mv rfl<|zla rfl rfl (zld 0 rfl yf inf23 rfl (by first|rfl|assumption|(simp;done)|omega)) (fun b4 _=> ?_)
  refine e_p (zb rfl)<|zf<|zc<|ze<|ze<|za<|e_mv rfl<|zga (addQE 0 rfl)<|zj rfl rfl (.c rfl .n) ce25 (zIc (p1:=p91) (n1:=(A0).length) (c1:=c92) (l1:=((A0).map some)) (hn1:=by exact List.length_map _) (hm1:=by first|rfl|assumption|omega|decide) (hb1:=by intro i;rw [Po.msome];exact Nat.le_trans (hk2 i) dd)) (.c (j:=0) rfl .n) ?_
  rintro ⟨p95,c96⟩ -
  dsimp only [aq,nq,cq]
  refine e_p (zb rfl)<|zf<|zc<|zw ?_
  have e7:(Po.der (Po.vals ((A0).map some)):List Rat)=Po.der A0:=by rw [Po.vals_some]
  rw [e7]
  refine zea (X:=Nat×(List Rat)×(List Rat)×(Option Addr)×Nat×(Option Addr)×Nat×(Option Addr)×Nat×(List (List Rat))) (fun x:Nat×(List Rat)×(List Rat)×(Option Addr)×Nat×(Option Addr)×Nat×(Option Addr)×Nat×(List (List Rat))=>(x.2.1.length≤190∧x.2.2.1.length≤x.1∧x.1≤190∧x.2.2.2.2.2.2.2.2.2.length+x.1≤200)∧(Po.cl x.2.1=x.2.1∧Po.cl x.2.2.1=x.2.2.1)∧Po.stok x.1 x.2.1 x.2.2.1∧x.2.2.2.2.2.2.2.2.2++Po.st x.1 x.2.1 x.2.2.1=(Po.sturm (Po.vals l1))) (fun x=>[(4,.slice (x.2.2.2.2.2.2.2.1) (x.2.2.2.2.2.2.2.2.2.length) (x.2.2.2.2.2.2.2.2.1)),(5,.slice (x.2.2.2.2.2.1) (x.2.2.1.length) (x.2.2.2.2.2.2.1)),(3,.slice (x.2.2.2.1) (x.2.1.length) (x.2.2.2.2.1)),(2,.slice none 0 0)]) (fun x=>[rowA 23 (rS rQ) (x.2.2.2.2.2.2.2.1) (x.2.2.2.2.2.2.2.2.1) (x.2.2.2.2.2.2.2.2.2)]) (fun x=>[slF rQ (x.2.2.2.1) (x.2.2.2.2.1) (x.2.1),slF rQ (x.2.2.2.2.2.1) (x.2.2.2.2.2.2.1) (x.2.2.1),slF rQ p95 c96 (Po.der A0),slF rE p91 c92 ((A0).map some),slF rQ p91 c92 A0,slF rE p1 c1 l1]) (fun x:Nat×(List Rat)×(List Rat)×(Option Addr)×Nat×(Option Addr)×Nat×(Option Addr)×Nat×(List (List Rat))=>x.2.2.1.length) (A0.length,A0,(Po.der A0),p91,c92,p95,c96,some ⟨b4,0,none⟩,1,[A0]) (show (A0.length≤190∧(Po.der A0).length≤A0.length∧A0.length≤190∧([A0]).length+A0.length≤200)∧(Po.cl A0=A0∧Po.cl (Po.der A0)=(Po.der A0))∧Po.stok A0.length A0 (Po.der A0)∧([A0])++Po.st A0.length A0 (Po.der A0)=(Po.sturm (Po.vals l1)) from by exact ⟨⟨by omega,by omega,by omega,by show 1+A0.length≤200;omega⟩,⟨hAc,Po.der_cl _⟩,hk4,by unfold Po.sturm;rw [← hA0,if_neg om];rfl⟩) ((.e rfl (by first|rfl|(congr 1;omega)|simp_all) (.c rfl (.e rfl (by first|rfl|(congr 1;omega)|simp_all) (.c rfl .n)))):SubM _ _) (ho:=((.e (i:=0) rfl (by first|rfl|(congr 1;omega)|simp_all) .n):PickO _ _ _)) ((.e (j:=2) rfl (by first|rfl|simp_all) (.of [0,0,1,2,3] rfl)):SelR _ _ _) ?_
  rintro ⟨f,a,b,pa,ca,pb,cb,pR,cR,A⟩ hI
  replace hI:(a.length≤190∧b.length≤f∧f≤190∧A.length+f≤200)∧(Po.cl a=a∧Po.cl b=b)∧Po.stok f a b∧A++Po.st f a b=(Po.sturm (Po.vals l1)):=hI
  try dsimp only
  obtain ⟨⟨hal,hbf,hf,hAf⟩,⟨hca,hcb⟩,hsk,hst⟩:=hI
  refine ze<|ze<|za<|e_mv rfl<|e_p (zC ya rfl)<|e_p (zza rfl rfl)<|zf<|zc<|zD rfl (fun h20=> ?_) (fun h20=> ?_)
  ·
   have hg:=Po.stok_yes hsk (show b.length≠0 by omega) om
   have hrl:=(Po.dqr_len a b).2
   refine zB<|zc<|zw<|ze<|za<|e_mv rfl<|e_mv rfl<|zla rfl rfl (zld 1 rfl yf inf23 rfl (by first|rfl|assumption|(simp;done)|omega)) (fun b8 _=> ?_)
   refine zS 0 rfl .z<|zva 1 rfl rfl rfl (zfa 0 rfl yf inf23 dd rfl rfl (by first|rfl|assumption|(simp;done)|omega) rfl (by first|rfl|assumption|(simp;done)|omega) om om) (fun _=>(.s .z)) ?_
   rintro ⟨p9,c10⟩ -
   dsimp only [aq,nq,cq]
   refine e_p (zb rfl)<|zf<|zc<|ze<|za<|e_mv rfl<|e_mv rfl<|zga (addQE 1 rfl)<|zga (addQE 3 rfl)<|zj rfl rfl (.c rfl (.c rfl .n)) ce26 (zib (p1:=pa) (n1:=a.length) (c1:=ca) (l1:=(a.map some)) (p2:=pb) (n2:=b.length) (c2:=cb) (l2:=(b.map some)) (hn1:=by exact List.length_map _) (hm1:=by first|rfl|assumption|omega|decide) (hn2:=by exact List.length_map _) (hm2:=by first|rfl|assumption|omega|decide) (hm12:=by first|rfl|assumption|omega|decide) (hb2:=by rw [Po.vals_some];exact hg.2.1.1) (hok:=by rw [Po.vals_some,Po.vals_some];exact hg.2.1.2)) (.c (j:=1) rfl (.c (j:=0) rfl .n)) ?_
   rintro ⟨p811,c812,p913,c914⟩ -
   dsimp only [aq,nq,cq]
   refine e_mv rfl<|e_p (zm rfl rfl)<|e_p (zm rfl rfl)<|e_p (zm rfl rfl)<|e_p (zb rfl)<|e_p (zb rfl)<|e_p (zb rfl)<|zf<|zc ?_
   have e15:(Po.dr (Po.vals (a.map some)) (Po.vals (b.map some)):List Rat)=Po.dr a b:=by rw [Po.vals_some,Po.vals_some]
   rw [e15]
   refine za<|e_mv rfl<|e_mv rfl<|zj rfl rfl (.c rfl .n) ce59 (zhb (z:=(-1)) (hz:=by first|rfl|assumption|omega|decide)) (.n) ?_
   rintro ⟨w316,w417⟩ -
   dsimp only [aq,nq,cq]
   refine zga (addQe 0 rfl)<|zga (addQE 3 rfl)<|zj rfl rfl (.c rfl (.c rfl .n)) ce19 (zVc (p1:=p913) (n1:=(Po.dr a b).length) (c1:=c914) (l1:=((Po.dr a b).map some)) (u1:=w316) (v1:=w417) (x1:=(some (((-1):Int):Rat))) (hn1:=by exact List.length_map _) (hm1:=by first|rfl|assumption|omega|decide) (hm9:=by first|rfl|assumption|omega|decide) (hb1:=by rw [Po.vals_some];exact fun i=>Nat.le_trans (hg.2.2.1 i) dd) (hb2:=by exact Po.bd_mono (Po.bd_one (x:=((-1:Int):Rat)) (L:=1) dd) dd) (hs:=by rw [Po.vals_some];intro k lo n h;exact Nat.le_trans (Po.cv_one_hq (L:=1) (Po.bd_cl hg.2.2.1) dd k lo n h) dd)) (.c (j:=0) rfl (.c (j:=1) rfl .n)) ?_
   rintro ⟨p918,c919⟩ -
   dsimp only [aq,nq,cq]
   refine e_p (zb rfl)<|e_p (zb rfl)<|zf<|zJ ?_
   have e20:(Po.mul (Po.vals ((Po.dr a b).map some)) (Po.vals [(some (((-1):Int):Rat))]):List Rat)=Po.mul (Po.dr a b) [((-1:Int):Rat)]:=by rw [Po.vals_some];rfl
   rw [e20]
   refine zX ((f - 1),b,(Po.mul (Po.dr a b) [((-1:Int):Rat)]),pb,cb,p918,c919,p9,c10,(A++([b]))) (show (b.length≤190∧(Po.mul (Po.dr a b) [((-1:Int):Rat)]).length≤(f - 1)∧(f - 1)≤190∧(A++([b])).length+(f - 1)≤200)∧(Po.cl b=b∧Po.cl (Po.mul (Po.dr a b) [((-1:Int):Rat)])=(Po.mul (Po.dr a b) [((-1:Int):Rat)]))∧Po.stok (f - 1) b (Po.mul (Po.dr a b) [((-1:Int):Rat)])∧(A++([b]))++Po.st (f - 1) b (Po.mul (Po.dr a b) [((-1:Int):Rat)])=(Po.sturm (Po.vals l1)) from by have h9:=Po.sdr_len (a:=a) hcb (show b.length≠0 by omega) hbf;exact ⟨⟨by omega,h9,by omega,by rw [List.length_append];show A.length+1+(f - 1)≤200;omega⟩,⟨hcb,Po.mul_cl _ _⟩,hg.2.2.2,by rw [List.append_assoc,List.singleton_append,←Po.st_yes om hbf];exact hst⟩) (by have h9:=Po.sdr_len (n:=b.length) (a:=a) hcb (show b.length≠0 by omega) (Nat.le_refl _);(show (Po.mul (Po.dr a b) [((-1:Int):Rat)]).length<b.length;omega)) ((.e rfl (by simp) (.of rfl)):SubM _ _) (ho:=((.c (i:=1) rfl .n):PickO _ _ _)) ((.of [10,0,11,12,13,14] rfl):SelR _ _ _)
  ·
   refine zba<|zi<|zi<|zq<|zc<|ze<|za<|e_mv rfl<|e_p (zb rfl)<|zf<|zc<|zE<|zYa 0 rfl .z ?_
   have hv9:A=(Po.sturm (Po.vals l1)):=by rw [← hst,Po.st_nil om,List.append_nil]
   exact zy Tryz.results67 (pR,cR) trivial (zo rfl) (by rw [← hv9]) (ho:=(.n:PickO _ _ _)) ((.e (j:=0) rfl (by rw [← hv9]) .n):SelR _ _ _)
end Go.Proofs.YtbiaimgafknkmaaGreat.Sp
namespace Go.Proofs.YtbiaimgafknkmaaGreat.Po
open Go.Proofs.YtbiaimgafknkmaaGreat.Big
theorem mo_ne {l:List Rat} (hl:cl l=l) (h:l.length≠0):(mo l).length≠0:=fun e=>by
  have h':l≠[]:=fun k=>h (by rw [k];rfl)
  have h0:=lead_ne hl h'
  have g:(mo l).getD (l.length - 1) 0=lead l*(((1:Int):Rat) / lead l):=by
    unfold mo
    rw [if_neg h,mul_one_get];rfl
  rw [List.length_eq_zero_iff.1 e] at g
  have g':(0:Rat)=lead l*(((1:Int):Rat) / lead l):=g
  rw [Rat.mul_comm,Rat.div_mul_cancel h0] at g'
  exact absurd g' (by decide +kernel)
theorem ge_ne:∀(n:Nat) (p q:List Rat),p.length≠0→(ge n p q).length≠0
  |0,_,_,h=>h
  |n+1,p,q,h=>by
    unfold ge
    split
    · exact h
    · rename_i h1;exact ge_ne n q _ h1
theorem gcd_ne {p q:List Rat} (h:(cl p).length≠0):(gcd p q).length≠0:=ge_ne _ _ _ (mo_ne (cl_cl p) h)
theorem pow_le {N a b:Nat} (h:a≤b) (K:Nat):(K+1)*(N+1)^a≤(K+1)*(N+1)^b:=Nat.mul_le_mul_left _ (Nat.pow_le_pow_right (by omega) h)
theorem sok_of {p:List Rat} (hl:p.length≤5) (h:cb 20 p):sok p∧∀q,q∈sturm p→q.length≤10∧bd 7000000000 q:=by
  have hP:cb 20 (cl p):=cb_cl h
  have hPl:=cl_le_len p
  have hD:cb 23 (der (cl p)):=cb_der hP (by omega)
  have hDl:=der_len (cl p)
  have hDc:=der_cl (cl p)
  have hsq:sqok p∧cb 400000 (sqf p):=by
    by_cases h0:(cl p).length=0
    · have e : sqf p = [] := if_pos h0
      refine ⟨⟨bd_mono (cb_bd h) (by decide),bd_mono (cb_bd hD) (by decide),fun k=>absurd h0 k⟩,?_⟩
      rw [e];exact cb_mono (cb_of_bd (l:=[]) (k:=1) (fun i=>by rw [gD0 (Nat.zero_le _),hq_zero];decide)) (by decide)
    · have hn : (der (cl p)).length ≤ 4 := by omega
      have hpw:=pow_le (N:=6) hn 23
      have h6:(23+1)*(6+1)^4=57624:=by decide
      have hg:=gok_cb (N:=6) (by decide) (der (cl p)).length 23 (mo (cl p)) (mo (der (cl p))) (mo_cl _) (mo_cl _) (cb_mo (cl_cl p) (cb_mono hP (by decide))) (cb_mo hDc hD) (by have:=mo_len (cl p);omega) (by have:=mo_len (der (cl p));omega) (by omega)
      have hG:cb 57624 (gcd (cl p) (der (cl p))):=by
        unfold gcd
        rw [cl_cl,hDc]
        exact cb_mono hg.2 (by omega)
      have hGn:(gcd (cl p) (der (cl p))).length≠0:=gcd_ne (by rw [cl_cl];exact h0)
      have hdiv:=(div_cb (N:=6) (cl_cl p) (gcd_cl _ _) hGn hP hG (by omega)).1
      refine ⟨⟨bd_mono (cb_bd h) (by decide),bd_mono (cb_bd hD) (by decide),fun _=>⟨⟨bd_mono (cb_bd hP) (by decide),bd_mono (cb_bd hD) (by decide),?_⟩,dgo_cb (N:=6) (cl_cl p) (gcd_cl _ _) hGn hP hG (by omega) (by decide) (by decide),bd_mono (cb_bd hdiv) (by decide)⟩⟩,?_⟩
      · rw [cl_cl,hDc];exact hg.1
      · unfold sqf
        rw [if_neg h0]
        exact cb_mo (dq_cl _ _) (cb_mono hdiv (by decide))
  obtain ⟨hs1,hs2⟩:=hsq
  have hsl:=sqf_len p
  have hsd:cb 400003 (der (sqf p)):=cb_der hs2 (by omega)
  have hsdl:=der_len (sqf p)
  have h5:(sqf p).length≤5:=by omega
  have hpw:=pow_le (N:=6) h5 400003
  have h6:(400003+1)*(6+1)^5=6722867228:=by decide
  have hst:=stok_cb (N:=6) (by decide) (sqf p).length 400003 (sqf p) (der (sqf p)) (sqf_cl p) (der_cl _) (cb_mono hs2 (by decide)) hsd (by omega) (by omega) (by omega)
  refine ⟨⟨hs1,bd_mono (cb_bd hs2) (by decide),bd_mono (cb_bd hsd) (by decide),hst.1⟩,fun q hq=> ?_⟩
  unfold sturm at hq
  split at hq
  · cases hq
  · rcases List.mem_cons.1 hq with rfl | hq
    · exact ⟨by omega,bd_mono (cb_bd hs2) (by decide)⟩
    · obtain ⟨k1, k2⟩ := hst.2 q hq
      exact ⟨by omega,bd_mono (cb_bd k2) (by omega)⟩
theorem vok_sturm {p:List Rat} {x:Rat} (h:∀q,q∈sturm p→q.length≤10∧bd 7000000000 q) (hx:hq x≤10000000000):vok (sturm p) x:=vok_of (K:=7000000000) hx h (by decide) (by decide)
def ofL (l:List Int):List Rat:=l.map (fun z:Int=>(z:Rat))
theorem ofL_take {l:List Int} {i:Nat} (h:i<l.length):ofL (l.take i)++[((l.getD i 0:Int):Rat)]=ofL (l.take (i+1)):=by
  unfold ofL
  rw [List.take_succ_eq_append_getElem h,List.map_append,List.getD_eq_getElem?_getD,List.getElem?_eq_getElem h]
  rfl
theorem hq_add1 {x:Rat} {K:Nat} (h:hq x≤K):hq (x+((1:Int):Rat))≤K+2:=by
  have:=hq_add x ((1:Int):Rat)
  have:hq ((1:Int):Rat)=1:=by decide
  omega
theorem bound_hq {P:List Rat} {K:Nat} (h:bd K P) (h0:lead P≠0):hq (bound P)≤K+K+2:=hq_add1 (bm_hq h h0 _)
end Go.Proofs.YtbiaimgafknkmaaGreat.Po
namespace Go.Proofs.YtbiaimgafknkmaaGreat.Po
open Go.Proofs.YtbiaimgafknkmaaGreat.Big
theorem bd_dec {l:List Rat} {K:Nat} (h:l.all (fun z=>decide (hq z≤K))=true) (hk:1≤K):bd K l:=fun i=>by
  rw [List.getD_eq_getElem?_getD]
  by_cases hi:i<l.length
  · rw [List.getElem?_eq_getElem hi]
    exact of_decide_eq_true (List.all_eq_true.1 h _ (List.getElem_mem hi))
  · rw [List.getElem?_eq_none (by omega)]
    show hq 0≤K
    rw [hq_zero];exact hk
theorem cb_dec {l:List Rat} (h:l.all (fun z=>decide (hq z≤1))=true) (hl:l.length≤19):cb 20 l:=cb_mono (cb_of_bd (bd_dec h (Nat.le_refl 1))) (by omega)
theorem cv_hq_len {K L:Nat} {p q:List Rat} (h1:bd K p) (h2:bd L q) (k lo:Nat):∀n,hq (cv p q k lo n)≤1+min n (p.length - lo)*(K+L+1)
  |0=>by show hq 0≤_;rw [hq_zero];omega
  |n+1=>by
    show hq (cv p q k lo n+p.getD (lo+n) 0*q.getD (k - (lo+n)) 0)≤_
    have e3:=cv_hq_len h1 h2 k lo n
    by_cases h:lo+n<p.length
    · have e1 := hq_add (cv p q k lo n) (p.getD (lo + n) 0 * q.getD (k - (lo + n)) 0)
      have e2:=hq_mul (p.getD (lo+n) 0) (q.getD (k - (lo+n)) 0)
      have e4:=h1 (lo+n)
      have e5:=h2 (k - (lo+n))
      rw [show min (n+1) (p.length - lo)=min n (p.length - lo)+1 by omega,Nat.succ_mul]
      omega
    · rw [gD0 (l := p) (by omega), show min (n + 1) (p.length - lo) = min n (p.length - lo) by omega, Rat.zero_mul, Rat.add_zero]
      exact e3
theorem cv_hq_of {K L N:Nat} {p q:List Rat} (h1:bd K p) (h2:bd L q) (hl:p.length≤N) (hb:1+N*(K+L+1)≤200000000000) (k lo n:Nat):hq (cv p q k lo n)≤200000000000:=by
  refine Nat.le_trans (cv_hq_len h1 h2 k lo n) (Nat.le_trans (Nat.add_le_add_left (Nat.mul_le_mul_right _ ?_) _) hb)
  omega
theorem dgo_of {p q:List Rat} (hp:cb 20 p) (hq':cb 20 q) (lp:p.length≤5) (hn:(cl q).length≠0):bd 60000000000 q∧dok (cl q) ((cl p).length+1) [] (cl p):=by
  have h:=dgo_cb (N:=6) (cl_cl p) (cl_cl q) hn (cb_cl hp) (cb_cl hq') (by have:=cl_le_len p;omega) (by decide) (by decide)
  have h2:=h.2
  rw [cl_cl,cl_cl] at h2
  exact ⟨bd_mono (cb_bd hq') (by decide),h2⟩
def isT (l:List (List Rat)):Nat→Rat→Rat→Bool
  |0,_,_=>false
  |n+1,a,b=>decide (bt l a b=0)||decide (bt l a b=1)||(isT l n a (mid a b)&&isT l n (mid a b) b)
theorem isk_of {l:List (List Rat)} (hl:∀q,q∈l→q.length≤10∧bd 7000000000 q):∀(n M:Nat) (a b:Rat),hq a≤M→hq b≤M→(M+2)*2^n≤10000000000→isT l n a b=true→isk l n a b
  |0,_,_,_,_,_,_,h=>by cases h
  |n+1,M,a,b,ha,hb,hM,h=>by
    have e1:(M+2)*2^(n+1)=(2*M+2+2)*2^n:=by rw [Nat.pow_succ,Nat.mul_comm (2^n) 2,←Nat.mul_assoc];congr 1;omega
    have e2:M+2≤(M+2)*2^(n+1):=Nat.le_mul_of_pos_right _ (Nat.pow_pos (by decide))
    have hm:hq (mid a b)≤2*M+2:=by have:=mid_hq ha hb;omega
    refine ⟨⟨by omega,by omega,vok_of (K:=7000000000) (M:=10000000000) (by omega) hl (by decide) (by decide),vok_of (K:=7000000000) (M:=10000000000) (by omega) hl (by decide) (by decide)⟩,fun h0 h1=> ?_⟩
    unfold isT at h
    rw [decide_eq_false h0,decide_eq_false h1,Bool.false_or,Bool.false_or,Bool.and_eq_true] at h
    exact ⟨isk_of hl n (2*M+2) a (mid a b) (by omega) hm (by omega) h.1,isk_of hl n (2*M+2) (mid a b) b hm (by omega) (by omega) h.2⟩
def e1:List Rat:=ofL [-2,1,1]
def e2:List Rat:=ofL [-2,0,1]
def e3:List Rat:=ofL [0,-1,0,1]
def eR:List (Rat×Rat):=[(((-3:Int):Rat),((0:Int):Rat)),(((0:Int):Rat),((3:Int):Rat))]
theorem ex_mul:mul (ofL [-1,1]) (ofL [2,1])=e1:=by decide +kernel
theorem ex_q:dq e1 (ofL [-1,1])=ofL [2,1]:=by decide +kernel
theorem ex_r:dr e1 (ofL [-1,1])=[]:=by decide +kernel
theorem ex_c:dc (ofL [-1,1])=0:=by decide +kernel
theorem ex_T:isT (sturm e2) 10 (- bound (cl e2)) (bound (cl e2))=true:=by decide +kernel
theorem ex_iso:iso (sturm e2) 10 (- bound (cl e2)) (bound (cl e2))=eR:=by decide +kernel
theorem ex_bt:bt (sturm e3) ((-1:Int):Rat) ((1:Int):Rat)=2:=by decide +kernel
theorem ex_ne2:(sturm e2).length≠0:=by decide +kernel
theorem ex_ne3:(sturm e3).length≠0:=by decide +kernel
theorem ex_s2:sok e2∧∀q,q∈sturm e2→q.length≤10∧bd 7000000000 q:=sok_of (by decide) (cb_dec (by decide +kernel) (by decide))
theorem ex_s3:sok e3∧∀q,q∈sturm e3→q.length≤10∧bd 7000000000 q:=sok_of (by decide) (cb_dec (by decide +kernel) (by decide))
theorem ex_k2:isk (sturm e2) 10 (- bound (cl e2)) (bound (cl e2)):=isk_of ex_s2.2 10 1 _ _ (by decide +kernel) (by decide +kernel) (by decide) ex_T
theorem ex_l2:(sturm e2).length≤200:=by decide +kernel
theorem ex_l3:(sturm e3).length≤200:=by decide +kernel
end Go.Proofs.YtbiaimgafknkmaaGreat.Po
namespace Go.Proofs.YtbiaimgafknkmaaGreat.Sp
open Go
set_option linter.unusedVariables false
set_option maxRecDepth 100000
set_option maxHeartbeats 8000000
theorem zfg {s:Bool} {p:Option Addr} {n:Nat} {cap:Nat} {l:List Int} (hn:l.length=n) (hln:Big.ln (yj s l)≤4398046511104):Con yd 134 [.agg #[.bool s,.slice p n cap]] [] [slF (rI .u32) p cap l] (Y:=(Option Addr)×Nat) (fun y=>True) (fun y=> .agg #[.bool (decide ((((yj s l).natAbs:Nat):Int)<0)),.slice (y.1) ((yi ((((yj s l).natAbs:Nat):Int).natAbs)).length) (y.2)]) (fun y=>[]) (fun y=>[slF (rI .u32) (y.1) (y.2) (yi ((((yj s l).natAbs:Nat):Int).natAbs))]):=by
 refine zl Tryz.func134 rfl rfl rfl (fun c=> ?_)
 show RunC _ _ _ _ _ [(0,.agg #[.bool s,.slice p n cap])] [] [slF (rI .u32) p cap l]
 refine zQ 0 rfl (fun hL0=> ?_)
 refine zIa 0 rfl (fun hE0=> ?_)
 have hnn:Big.nn l:=fun g hg=>(zt.1 (hE0 g hg)).1
 unfold Big.ln at hln
 refine ze<|za<|zG rfl rfl (zM rfl rfl) (fun b1=> ?_)
 refine zG rfl rfl (zx zr26 rfl) (fun b2=> ?_)
 refine zf<|zc<|ze<|za<|e_ru (zd 1 ty26 rfl rfl (.t2 .nil))<|zj rfl rfl (.c rfl .n) ce113 (zDa (s:=s) (p:=p) (n:=n) (cap:=cap) (l:=l) (hn:=ass)) (.c (j:=0) rfl .n) ?_
 rintro ⟨p23,c24⟩ -
 dsimp only [aq,nq,cq]
 refine zj rfl rfl (.c rfl .n) ce129 (zoc (a:=(yj s l).natAbs) (p:=p23) (cap:=c24) (hb:=cbb)) (.c (j:=0) rfl .n) ?_
 rintro ⟨p25,c26⟩ -
 dsimp only [aq,nq,cq]
 refine zj rfl rfl (.c rfl (.c rfl .n)) ce114 (zta (s:=false) (a:=((yj s l).natAbs)) (p:=p25) (cap:=c26)) (.c (j:=0) rfl .n) ?_
 rintro ⟨p27,c28⟩ -
 dsimp only [aq,nq,cq]
 refine zk 0 rfl rfl rfl rfl rfl sz26 rfl (.t2 .nil) .z<|zf<|zc<|zE ?_
 have hz:Big.sg false ((yj s l).natAbs:Int)=(((yj s l).natAbs:Nat):Int):=rfl
 exact zy Tryz.results134 (p27,c28) trivial (zn 0 ty26 rfl rfl (.t2 .nil)) (by rw [hz]) (ho:=(.n:PickO _ _ _)) ((.e (j:=0) rfl (by rw [hz]) .n):SelR _ _ _)
theorem zIf {z:Int} {p:Option Addr} {cap:Nat} (hln:Big.ln z≤4398046511104):Con yd 134 [.agg #[.bool (decide ((z)<0)),.slice (p) ((yi ((z).natAbs)).length) (cap)]] [] [slF (rI .u32) (p) (cap) (yi ((z).natAbs))] (Y:=(Option Addr)×(Nat)) (fun y=>True) (fun y=> .agg #[.bool (decide ((((z.natAbs:Nat):Int))<0)),.slice (y.1) ((yi ((((z.natAbs:Nat):Int)).natAbs)).length) (y.2)]) (fun y=>[]) (fun y=>[slF (rI .u32) (y.1) (y.2) (yi ((((z.natAbs:Nat):Int)).natAbs))]):=by
  have h:= @zfg (decide ((z)<0)) p (yi (z).natAbs).length cap (yi (z).natAbs) rfl (by rw [Big.raw_big];exact hln)
  rw [Big.raw_big] at h
  exact h
theorem zJf {w1:Wd} {x1:Int} (hln:Big.ln x1≤4398046511104):Con yd 134 [.agg #[w1.b,w1.l]] [] [zF w1 (x1)] (Y:=(Wd)) (fun y=>True) (fun y=> .agg #[y.b,y.l]) (fun y=>[]) (fun y=>[zF y (((x1.natAbs:Nat):Int))]):=by
  exact zAb (zOc (fun p c=>zIf hln))
end Go.Proofs.YtbiaimgafknkmaaGreat.Sp
namespace Go.Proofs.YtbiaimgafknkmaaGreat.Sp
open Go
set_option linter.unusedVariables false
set_option maxRecDepth 100000
set_option maxHeartbeats 8000000
theorem zKf {k1:Bool} {u1:Wd} {v1:Wd} {q1:Rat} (hl:ye q1≤1099511627776):Con yd 108 [.agg #[u1.b,u1.l,v1.b,v1.l]] [] [qF k1 u1 v1 q1] (Y:=Wd×Wd) (fun y=>True) (fun y=> .agg #[y.1.b,y.1.l,y.2.b,y.2.l]) (fun y=>[]) (fun y=>[qF true y.1 y.2 (Big.qabs q1)]):=by
 refine zl Tryz.func108 rfl rfl rfl (fun c=> ?_)
 show RunC _ _ _ _ _ [(0,.agg #[u1.b,u1.l,v1.b,v1.l])] [] [qF k1 u1 v1 q1]
 have a1:=Big.hq_num q1
 have a2:=Big.hq_den q1
 refine ze<|za<|zG rfl rfl (zM rfl rfl) (fun b1=> ?_)
 refine zG rfl rfl (zx zr28 rfl) (fun b2=> ?_)
 refine zf<|zc<|ze<|za<|e_ru (zd 1 ty28 rfl rfl (.t4 .nil))<|zj rfl rfl (.c rfl .n) ce53 (zra (k1:=k1) (u1:=u1) (v1:=v1) (q1:=q1)) (.c (j:=0) rfl .n) ?_
 rintro ⟨w33,w44⟩ -
 dsimp only [aq,nq,cq]
 refine zk 1 rfl rfl rfl rfl rfl sz28 rfl (.t4 .nil) (.s .z)<|zf<|zc<|ze<|zV (OW:=[boxA b2 28 (cw [wz,wz])]) (O:=[boxA b1 28 (cw [w33,w44])]) 6 mixed (.then .ret) kr<|e_pv 0 rfl rfl (zg yh rfl sz26 rfl rfl)<|e_uw 1 rfl rfl (zd 1 ty26 rfl rfl (.t2 .nil))<|e_pv 3 rfl rfl (zg yh rfl sz26 rfl rfl)<|e_uw 4 rfl rfl (zd 1 ty26 rfl rfl (.s2 (.t2 .nil)))<|zWa (qF_open 0 rfl) (fun _ _=> ?_)
 refine e_one 2 (zu rfl rfl rfl rfl (.c rfl .n) ce134 (zJf (w1:=w33) (x1:=(q1).num) (hln:=by first|rfl|assumption|omega|(rw [Big.zH];omega)|(decide +kernel))) (.c (j:=0) rfl .n) ?_)
 rintro w35 -
 dsimp only [aq,nq,cq]
 refine e_pv 5 rfl rfl (zN zr28 rfl yh (.c sz26 (.c sz26 .n)) (.c rfl (.c rfl .n)) (.c rfl rfl rfl (.t2 .nil) (.c rfl rfl rfl (.s2 (.t2 .nil)) .n)))<|e_one 6 (zv kr rfl rfl rfl rfl rfl sz28 rfl (.t4 .nil) ?_)
 refine zT kr<|zc<|zE<|zmb (qF true w35 w44 (Big.qabs q1)) (qF_close 0 2 rfl rfl (by exact ⟨(Big.qabs_num q1).symm,by rw [Big.qabs_den],by rw [Big.hq_qabs];exact hl⟩)) ?_
 exact zy Tryz.results108 (w35,w44) trivial (zn 0 ty28 rfl rfl (.t4 .nil)) rfl (ho:=(.n:PickO _ _ _)) ((.c (j:=0) rfl .n):SelR _ _ _)
end Go.Proofs.YtbiaimgafknkmaaGreat.Sp
namespace Go.Proofs.YtbiaimgafknkmaaGreat.Sp
open Go
set_option linter.unusedVariables false
set_option maxRecDepth 100000
set_option maxHeartbeats 8000000
theorem zBe {p1:Option Addr} {n1:Nat} {c1:Nat} {l1:List (Option Rat)} (hn1:l1.length=n1) (hm1:n1≤190) (hb:Po.bd 60000000000 (Po.vals l1)) (hne:(Po.cl (Po.vals l1)).length≠0):Con yd 78 [.slice p1 n1 c1] [] [slF rE p1 c1 l1] (Y:=Wd×Wd) (fun y=>True) (fun y=> .tuple #[.agg #[y.1.b,y.1.l,y.2.b,y.2.l],.int .i64 0]) (fun y=>[]) (fun y=>[qF true y.1 y.2 (Po.bound (Po.cl (Po.vals l1)))]):=by
 refine zl Tryz.func78 rfl rfl rfl (fun c=> ?_)
 show RunC _ _ _ _ _ [(0,.slice p1 n1 c1)] [] [slF rE p1 c1 l1]
 refine zQ 0 rfl (fun hL0=> ?_)
 refine ze<|za<|zG rfl rfl (zx zr28 rfl) (fun b1=> ?_)
 refine e_p (zb rfl)<|zf<|zc<|ze<|za<|e_mv rfl<|zj rfl rfl (.c rfl .n) ce31 (zCa (p1:=p1) (n1:=n1) (c1:=c1) (l1:=l1) (hn1:=ass) (hm1:=by first|omega|rfl|assumption|decide)) (.c (j:=0) rfl .n) ?_
 rintro ⟨p92,c93⟩ -
 dsimp only [aq,nq,cq]
 refine e_p (zb rfl)<|zf<|zc<|ze<|ze ?_
 obtain ⟨P,hP⟩:∃z,z=(Po.cl (Po.vals l1)):=⟨_,rfl⟩
 have e4:(Po.cl (Po.vals l1):List Rat)=P:=by exact hP.symm
 rw [e4]
 refine zQ 0 rfl (fun hLP=> ?_)
 have hPl:P.length≤n1:=by rw [hP,←hn1,←Po.vals_len l1];exact Po.cl_le_len _
 have hbP:Po.bd 60000000000 P:=by rw [hP];exact Po.bd_cl hb
 rw [← hP] at hne
 have hPn:P≠[]:=fun e=>hne (by rw [e];rfl)
 have hl0:Po.lead P≠0:=Po.lead_ne (by rw [hP];exact Po.cl_cl _) hPn
 have hlq:=Po.lead_hq hbP
 refine za<|e_mv rfl<|e_p (zC ya rfl)<|e_p (zpa rfl rfl)<|zf<|zc<|zD rfl (fun h13=> ?_) (fun h13=> ?_)
 ·
  omega
 ·
  refine zB<|zc<|ze<|za<|zj rfl rfl (.n) ce50 (zEb) (.n) ?_
  rintro ⟨w35,w46⟩ -
  dsimp only [aq,nq,cq]
  refine zG rfl rfl (zx zr28 rfl) (fun b7=> ?_)
  refine zk 0 rfl rfl rfl rfl rfl sz28 rfl (.t4 .nil) .z<|zf<|zc<|ze<|ze<|za<|e_mv rfl<|e_mv rfl<|e_p (zC ya rfl)<|e_p (zU (z:=((((P).length:Nat):Int) - 1)) rfl rfl (w64 om)) ?_
  have e8:(((((P).length:Nat):Int) - 1):Int)=(((P.length - 1):Nat):Int):=by omega
  rw [e8]
  refine e_p (zeb (hi:=(P.length - 1)) ya sz28 rfl (.s rfl) (.inr ⟨_,rfl⟩) om)<|zMb (zHb 1 rfl (P.length - 1) om) (fun _ _=> ?_)
  refine e_p (zC ya rfl)<|e_mv rfl<|zf<|zc<|zw<|zea (X:=Nat×Wd×Wd) (fun x:Nat×Wd×Wd=>x.1≤P.length - 1) (fun x=>[(22,.int .i64 ((x.1:Nat):Int)),(21,.int .i64 (((P.length - 1):Nat):Int)),(20,.slice p92 (P.length - 1) c93),(4,.pointer (some ⟨b7,0,none⟩)),(0,.slice p92 ((P).length) c93),(3,.int .i64 0),(2,.pointer (some ⟨b1,0,none⟩))]) (fun x=>[boxA b7 28 (cw [x.2.1,x.2.2]),boxA b1 28 (cw [wz,wz])]) (fun x=>[qF true x.2.1 x.2.2 (Po.bm P x.1),slF rQ p92 c93 ((P).take (P.length - 1)),qF true w35 w46 ((0:Int):Rat),slF rQ p92 c93 P,slF rE p1 c1 l1]) (fun x:Nat×Wd×Wd=>P.length - 1 - x.1) (0,w35,w46) (show 0≤P.length - 1 from by exact Nat.zero_le _) ((.e rfl (by first|rfl|(congr 1;omega)|simp_all) (.of rfl)):SubM _ _) (ho:=((.of [0,0] rfl):PickO _ _ _)) ((.e (j:=1) rfl rfl (.of [0,1,2,3] rfl)):SelR _ _ _) ?_
  rintro ⟨i,su,sv⟩ hI
  replace hI:i≤P.length - 1:=hI
  try dsimp only [cw]
  refine ze<|za<|e_p (zda rfl rfl)<|zf<|zc<|ze<|zD rfl (fun h23=> ?_) (fun h23=> ?_)
  ·
   refine zB<|zc<|ze<|zw<|ze<|za<|r_vl rfl rfl (zia (x0:=(((P).take (P.length - 1)).getD i (0:Rat))) 1 i rfl ya sz28 rfl (by first|rfl|assumption|(simp;done)|omega|(rw [List.length_take];omega)) rfl rfl (gD (d:=(0:Rat)) (by first|omega|(rw [List.length_take];omega)))) ?_
   rintro ⟨b9,o10,w11,w12⟩ -
   dsimp only [aq,nq,cq]
   refine zga open_rQ<|e_ru (zO (j:=0) 0 ty28 rfl rfl rfl (.t4 .nil))<|zG rfl rfl (zx zr28 rfl) (fun b13=> ?_)
   refine zk 0 rfl rfl rfl rfl rfl sz28 rfl (.t4 .nil) .z<|zf<|zc<|ze ?_
   have e14:((P).take (P.length - 1)).getD i (0:Rat)=P.getD i 0:=by exact Po.take_get om
   rw [e14]
   refine zV (OW:=[]) (O:=[boxA b13 28 (cw [w11,w12]),boxA b7 28 (cw [su,sv]),boxA b1 28 (cw [wz,wz])]) 12 mixed (.then (.block (.then (.then (.block (.then .ret)))))) kr<|e_u 0 rfl rfl (zd 0 ty28 rfl rfl (.t4 .nil))<|e_dm 1 rfl rfl rfl<|e_dm 2 rfl rfl rfl<|e_pv 3 rfl rfl (zC ya rfl)<|e_pv 4 rfl rfl (zU (z:=((((P).length:Nat):Int) - 1)) rfl rfl (w64 om)) ?_
   have e15:(((((P).length:Nat):Int) - 1):Int)=(((P.length - 1):Nat):Int):=by omega
   rw [e15]
   refine d_vl 5 rfl rfl kr kr rfl rfl (zia (x0:=((P).getD (P.length - 1) (0:Rat))) 5 (P.length - 1) rfl ya sz28 rfl (by first|rfl|assumption|(simp;done)|omega|(rw [List.length_take];omega)) rfl rfl (gD (d:=(0:Rat)) om)) ?_
   rintro ⟨b16,o17,w18,w19⟩ -
   dsimp only [aq,nq,cq]
   refine zfb open_rQ<|e_u 6 rfl rfl (zO (j:=0) 0 ty28 rfl rfl rfl (.t4 .nil))<|zYd (m':=[(33,.agg (cw [w18,w19]).toArray),(27,.agg (cw [w11,w12]).toArray),(22,.int .i64 ((i:Nat):Int)),(21,.int .i64 (((P.length - 1):Nat):Int)),(20,.slice p92 (P.length - 1) c93),(4,.pointer (some ⟨b7,0,none⟩)),(0,.slice p92 ((P).length) c93),(3,.int .i64 0),(2,.pointer (some ⟨b1,0,none⟩))]) (R':=[qF true w18 w19 ((P).getD (P.length - 1) (0:Rat)),qF true w11 w12 (P.getD i 0),qF true su sv (Po.bm P i),slF rQ p92 c93 ((P).take (P.length - 1)),qF true w35 w46 ((0:Int):Rat),slF rQ p92 c93 P,slF rE p1 c1 l1]) ((.of rfl):SubM _ _) (List.Perm.refl _) (List.Perm.refl _) ((.of [1,3,4,5,6,7,8] rfl):SelR _ _ _)<|zkb (X:=Wd×Wd×Nat) (k':=0) (L':=(lb 14 16383)) (fun (u7_1,u7_2,u11_1)=>([(7,.pointer (some ⟨u11_1,0,none⟩)),(22,.int .i64 ((i:Nat):Int)),(21,.int .i64 (((P.length - 1):Nat):Int)),(20,.slice p92 (P.length - 1) c93),(4,.pointer (some ⟨b7,0,none⟩)),(0,.slice p92 ((P).length) c93),(3,.int .i64 0),(2,.pointer (some ⟨b1,0,none⟩))],[boxA u11_1 28 (cw [u7_1,u7_2])],[boxA b13 28 (cw [w11,w12]),boxA b7 28 (cw [su,sv]),boxA b1 28 (cw [wz,wz])],[qF true u7_1 u7_2 ((P.getD i 0) / ((P).getD (P.length - 1) (0:Rat))),qF true w18 w19 ((P).getD (P.length - 1) (0:Rat)),qF true w11 w12 (P.getD i 0),qF true su sv (Po.bm P i),slF rQ p92 c93 ((P).take (P.length - 1)),qF true w35 w46 ((0:Int):Rat),slF rQ p92 c93 P,slF rE p1 c1 l1])) ?_ (fun hD0=> ?_)
   ·
    rintro ⟨u7_1,u7_2,u11_1⟩
    dsimp only [cw]
    refine zT kr<|zc<|ze<|za<|e_ru (zd 0 ty28 rfl rfl (.t4 .nil))<|zj rfl rfl (.c rfl .n) ce108 (zKf (k1:=true) (u1:=u7_1) (v1:=u7_2) (q1:=(P.getD i 0) / ((P).getD (P.length - 1) (0:Rat))) (hl:=by have h1:=hbP i;have h2:=Big.hq_div (P.getD i 0) (y:=P.getD (P.length - 1) 0) hl0;have h3:ye (P.getD (P.length - 1) 0)≤60000000000:=hbP _;omega)) (.c (j:=0) rfl .n) ?_
    rintro ⟨w320,w421⟩ -
    dsimp only [aq,nq,cq]
    refine zk 0 rfl rfl rfl rfl rfl sz28 rfl (.t4 .nil) .z<|zf<|zc<|ze<|za<|e_ru (zd 0 ty28 rfl rfl (.t4 .nil))<|e_ru (zd 2 ty28 rfl rfl (.t4 .nil))<|zL rfl rfl (.c rfl (.c rfl .n)) ce68 (zkc (k1:=true) (u1:=w320) (v1:=w421) (q1:=(Big.qabs ((P.getD i 0) / ((P).getD (P.length - 1) (0:Rat))))) (k2:=true) (u2:=su) (v2:=sv) (q2:=(Po.bm P i)) (hl:=by have h1:=hbP i;have h2:=Big.hq_div (P.getD i 0) (y:=P.getD (P.length - 1) 0) hl0;have h3:ye (P.getD (P.length - 1) 0)≤60000000000:=hbP _;have h4:=Po.bm_hq hbP hl0 i;rw [Big.hq_qabs];omega)) (.c (j:=0) rfl (.c (j:=4) rfl .n))<|e_p (zza rfl rfl)<|zf<|zc<|zD rfl (fun h42=> ?_) (fun h42=> ?_)
    ·
     refine za<|e_ru (zd 0 ty28 rfl rfl (.t4 .nil))<|zk 2 rfl rfl rfl rfl rfl sz28 rfl (.t4 .nil) (.s (.s .z))<|zf<|zJ<|zc<|za<|e_p (zI (z:=(((i+1):Nat):Int)) rfl rfl (w64 om))<|e_mv rfl<|zf<|zX ((i+1),w320,w421) (show (i+1)≤P.length - 1 from by omega) (by show P.length - 1 - (i+1)<P.length - 1 - i;omega) ((.of rfl):SubM _ _) (ho:=((.of [2,2] rfl):PickO _ _ _)) ((.e (j:=0) rfl (by rw [← Po.bm_step];exact congrArg _ (if_pos (Po.lt_sgq.1 h42)).symm) (.of [5,6,7,8] rfl)):SelR _ _ _)
    ·
     refine zB<|zJ<|zc<|za<|e_p (zI (z:=(((i+1):Nat):Int)) rfl rfl (w64 om))<|e_mv rfl<|zf<|zX ((i+1),su,sv) (show (i+1)≤P.length - 1 from by omega) (by show P.length - 1 - (i+1)<P.length - 1 - i;omega) ((.of rfl):SubM _ _) (ho:=((.of [2,2] rfl):PickO _ _ _)) ((.e (j:=4) rfl (by rw [← Po.bm_step];exact congrArg _ (if_neg (fun k=>h42 (Po.lt_sgq.2 k))).symm) (.of [5,6,7,8] rfl)):SelR _ _ _)
   refine zkb (X:=Wd×Wd×Nat) (k':=2) (L':=(lb 14 4095)) (fun (u7_1,u7_2,u11_1)=>([(7,.pointer (some ⟨u11_1,0,none⟩)),(36,.int .i64 0),(35,.agg (cw [u7_1,u7_2]).toArray),(22,.int .i64 ((i:Nat):Int)),(21,.int .i64 (((P.length - 1):Nat):Int)),(20,.slice p92 (P.length - 1) c93),(4,.pointer (some ⟨b7,0,none⟩)),(0,.slice p92 ((P).length) c93),(3,.int .i64 0),(2,.pointer (some ⟨b1,0,none⟩))],[boxA u11_1 28 (cw [wz,wz])],[boxA b13 28 (cw [w11,w12]),boxA b7 28 (cw [su,sv]),boxA b1 28 (cw [wz,wz])],[qF true u7_1 u7_2 ((P.getD i 0) / ((P).getD (P.length - 1) (0:Rat))),qF true w18 w19 ((P).getD (P.length - 1) (0:Rat)),qF true w11 w12 (P.getD i 0),qF true su sv (Po.bm P i),slF rQ p92 c93 ((P).take (P.length - 1)),qF true w35 w46 ((0:Int):Rat),slF rQ p92 c93 P,slF rE p1 c1 l1])) ?_ (fun hD1=> ?_)
   ·
    rintro ⟨u7_1,u7_2,u11_1⟩
    dsimp only [cw]
    refine zyc 12 kr ?_
    ·
     refine zv kr rfl rfl rfl rfl rfl sz28 rfl (.t4 .nil)<|e_pv 13 rfl rfl (zb rfl) ?_
     exact zEa (hD0 (u7_1,u7_2,u11_1)) kr ((.of rfl):SubM _ _) .rfl .rfl ((.of [0,1,2,3,4,5,6,7] rfl):SelR _ _ _)
   refine zkb (X:=Wd×Wd) (k':=3) (L':=(lb 14 2047)) (fun (u7_1,u7_2)=>([(36,.int .i64 0),(35,.agg (cw [u7_1,u7_2]).toArray),(22,.int .i64 ((i:Nat):Int)),(21,.int .i64 (((P.length - 1):Nat):Int)),(20,.slice p92 (P.length - 1) c93),(4,.pointer (some ⟨b7,0,none⟩)),(0,.slice p92 ((P).length) c93),(3,.int .i64 0),(2,.pointer (some ⟨b1,0,none⟩))],[],[boxA b13 28 (cw [w11,w12]),boxA b7 28 (cw [su,sv]),boxA b1 28 (cw [wz,wz])],[qF true u7_1 u7_2 ((P.getD i 0) / ((P).getD (P.length - 1) (0:Rat))),qF true w18 w19 ((P).getD (P.length - 1) (0:Rat)),qF true w11 w12 (P.getD i 0),qF true su sv (Po.bm P i),slF rQ p92 c93 ((P).take (P.length - 1)),qF true w35 w46 ((0:Int):Rat),slF rQ p92 c93 P,slF rE p1 c1 l1])) ?_ (fun hD2=> ?_)
   ·
    rintro ⟨u7_1,u7_2⟩
    dsimp only [cw]
    refine zyc 11 kr ?_
    ·
     refine zic rfl rfl rfl rfl (zx zr28 rfl) (fun u11_1 _=> ?_)
     exact zEa (hD1 (u7_1,u7_2,u11_1)) kr ((.of rfl):SubM _ _) .rfl .rfl ((.of [0,1,2,3,4,5,6,7] rfl):SelR _ _ _)
   refine zkb (X:=Nat) (k':=6) (L':=(lb 14 2175)) (fun u11_1=>([(7,.pointer (some ⟨u11_1,0,none⟩)),(33,.agg (cw [w18,w19]).toArray),(27,.agg (cw [w11,w12]).toArray),(22,.int .i64 ((i:Nat):Int)),(21,.int .i64 (((P.length - 1):Nat):Int)),(20,.slice p92 (P.length - 1) c93),(4,.pointer (some ⟨b7,0,none⟩)),(0,.slice p92 ((P).length) c93),(3,.int .i64 0),(2,.pointer (some ⟨b1,0,none⟩))],[boxA u11_1 28 (cw [wz,wz])],[boxA b13 28 (cw [w11,w12]),boxA b7 28 (cw [su,sv]),boxA b1 28 (cw [wz,wz])],[qF true w18 w19 ((P).getD (P.length - 1) (0:Rat)),qF true w11 w12 (P.getD i 0),qF true su sv (Po.bm P i),slF rQ p92 c93 ((P).take (P.length - 1)),qF true w35 w46 ((0:Int):Rat),slF rQ p92 c93 P,slF rE p1 c1 l1])) ?_ (fun hD3=> ?_)
   ·
    rintro u11_1
    dsimp only [cw]
    refine zyc 7 kr ?_
    ·
     refine zu rfl rfl rfl rfl (.c rfl (.c rfl .n)) ce60 (zKa (k1:=true) (u1:=w11) (v1:=w12) (q1:=(P.getD i 0)) (k2:=true) (u2:=w18) (v2:=w19) (q2:=((P).getD (P.length - 1) (0:Rat))) (hl:=by have h1:=hbP i;have h2:ye (P.getD (P.length - 1) 0)≤60000000000:=hbP _;omega) (hy:=by exact hl0)) (.c (j:=1) rfl (.c (j:=0) rfl .n)) ?_
     rintro ⟨u7_1,u7_2⟩ -
     dsimp only [aq,nq,cq]
     refine e_dm 8 rfl rfl rfl<|e_pv 9 rfl rfl (zm rfl rfl)<|e_pv 10 rfl rfl (zm rfl rfl) ?_
     exact zEa (hD1 (u7_1,u7_2,u11_1)) kr ((.of rfl):SubM _ _) .rfl .rfl ((.of [0,1,2,3,4,5,6,7] rfl):SelR _ _ _)
   refine znf 7 11 kr ?_ ?_
   ·
    refine zu rfl rfl rfl rfl (.c rfl (.c rfl .n)) ce60 (zKa (k1:=true) (u1:=w11) (v1:=w12) (q1:=(P.getD i 0)) (k2:=true) (u2:=w18) (v2:=w19) (q2:=((P).getD (P.length - 1) (0:Rat))) (hl:=by have h1:=hbP i;have h2:ye (P.getD (P.length - 1) 0)≤60000000000:=hbP _;omega) (hy:=by exact hl0)) (.c (j:=1) rfl (.c (j:=0) rfl .n)) ?_
    rintro ⟨u7_1,u7_2⟩ -
    dsimp only [aq,nq,cq]
    refine e_dm 8 rfl rfl rfl<|e_pv 9 rfl rfl (zm rfl rfl)<|e_pv 10 rfl rfl (zm rfl rfl) ?_
    exact zEa (hD2 (u7_1,u7_2)) kr ((.of rfl):SubM _ _) .rfl .rfl ((.of [0,1,2,3,4,5,6,7] rfl):SelR _ _ _)
   ·
    refine zic rfl rfl rfl rfl (zx zr28 rfl) (fun u11_1 _=> ?_)
    exact zEa (hD3 u11_1) kr ((.of rfl):SubM _ _) .rfl .rfl ((.of [0,1,2,3,4,5,6] rfl):SelR _ _ _)
  ·
   refine zba<|zi<|zi<|zq<|zc<|ze<|zoa (.c (i:=1) rfl (.c (i:=0) rfl .n))<|zV (OW:=[boxA b1 28 (cw [wz,wz])]) (O:=[boxA b7 28 (cw [su,sv])]) 3 mixed (.then .ret) kr<|e_uw 0 rfl rfl (zd 1 ty28 rfl rfl (.t4 .nil))<|e_one 1 (zu rfl rfl rfl rfl (.c rfl .n) ce59 (zhb (z:=1) (hz:=by first|omega|rfl|assumption|decide)) (.n) ?_)
   rintro ⟨w322,w423⟩ -
   dsimp only [aq,nq,cq]
   refine e_one 2 (zu rfl rfl rfl rfl (.c rfl (.c rfl .n)) ce47 (zJb (k1:=true) (u1:=su) (v1:=sv) (q1:=(Po.bm P i)) (k2:=true) (u2:=w322) (v2:=w423) (q2:=((1:Int):Rat)) (hl:=by have h4:=Po.bm_hq hbP hl0 i;have h5:ye ((1:Int):Rat)=1:=dd;omega)) (.c (j:=1) rfl (.c (j:=0) rfl .n)) ?_)
   rintro ⟨w324,w425⟩ -
   dsimp only [aq,nq,cq]
   refine e_one 3 (zv kr rfl rfl rfl rfl rfl sz28 rfl (.t4 .nil) ?_)
   refine e_pv 4 rfl rfl (zb rfl)<|zT kr<|zc<|zE ?_
   have hi9:i=P.length - 1:=by omega
   exact zFa Tryz.results78 (w324,w425) trivial (zn 0 ty28 rfl rfl (.t4 .nil)) (zo rfl) rfl (ho:=(.n:PickO _ _ _)) ((.e (j:=0) rfl (by rw [hi9];rfl) .n):SelR _ _ _)
theorem zRd {u1:Wd} {v1:Wd} {x1:Rat} {u2:Wd} {v2:Wd} {x2:Rat} (hx1:ye x1≤100000000000) (hx2:ye x2≤100000000000):Con yd 71 [.agg #[u1.b,u1.l,v1.b,v1.l],.agg #[u2.b,u2.l,v2.b,v2.l]] [] [qF true u1 v1 x1,qF true u2 v2 x2] (Y:=Wd×Wd) (fun y=>True) (fun y=> .agg #[y.1.b,y.1.l,y.2.b,y.2.l]) (fun y=>[]) (fun y=>[qF true y.1 y.2 (Po.mid x1 x2)]):=by
 refine zl Tryz.func71 rfl rfl rfl (fun c=> ?_)
 show RunC _ _ _ _ _ [(0,.agg #[u1.b,u1.l,v1.b,v1.l]),(1,.agg #[u2.b,u2.l,v2.b,v2.l])] [] [qF true u1 v1 x1,qF true u2 v2 x2]
 refine ze<|za<|zG rfl rfl (zM rfl rfl) (fun b1=> ?_)
 refine zG rfl rfl (zM rfl rfl) (fun b2=> ?_)
 refine zG rfl rfl (zx zr28 rfl) (fun b3=> ?_)
 refine zf<|zc<|ze<|za<|zj rfl rfl (.c rfl (.c rfl .n)) ce104 (zbf (z1:=1) (z2:=2) (hz1:=by first|omega|rfl|assumption|decide) (hz2:=by first|omega|rfl|assumption|decide) (hy:=by first|omega|rfl|assumption|decide)) (.n) ?_
 rintro ⟨w34,w45⟩ -
 dsimp only [aq,nq,cq]
 refine e_mv rfl<|e_p (zm rfl rfl)<|e_p (zm rfl rfl)<|zG rfl rfl (zx zr28 rfl) (fun b6=> ?_)
 refine zk 0 rfl rfl rfl rfl rfl sz28 rfl (.t4 .nil) .z<|e_p (zb rfl)<|zf<|zc<|ze<|zoa (.c (i:=1) rfl (.c (i:=0) rfl (.c (i:=0) rfl (.c (i:=0) rfl .n))))<|zV (OW:=[boxA b3 28 (cw [wz,wz])]) (O:=[boxA b6 28 (cw [w34,w45]),boxA b2 28 (cw [u2,v2]),boxA b1 28 (cw [u1,v1])]) 5 mixed (.then .ret) kr<|e_uw 0 rfl rfl (zd 3 ty28 rfl rfl (.t4 .nil))<|e_uw 1 rfl rfl (zd 2 ty28 rfl rfl (.t4 .nil))<|e_uw 3 rfl rfl (zd 1 ty28 rfl rfl (.t4 .nil))<|e_one 2 (zu rfl rfl rfl rfl (.c rfl (.c rfl .n)) ce47 (zJb (k1:=true) (u1:=u1) (v1:=v1) (q1:=x1) (k2:=true) (u2:=u2) (v2:=v2) (q2:=x2) (hl:=by first|omega|rfl|assumption|decide)) (.c (j:=1) rfl (.c (j:=2) rfl .n)) ?_)
 rintro ⟨w37,w48⟩ -
 dsimp only [aq,nq,cq]
 refine e_one 4 (zu rfl rfl rfl rfl (.c rfl (.c rfl .n)) ce51 (zqc (k1:=true) (u1:=w37) (v1:=w48) (q1:=x1+x2) (k2:=true) (u2:=w34) (v2:=w45) (q2:=Rat.divInt 1 2) (hl:=by have h1:=Big.hq_add x1 x2;have h5:ye (Rat.divInt 1 2)=1:=(by decide +kernel);omega)) (.c (j:=0) rfl (.c (j:=1) rfl .n)) ?_)
 rintro ⟨w39,w410⟩ -
 dsimp only [aq,nq,cq]
 refine e_one 5 (zv kr rfl rfl rfl rfl rfl sz28 rfl (.t4 .nil) ?_)
 refine zT kr<|zc<|zE ?_
 exact zy Tryz.results71 (w39,w410) trivial (zn 0 ty28 rfl rfl (.t4 .nil)) rfl (ho:=(.n:PickO _ _ _)) ((.c (j:=0) rfl .n):SelR _ _ _)
theorem zCe {p1:Option Addr} {n1:Nat} {c1:Nat} {l1:List (Option Rat)} {u1:Wd} {v1:Wd} {x1:Rat} {u2:Wd} {v2:Wd} {x2:Rat} (hn1:l1.length=n1) (hm1:n1≤190) (hok:Po.sok (Po.vals l1)) (hne:(Po.sturm (Po.vals l1)).length≠0) (hlS:(Po.sturm (Po.vals l1)).length≤400) (hx1:ye x1≤100000000000) (hx2:ye x2≤100000000000) (hv1:Po.vok (Po.sturm (Po.vals l1)) x1) (hv2:Po.vok (Po.sturm (Po.vals l1)) x2) (hle:¬x2<x1):Con yd 45 [.slice p1 n1 c1,.agg #[u1.b,u1.l,v1.b,v1.l],.agg #[u2.b,u2.l,v2.b,v2.l]] [] [slF rE p1 c1 l1,qF true u1 v1 x1,qF true u2 v2 x2] (Y:=Unit) (fun y=>True) (fun y=> .tuple #[.int .i64 (Po.bt (Po.sturm (Po.vals l1)) x1 x2),.int .i64 0]) (fun y=>[]) (fun y=>[]):=by
 refine zl Tryz.func45 rfl rfl rfl (fun c=> ?_)
 show RunC _ _ _ _ _ [(0,.slice p1 n1 c1),(1,.agg #[u1.b,u1.l,v1.b,v1.l]),(2,.agg #[u2.b,u2.l,v2.b,v2.l])] [] [slF rE p1 c1 l1,qF true u1 v1 x1,qF true u2 v2 x2]
 refine zQ 0 rfl (fun hL0=> ?_)
 refine ze<|za<|zG rfl rfl (zM rfl rfl) (fun b1=> ?_)
 refine zG rfl rfl (zM rfl rfl) (fun b2=> ?_)
 refine e_p (zb rfl)<|e_p (zb rfl)<|zf<|zc<|ze<|za<|e_mv rfl<|zj rfl rfl (.c rfl .n) ce67 (zWc (p1:=p1) (n1:=n1) (c1:=c1) (l1:=l1) (hn1:=ass) (hm1:=ass) (hok:=ass)) (.c (j:=0) rfl .n) ?_
 rintro ⟨p93,c94⟩ -
 dsimp only [aq,nq,cq]
 refine e_p (zb rfl)<|zf<|zc<|ze<|ze<|za<|e_mv rfl<|e_p (zC yf rfl)<|e_p (zpa rfl rfl)<|zf<|zc<|zD rfl (fun h13=> ?_) (fun h13=> ?_)
 ·
  omega
 ·
  refine zB<|zc<|ze<|ze<|za<|e_ru (zd 1 ty28 rfl rfl (.t4 .nil))<|e_ru (zd 0 ty28 rfl rfl (.t4 .nil))<|zL rfl rfl (.c rfl (.c rfl .n)) ce68 (zkc (k1:=true) (u1:=u1) (v1:=v1) (q1:=x1) (k2:=true) (u2:=u2) (v2:=v2) (q2:=x2) (hl:=by first|omega|rfl|assumption|decide)) (.c (j:=2) rfl (.c (j:=3) rfl .n))<|e_p (zza rfl rfl)<|zf<|zc<|zD rfl (fun h17=> ?_) (fun h17=> ?_)
  ·
   exact absurd (Po.lt_sgq.1 h17) hle
  ·
   refine zB<|zc<|ze<|za<|e_mv rfl<|e_ru (zd 1 ty28 rfl rfl (.t4 .nil))<|e_ru (zd 0 ty28 rfl rfl (.t4 .nil))<|zL rfl rfl (.c rfl (.c rfl (.c rfl .n))) ce70 (zle (pL:=p93) (nL:=(Po.sturm (Po.vals l1)).length) (cL:=c94) (L:=(Po.sturm (Po.vals l1))) (u1:=u1) (v1:=v1) (x1:=x1) (u2:=u2) (v2:=v2) (x2:=x2) (hnL:=by first|omega|rfl|assumption|decide) (hmL:=ass) (hx1:=ass) (hx2:=ass) (hv1:=ass) (hv2:=ass)) (.c (j:=0) rfl (.c (j:=2) rfl (.c (j:=3) rfl .n)))<|e_p (zb rfl)<|e_p (zb rfl)<|zf<|zc<|zE ?_
   exact zFa Tryz.results45 () trivial (zo rfl) (zo rfl) rfl (ho:=(.n:PickO _ _ _)) (.n:SelR _ _ _)
theorem zKc {p1:Option Addr} {n1:Nat} {c1:Nat} {l1:List Int} (hn1:l1.length=n1) (hm1:n1≤1000):Con yd 40 [.slice p1 n1 c1] [] [slF (rI .i64) p1 c1 l1] (Y:=(Option Addr)×Nat) (fun y=>True) (fun y=> .slice (y.1) ((Po.ofL l1).length) (y.2)) (fun y=>[]) (fun y=>[slF rQ (y.1) (y.2) (Po.ofL l1)]):=by
 refine zl Tryz.func40 rfl rfl rfl (fun c=> ?_)
 show RunC _ _ _ _ _ [(0,.slice p1 n1 c1)] [] [slF (rI .i64) p1 c1 l1]
 refine zQ 0 rfl (fun hL0=> ?_)
 refine zIa 0 rfl (fun hE0=> ?_)
 refine ze<|za<|e_p (zb rfl)<|zf<|zc<|ze<|za<|e_p (zb rfl)<|zf<|zc<|ze<|ze<|znc 28 rQ<|za<|e_mv rfl<|e_p (zC yb rfl)<|e_mv rfl<|zf<|zc<|zw<|zea (X:=Nat×(Option Addr)×Nat×(List Rat)) (fun x:Nat×(Option Addr)×Nat×(List Rat)=>x.1≤n1∧x.2.2.2=Po.ofL (l1.take x.1)) (fun x=>[(3,.slice (x.2.1) (x.2.2.2.length) (x.2.2.1)),(8,.int .i64 ((x.1:Nat):Int)),(7,.int .i64 ((n1:Nat):Int)),(6,.slice p1 n1 c1),(2,.slice none 0 0)]) (fun x=>[rowA 28 rQ (x.2.1) (x.2.2.1) (x.2.2.2)]) (fun x=>[slF (rI .i64) p1 c1 l1]) (fun x:Nat×(Option Addr)×Nat×(List Rat)=>n1 - x.1) (0,none,0,([]:List Rat)) (show 0≤n1∧([]:List Rat)=Po.ofL (l1.take 0) from by exact ⟨Nat.zero_le _,rfl⟩) ((.e rfl (by first|rfl|(congr 1;omega)|simp_all) (.e rfl (by first|rfl|(congr 1;omega)|simp_all) (.of rfl))):SubM _ _) (ho:=((.e (i:=0) rfl (by first|rfl|(congr 1;omega)|simp_all) .n):PickO _ _ _)) ((.c (j:=0) rfl .n):SelR _ _ _) ?_
 rintro ⟨i,pR,cR,A⟩ hI
 replace hI:i≤n1∧A=Po.ofL (l1.take i):=hI
 try dsimp only
 obtain ⟨hi,hA⟩:=hI
 have hAl:A.length=i:=by rw [hA];unfold Po.ofL;rw [List.length_map,List.length_take];omega
 refine ze<|za<|e_p (zda rfl rfl)<|zf<|zc<|ze<|zD rfl (fun h9=> ?_) (fun h9=> ?_)
 ·
  refine zB<|zc<|ze<|zw<|ze<|za<|zW (x0:=(l1.getD i 0)) 0 i rfl yb sz3 rfl rfl rfl (by first|rfl|assumption|(simp;done)|omega) rfl rfl (gD (d:=0) om) (fun b1 o2 hok3=> ?_)
  replace hok3:=zAa.1 hok3
  refine e_ru (zr (j:=0) 0 ty3 rfl rfl rfl rfl)<|e_p (zb rfl)<|zf<|zc<|za<|e_mv rfl<|e_mv rfl<|zj rfl rfl (.c rfl .n) ce42 (zbb (z:=(l1.getD i 0)) (hz:=cbo)) (.n) ?_
  rintro ⟨w34,w45⟩ -
  dsimp only [aq,nq,cq]
  refine zla rfl rfl (zha (r:=rQ) (k:=1) ya inf28 rfl dd dd dd (.c (x:=(((l1.getD i 0):Int):Rat)) (cs:=[w34.b,w34.l,w45.b,w45.l]) (w34,w45) rfl rfl rfl (fun g hr=>Holds.get 0 rfl hr) .n)) (fun b6 _=> ?_)
  refine zS 0 rfl .z<|zva 1 rfl rfl rfl (zfa 0 rfl ya inf28 dd rfl rfl (by first|rfl|assumption|(simp;done)|omega) rfl (by first|rfl|assumption|(simp;done)|omega) om om) (fun _=>(.s .z)) ?_
  rintro ⟨p7,c8⟩ -
  dsimp only [aq,nq,cq]
  refine e_p (zb rfl)<|zf<|zJ<|zc<|za<|e_p (zI (z:=(((i+1):Nat):Int)) rfl rfl (w64 om))<|e_mv rfl<|zf<|zX ((i+1),p7,c8,(A++([(((l1.getD i 0):Int):Rat)]))) (show (i+1)≤n1∧(A++([(((l1.getD i 0):Int):Rat)]))=Po.ofL (l1.take (i+1)) from by exact ⟨by omega,by rw [hA];exact Po.ofL_take om⟩) (by show n1 - (i+1)<n1 - i;omega) ((.e rfl (by simp) (.of rfl)):SubM _ _) (ho:=((.c (i:=1) rfl .n):PickO _ _ _)) ((.c (j:=3) rfl .n):SelR _ _ _)
 ·
  refine zba<|zi<|zi<|zq<|zc<|ze<|za<|e_mv rfl<|e_p (zb rfl)<|zf<|zc<|zE<|zYa 0 rfl .z ?_
  have hv9:A=Po.ofL l1:=by rw [hA,List.take_of_length_le om]
  exact zy Tryz.results40 (pR,cR) trivial (zo rfl) (by rw [← hv9]) (ho:=(.n:PickO _ _ _)) ((.e (j:=0) rfl (by rw [← hv9]) .n):SelR _ _ _)
theorem zmc {u1:Wd} {u2:Wd} {u3:Wd} {u4:Wd} {v1:Wd} {v2:Wd} {v3:Wd} {v4:Wd} {q1:Rat} {q2:Rat} {q3:Rat} {q4:Rat} (hl1:ye q1+ye q3+1≤1099511627776) (hl2:ye q2+ye q4+1≤1099511627776):Con yd 39 [.agg #[u1.b,u1.l,v1.b,v1.l,u2.b,u2.l,v2.b,v2.l],.agg #[u3.b,u3.l,v3.b,v3.l,u4.b,u4.l,v4.b,v4.l]] [] [qF true u1 v1 q1,qF true u2 v2 q2,qF true u3 v3 q3,qF true u4 v4 q4] (Y:=Unit) (fun y=>True) (fun y=> .bool (decide (q1=q3∧q2=q4))) (fun y=>[]) (fun y=>[]):=by
 refine zl Tryz.func39 rfl rfl rfl (fun c=> ?_)
 show RunC _ _ _ _ _ [(0,.agg #[u1.b,u1.l,v1.b,v1.l,u2.b,u2.l,v2.b,v2.l]),(1,.agg #[u3.b,u3.l,v3.b,v3.l,u4.b,u4.l,v4.b,v4.l])] [] [qF true u1 v1 q1,qF true u2 v2 q2,qF true u3 v3 q3,qF true u4 v4 q4]
 refine ze<|za<|zG rfl rfl (zM rfl rfl) (fun b1=> ?_)
 refine zG rfl rfl (zM rfl rfl) (fun b2=> ?_)
 refine e_p (zb rfl)<|zf<|zc<|zVa (X:=Unit) (fun x=>True) (fun x=>[(4,.bool (decide ((q1=q3)∧(q2=q4))))]) (fun x=>[boxA b2 48 (cw [u3,v3,u4,v4]),boxA b1 48 (cw [u1,v1,u2,v2])]) (fun x=>[qF true u1 v1 q1,qF true u2 v2 q2,qF true u3 v3 q3,qF true u4 v4 q4]) ?_ ?_
 ·
  refine za<|e_p (zg yc rfl sz28 rfl rfl)<|e_ru (zd 1 ty28 rfl rfl (.t4 .nil))<|e_p (zg yc rfl sz28 rfl rfl)<|e_ru (zd 0 ty28 rfl rfl (.t4 .nil))<|zL rfl rfl (.c rfl (.c rfl .n)) ce22 (zvb (u1:=u1) (v1:=v1) (q1:=q1) (u2:=u3) (v2:=v3) (q2:=q3) (hl:=ass)) (.c (j:=0) rfl (.c (j:=2) rfl .n))<|zna rfl rfl (zqa rfl) (fun h3=> ?_) (fun h3=> ?_)
  ·
   refine e_p (zg yc rfl sz28 rfl rfl)<|e_ru (zd 1 ty28 rfl rfl (.s4 (.t4 .nil)))<|e_p (zg yc rfl sz28 rfl rfl)<|e_ru (zd 0 ty28 rfl rfl (.s4 (.t4 .nil)))<|zL rfl rfl (.c rfl (.c rfl .n)) ce22 (zvb (u1:=u2) (v1:=v2) (q1:=q2) (u2:=u4) (v2:=v4) (q2:=q4) (hl:=ass)) (.c (j:=1) rfl (.c (j:=3) rfl .n))<|e_p (zP rfl rfl)<|e_p (zb rfl)<|zf ?_
   exact zsa () (show True from by first|trivial|omega|simp_all) ((.e rfl (congrArg Value.bool cbu) .n):SubM _ _) (ho:=((.of [0,0] rfl):PickO _ _ _)) ((.of [0,1,2,3] rfl):SelR _ _ _)
  ·
   refine e_no<|e_no<|e_no<|e_no<|e_no<|e_p (zP rfl rfl)<|e_p (zb rfl)<|zf ?_
   exact zsa () (show True from by first|trivial|omega|simp_all) ((.e rfl (congrArg Value.bool cbu) .n):SubM _ _) (ho:=((.of [0,0] rfl):PickO _ _ _)) ((.of [0,1,2,3] rfl):SelR _ _ _)
 ·
  rintro ⟨⟩ -
  try dsimp only [cw]
  refine zE ?_
  exact zy Tryz.results39 () trivial (zo rfl) rfl (ho:=(.n:PickO _ _ _)) (.n:SelR _ _ _)
end Go.Proofs.YtbiaimgafknkmaaGreat.Sp
namespace Go.Proofs.YtbiaimgafknkmaaGreat.Sp
open Go
set_option linter.unusedVariables false
set_option maxRecDepth 100000
set_option maxHeartbeats 8000000
theorem zLf {pL:Option Addr} {nL:Nat} {cL:Nat} {L:List (List Rat)} {bl:Nat} {bo:Nat} {bd:Nat} {n:Nat} {A:List (Rat×Rat)} {u1:Wd} {v1:Wd} {x1:Rat} {u2:Wd} {v2:Wd} {x2:Rat} (hnL:L.length=nL) (hmL:nL≤400) (hA:A.length+(Po.iso L (n+1) x1 x2).length≤1000000) (hk:Po.isk L (n+1) x1 x2) (ih:∀(A:List (Rat×Rat)) (u1 v1:Wd) (x1:Rat) (u2 v2:Wd) (x2:Rat) (hA:A.length+(Po.iso L n x1 x2).length≤1000000) (hk:Po.isk L n x1 x2),Con yd 79 [.agg #[u1.b,u1.l,v1.b,v1.l],.agg #[u2.b,u2.l,v2.b,v2.l],.pointer (some ⟨bl,0,none⟩),.pointer (some ⟨bo,0,none⟩),.pointer (some ⟨bd,0,none⟩)] [orA bo 60 48 rR A] [atF bl 0 [.slice pL nL cL],atF bd 0 [.func (.func 79) #[] #[.pointer (some ⟨bl,0,none⟩),.pointer (some ⟨bo,0,none⟩),.pointer (some ⟨bd,0,none⟩)]],slF (rS rQ) pL cL L,qF true u1 v1 x1,qF true u2 v2 x2] (Y:=Unit) (fun y=>True) (fun y=> .tuple #[]) (fun y=>[orA bo 60 48 rR (A++(Po.iso L n x1 x2))]) (fun y=>[])):Con yd 79 [.agg #[u1.b,u1.l,v1.b,v1.l],.agg #[u2.b,u2.l,v2.b,v2.l],.pointer (some ⟨bl,0,none⟩),.pointer (some ⟨bo,0,none⟩),.pointer (some ⟨bd,0,none⟩)] [orA bo 60 48 rR A] [atF bl 0 [.slice pL nL cL],atF bd 0 [.func (.func 79) #[] #[.pointer (some ⟨bl,0,none⟩),.pointer (some ⟨bo,0,none⟩),.pointer (some ⟨bd,0,none⟩)]],slF (rS rQ) pL cL L,qF true u1 v1 x1,qF true u2 v2 x2] (Y:=Unit) (fun y=>True) (fun y=> .tuple #[]) (fun y=>[orA bo 60 48 rR (A++(Po.iso L (n+1) x1 x2))]) (fun y=>[]):=by
 refine zl Tryz.func79 rfl rfl rfl (fun c=> ?_)
 show RunC _ _ _ _ _ [(0,.agg #[u1.b,u1.l,v1.b,v1.l]),(1,.agg #[u2.b,u2.l,v2.b,v2.l]),(2,.pointer (some ⟨bl,0,none⟩)),(3,.pointer (some ⟨bo,0,none⟩)),(4,.pointer (some ⟨bd,0,none⟩))] [orA bo 60 48 rR A] [atF bl 0 [.slice pL nL cL],atF bd 0 [.func (.func 79) #[] #[.pointer (some ⟨bl,0,none⟩),.pointer (some ⟨bo,0,none⟩),.pointer (some ⟨bd,0,none⟩)]],slF (rS rQ) pL cL L,qF true u1 v1 x1,qF true u2 v2 x2]
 refine zQ 2 rfl (fun hL2=> ?_)
 obtain ⟨⟨hx1,hx2,hv1,hv2⟩,hr⟩:=hk
 refine ze<|za<|zG rfl rfl (zM rfl rfl) (fun b1=> ?_)
 refine zG rfl rfl (zM rfl rfl) (fun b2=> ?_)
 refine zf<|zc<|ze<|za<|e_ru (zr (j:=0) 0 ty76 rfl rfl rfl rfl)<|e_ru (zd 1 ty28 rfl rfl (.t4 .nil))<|e_ru (zd 0 ty28 rfl rfl (.t4 .nil))<|zL rfl rfl (.c rfl (.c rfl (.c rfl .n))) ce70 (zle (pL:=pL) (nL:=nL) (cL:=cL) (L:=L) (u1:=u1) (v1:=v1) (x1:=x1) (u2:=u2) (v2:=v2) (x2:=x2) (hnL:=ass) (hmL:=ass) (hx1:=by first|omega|rfl|assumption|decide) (hx2:=by first|omega|rfl|assumption|decide) (hv1:=by first|omega|rfl|assumption|decide) (hv2:=by first|omega|rfl|assumption|decide)) (.c (j:=2) rfl (.c (j:=3) rfl (.c (j:=4) rfl .n)))<|zf<|zc<|zw<|ze<|za<|e_p (zpa rfl rfl)<|e_p (zb rfl)<|zf<|zc<|zD rfl (fun h23=> ?_) (fun h23=> ?_)
 ·
  have hmo:=Po.iso_none (n:=n+1) h23
  refine zB<|zJ<|zUf<|zJe (fun w mm=>mm.orCast (l2:=(A++Po.iso L (n+1) x1 x2)) 2 rfl (by rw [hmo,List.append_nil])) ?_
  dsimp only [List.eraseIdx]
  exact zEe Tryz.results79 () trivial rfl (ho:=((.c (i:=0) rfl .n):PickO _ _ _)) (.n:SelR _ _ _)
 ·
  refine ze<|za<|e_p (zpa rfl rfl)<|e_p (zb rfl)<|zf<|zc<|zD rfl (fun h25=> ?_) (fun h25=> ?_)
  ·
   have hmo:=Po.iso_one (n:=n) h25
   have hml:(Po.iso L (n+1) x1 x2).length=1:=by rw [hmo];rfl
   refine zNf (fun w mm=>mm.orOpen 2 rfl) ?_
   rintro ⟨p3,c4⟩ -
   dsimp only [List.eraseIdx]
   refine za<|e_ru (zh 0 ty60 rfl rfl rfl)<|e_ru (zd 3 ty28 rfl rfl (.t4 .nil))<|e_ru (zd 2 ty28 rfl rfl (.t4 .nil))<|e_p (zN zr48 rfl yc (.c sz28 (.c sz28 .n)) (.c rfl (.c rfl .n)) (.c rfl rfl rfl (.t4 .nil) (.c rfl rfl rfl (.s4 (.t4 .nil)) .n)))<|zla rfl rfl (zha (r:=rR) (k:=1) yg inf48 rfl dd dd dd (.c (x:=(x1,x2)) (cs:=[u1.b,u1.l,v1.b,v1.l,u2.b,u2.l,v2.b,v2.l]) (u1,v1,u2,v2) rfl rfl rfl (fun g hr=>⟨Holds.get 3 rfl hr,Holds.get 4 rfl hr⟩) .n)) (fun b6 _=> ?_)
   refine zS 0 rfl .z<|zva 2 rfl rfl rfl (zfa 0 rfl yg inf48 dd rfl rfl (by first|rfl|assumption|(simp;done)|omega) rfl (by first|rfl|assumption|(simp;done)|omega) om om) (fun _=>(.s (.s .z))) ?_
   rintro ⟨p7,c8⟩ -
   dsimp only [aq,nq,cq]
   refine zk 1 rfl rfl rfl rfl rfl sz60 rfl (.take .nil) (.s .z)<|zf<|zJ<|zUf<|zJe (fun w mm=>mm.orClose 1 1 rfl rfl (by simp)) ?_
   dsimp only [List.eraseIdx]
   refine zJe (fun w mm=>mm.orCast (l2:=(A++Po.iso L (n+1) x1 x2)) 0 rfl (by rw [hmo])) ?_
   dsimp only [List.eraseIdx]
   exact zEe Tryz.results79 () trivial rfl (ho:=((.c (i:=0) rfl .n):PickO _ _ _)) (.n:SelR _ _ _)
  ·
   obtain ⟨hr1,hr2⟩:=hr h23 h25
   have hmo:=Po.iso_more (n:=n) h23 h25
   have hml:(Po.iso L (n+1) x1 x2).length=(Po.iso L n x1 (Po.mid x1 x2)).length+(Po.iso L n (Po.mid x1 x2) x2).length:=by rw [hmo,List.length_append]
   refine ze<|za<|e_ru (zd 1 ty28 rfl rfl (.t4 .nil))<|e_ru (zd 0 ty28 rfl rfl (.t4 .nil))<|zj rfl rfl (.c rfl (.c rfl .n)) ce71 (zRd (u1:=u1) (v1:=v1) (x1:=x1) (u2:=u2) (v2:=v2) (x2:=x2) (hx1:=by first|omega|rfl|assumption|decide) (hx2:=by first|omega|rfl|assumption|decide)) (.c (j:=3) rfl (.c (j:=4) rfl .n)) ?_
   rintro ⟨w39,w410⟩ -
   dsimp only [aq,nq,cq]
   refine zG rfl rfl (zx zr28 rfl) (fun b11=> ?_)
   refine zk 0 rfl rfl rfl rfl rfl sz28 rfl (.t4 .nil) .z<|zf<|zc<|ze<|za<|e_ru (zr (j:=0) 2 ty82 rfl rfl rfl rfl)<|e_ru (zd 2 ty28 rfl rfl (.t4 .nil))<|e_ru (zd 0 ty28 rfl rfl (.t4 .nil))<|l_perm (zaa (i:=3) rfl)<|zHd (A:=[orA bo 60 48 rR A]) (F:=[boxA b11 28 [w39.b,w39.l,w410.b,w410.l],boxA b2 28 [u2.b,u2.l,v2.b,v2.l],boxA b1 28 [u1.b,u1.l,v1.b,v1.l]]) (first:=[]) (cap:=[.pointer (some ⟨bl,0,none⟩),.pointer (some ⟨bo,0,none⟩),.pointer (some ⟨bd,0,none⟩)]) rfl rfl rfl (.c rfl (.c rfl .n)) ce79 (ih (A:=A) (u1:=u1) (v1:=v1) (x1:=x1) (u2:=w39) (v2:=w410) (x2:=(Po.mid x1 x2)) (hA:=by first|omega|rfl|assumption|decide) (hk:=by first|omega|rfl|assumption|decide)) (.c (j:=1) rfl (.c (j:=2) rfl (.c (j:=3) rfl (.c (j:=4) rfl (.c (j:=0) rfl .n))))) ?_
   rintro ⟨⟩ -
   dsimp only [aq,nq,cq]
   refine zf<|zc<|za<|e_ru (zr (j:=0) 2 ty82 rfl rfl rfl rfl)<|e_ru (zd 1 ty28 rfl rfl (.t4 .nil))<|e_ru (zd 2 ty28 rfl rfl (.t4 .nil))<|zHd (A:=[orA bo 60 48 rR (A++(Po.iso L n x1 (Po.mid x1 x2)))]) (F:=[boxA b11 28 [w39.b,w39.l,w410.b,w410.l],boxA b2 28 [u2.b,u2.l,v2.b,v2.l],boxA b1 28 [u1.b,u1.l,v1.b,v1.l]]) (first:=[]) (cap:=[.pointer (some ⟨bl,0,none⟩),.pointer (some ⟨bo,0,none⟩),.pointer (some ⟨bd,0,none⟩)]) rfl rfl rfl (.c rfl (.c rfl .n)) ce79 (ih (A:=(A++(Po.iso L n x1 (Po.mid x1 x2)))) (u1:=w39) (v1:=w410) (x1:=(Po.mid x1 x2)) (u2:=u2) (v2:=v2) (x2:=x2) (hA:=by rw [List.length_append];omega) (hk:=by first|omega|rfl|assumption|decide)) (.c (j:=1) rfl (.c (j:=2) rfl (.c (j:=3) rfl (.c (j:=0) rfl (.c (j:=5) rfl .n))))) ?_
   rintro ⟨⟩ -
   dsimp only [aq,nq,cq]
   refine zf<|zJ<|zUf<|zJe (fun w mm=>mm.orCast (l2:=(A++Po.iso L (n+1) x1 x2)) 0 rfl (by rw [hmo,List.append_assoc])) ?_
   dsimp only [List.eraseIdx]
   exact zEe Tryz.results79 () trivial rfl (ho:=((.c (i:=0) rfl .n):PickO _ _ _)) (.n:SelR _ _ _)
theorem zgg {pL:Option Addr} {nL:Nat} {cL:Nat} {L:List (List Rat)} {bl:Nat} {bo:Nat} {bd:Nat} {n:Nat} {A:List (Rat×Rat)} {u1:Wd} {v1:Wd} {x1:Rat} {u2:Wd} {v2:Wd} {x2:Rat} (hnL:L.length=nL) (hmL:nL≤400) (hA:A.length+(Po.iso L n x1 x2).length≤1000000) (hk:Po.isk L n x1 x2):Con yd 79 [.agg #[u1.b,u1.l,v1.b,v1.l],.agg #[u2.b,u2.l,v2.b,v2.l],.pointer (some ⟨bl,0,none⟩),.pointer (some ⟨bo,0,none⟩),.pointer (some ⟨bd,0,none⟩)] [orA bo 60 48 (rR) (A)] [atF bl (0) [.slice (pL) (nL) (cL)],atF bd (0) [.func (.func 79) #[] #[.pointer (some ⟨bl,0,none⟩),.pointer (some ⟨bo,0,none⟩),.pointer (some ⟨bd,0,none⟩)]],slF (rS (rQ)) (pL) (cL) (L),qF true u1 v1 (x1),qF true u2 v2 (x2)] (Y:=Unit) (fun y=>True) (fun y=> .tuple #[]) (fun y=>[orA bo 60 48 (rR) ((A++(Po.iso L n x1 x2)))]) (fun y=>[]):=by
  induction n generalizing A u1 v1 x1 u2 v2 x2 with
  |zero=>exact hk.elim
  |succ n ih=>exact zLf hnL hmL hA hk (fun A u1 v1 x1 u2 v2 x2 hA hk=>by apply ih <;> assumption)
theorem zBd {p1:Option Addr} {n1:Nat} {c1:Nat} {l1:List (Option Rat)} {n:Nat} (hn1:l1.length=n1) (hm1:n1≤190) (hok:Po.sok (Po.vals l1)) (hb:Po.bd 40000000000 (Po.vals l1)) (hne:(Po.sturm (Po.vals l1)).length≠0) (hne2:(Po.cl (Po.vals l1)).length≠0) (hlS:(Po.sturm (Po.vals l1)).length≤400) (hA:(Po.iso (Po.sturm (Po.vals l1)) n (-(Po.bound (Po.cl (Po.vals l1)))) (Po.bound (Po.cl (Po.vals l1)))).length≤1000000) (hk:Po.isk (Po.sturm (Po.vals l1)) n (-(Po.bound (Po.cl (Po.vals l1)))) (Po.bound (Po.cl (Po.vals l1)))):Con yd 43 [.slice p1 n1 c1] [] [slF rE p1 c1 l1] (Y:=(Option Addr)×Nat) (fun y=>True) (fun y=> .tuple #[.slice (y.1) ((Po.iso (Po.sturm (Po.vals l1)) n (-(Po.bound (Po.cl (Po.vals l1)))) (Po.bound (Po.cl (Po.vals l1)))).length) (y.2),.int .i64 0]) (fun y=>[]) (fun y=>[slF rR (y.1) (y.2) (Po.iso (Po.sturm (Po.vals l1)) n (-(Po.bound (Po.cl (Po.vals l1)))) (Po.bound (Po.cl (Po.vals l1))))]):=by
 refine zl Tryz.func43 rfl rfl rfl (fun c=> ?_)
 show RunC _ _ _ _ _ [(0,.slice p1 n1 c1)] [] [slF rE p1 c1 l1]
 refine zQ 0 rfl (fun hL0=> ?_)
 refine ze<|za<|e_p (zb rfl)<|e_p (zb rfl)<|zf<|zc<|ze<|za<|e_mv rfl<|zj rfl rfl (.c rfl .n) ce67 (zWc (p1:=p1) (n1:=n1) (c1:=c1) (l1:=l1) (hn1:=ass) (hm1:=ass) (hok:=ass)) (.c (j:=0) rfl .n) ?_
 rintro ⟨p91,c92⟩ -
 dsimp only [aq,nq,cq]
 refine zG rfl rfl (zx zr76 rfl) (fun b3=> ?_)
 refine zk 0 rfl rfl rfl rfl rfl sz76 rfl (.take .nil) .z<|zf<|zc<|ze<|ze<|za<|e_ru (zh 0 ty76 rfl rfl rfl)<|e_p (zC yf rfl)<|e_p (zpa rfl rfl)<|zf<|zc<|zD rfl (fun h13=> ?_) (fun h13=> ?_)
 ·
  omega
 ·
  refine zB<|zc<|ze<|za<|e_mv rfl<|zj rfl rfl (.c rfl .n) ce78 (zBe (p1:=p1) (n1:=n1) (c1:=c1) (l1:=l1) (hn1:=ass) (hm1:=ass) (hb:=by exact Po.bd_mono hb dd) (hne:=ass)) (.c (j:=1) rfl .n) ?_
  rintro ⟨w34,w45⟩ -
  dsimp only [aq,nq,cq]
  refine e_mv rfl<|e_p (zm rfl rfl)<|e_p (zm rfl rfl)<|zG rfl rfl (zx zr28 rfl) (fun b6=> ?_)
  refine zk 0 rfl rfl rfl rfl rfl sz28 rfl (.t4 .nil) .z<|e_p (zb rfl)<|zf<|zc<|ze<|za<|zG rfl rfl (zx zr60 rfl) (fun b7=> ?_)
  refine zf<|zc<|ze<|za<|zG rfl rfl (zx zr82 rfl) (fun b8=> ?_)
  refine zf<|zc<|ze<|za<|e_p (ztc .n (.c rfl (.c rfl (.c rfl .n))))<|zk 0 rfl rfl rfl rfl rfl sz82 rfl (.take .nil) .z<|zf<|zc<|ze<|zjd 3 rfl (.s (.s (.s .z)))<|zjd 0 rfl .z<|znc 48 rR<|c_mem (fun w mm=>mm.orClose 2 0 rfl rfl (by rfl)) ?_
  dsimp only [List.eraseIdx]
  refine zV (OW:=[orA b7 60 48 rR ([])]) (O:=[emA,boxA b6 28 (cw [w34,w45]),emA]) 4 mixed (.then .ret) kr<|e_u 0 rfl rfl (zr (j:=0) 0 ty82 rfl rfl rfl rfl)<|e_uw 1 rfl rfl (zd 2 ty28 rfl rfl (.t4 .nil))<|e_uw 3 rfl rfl (zd 2 ty28 rfl rfl (.t4 .nil))<|e_one 2 (zu rfl rfl rfl rfl (.c rfl .n) ce80 (zhe (k1:=true) (u1:=w34) (v1:=w45) (q1:=(Po.bound (Po.cl (Po.vals l1)))) (hl:=by exact Nat.le_trans (Po.bound_hq (Po.bd_cl hb) (Po.lead_ne (Po.cl_cl _) (fun e=>hne2 (by rw [e];rfl)))) dd)) (.c (j:=2) rfl .n) ?_)
  rintro ⟨w39,w410⟩ -
  dsimp only [aq,nq,cq]
  refine e_one 4 (zWf (first:=[]) (cap:=[.pointer (some ⟨b3,0,none⟩),.pointer (some ⟨b7,0,none⟩),.pointer (some ⟨b8,0,none⟩)]) (A':=fun y=>orA b7 60 48 rR (([])++(Po.iso (Po.sturm (Po.vals l1)) n (- (Po.bound (Po.cl (Po.vals l1)))) (Po.bound (Po.cl (Po.vals l1)))))) kr rfl rfl rfl rfl (.c rfl (.c rfl .n)) ce79 (zgg (pL:=p91) (nL:=(Po.sturm (Po.vals l1)).length) (cL:=c92) (L:=(Po.sturm (Po.vals l1))) (bl:=b3) (bo:=b7) (bd:=b8) (n:=n) (A:=[]) (u1:=w39) (v1:=w410) (x1:= - (Po.bound (Po.cl (Po.vals l1)))) (u2:=w34) (v2:=w45) (x2:=(Po.bound (Po.cl (Po.vals l1)))) (hnL:=by rfl) (hmL:=ass) (hA:=by show 0+_≤_;rw [Nat.zero_add];exact hA) (hk:=ass)) (.c (j:=2) rfl (.c (j:=1) rfl (.c (j:=4) rfl (.c (j:=0) rfl (.c (j:=3) rfl .n))))) ?_)
  rintro ⟨⟩ -
  dsimp only [aq,nq,cq]
  refine zT kr<|zc<|ze<|zNf (fun w mm=>mm.orOpen 0 rfl) ?_
  rintro ⟨p11,c12⟩ -
  dsimp only [List.eraseIdx]
  refine za<|e_ru (zh 0 ty60 rfl rfl rfl)<|e_p (zb rfl)<|e_p (zb rfl)<|zf<|zc<|zE<|zYa 1 rfl (.s .z) ?_
  exact zFa Tryz.results43 (p11,c12) trivial (zo rfl) (zo rfl) rfl (ho:=(.n:PickO _ _ _)) ((.c (j:=0) rfl .n):SelR _ _ _)
end Go.Proofs.YtbiaimgafknkmaaGreat.Sp
namespace Go.Proofs.YtbiaimgafknkmaaGreat.Sp
open Go
set_option linter.unusedVariables false
set_option maxRecDepth 100000
set_option maxHeartbeats 8000000
theorem zkf:Con yd 9 [] [] [] (Y:=Unit) (fun y=>True) (fun y=> .bool true) (fun y=>[]) (fun y=>[]):=by
 refine zl Tryz.func9 rfl rfl rfl (fun c=> ?_)
 show RunC _ _ _ _ _ [] [] []
 have hR:Po.eR.length=2:=rfl
 refine ze<|za<|e_p (zb rfl)<|zf<|zc<|ze<|za<|zla rfl rfl (zK (enc:=fun z:Int=>[.int .i64 z]) (ok:=InK .i64) (h1:=fun _=>rfl) (h2:=fun _=>rfl) (k:=2) yb inf3 rfl dd dd dd (.c (x:=(-1)) rfl rfl (fun _ _=>by exact zAa.2 om) (.c (x:=1) rfl rfl (fun _ _=>by exact zAa.2 om) .n))) (fun b1 _=> ?_)
 refine zS 0 rfl .z<|zj rfl rfl (.c rfl .n) ce40 (zKc (p1:=some ⟨b1,0,none⟩) (n1:=2) (c1:=2) (l1:=[(-1),1]) (hn1:=by rfl) (hm1:=dd)) (.c (j:=0) rfl .n) ?_
 rintro ⟨p92,c93⟩ -
 dsimp only [aq,nq,cq]
 refine zla rfl rfl (zK (enc:=fun z:Int=>[.int .i64 z]) (ok:=InK .i64) (h1:=fun _=>rfl) (h2:=fun _=>rfl) (k:=2) yb inf3 rfl dd dd dd (.c (x:=2) rfl rfl (fun _ _=>by exact zAa.2 om) (.c (x:=1) rfl rfl (fun _ _=>by exact zAa.2 om) .n))) (fun b4 _=> ?_)
 refine zS 0 rfl .z<|zj rfl rfl (.c rfl .n) ce40 (zKc (p1:=some ⟨b4,0,none⟩) (n1:=2) (c1:=2) (l1:=[2,1]) (hn1:=by rfl) (hm1:=dd)) (.c (j:=0) rfl .n) ?_
 rintro ⟨p95,c96⟩ -
 dsimp only [aq,nq,cq]
 refine zga (addQE 2 rfl)<|zga (addQE 1 rfl)<|zj rfl rfl (.c rfl (.c rfl .n)) ce17 (zrc (p1:=p92) (n1:=(Po.ofL ([(-1),1])).length) (c1:=c93) (l1:=((Po.ofL ([(-1),1])).map some)) (p2:=p95) (n2:=(Po.ofL ([2,1])).length) (c2:=c96) (l2:=((Po.ofL ([2,1])).map some)) (hn1:=by exact List.length_map _) (hm1:=dd) (hn2:=by exact List.length_map _) (hm2:=dd) (hm12:=dd) (hb1:=by rw [Po.vals_some];exact Po.bd_dec (by decide +kernel) dd) (hb2:=by rw [Po.vals_some];exact Po.bd_dec (by decide +kernel) dd) (hs:=by rw [Po.vals_some,Po.vals_some];exact fun k lo n _=>Po.cv_hq_of (K:=1) (L:=1) (N:=10) (Po.bd_cl (Po.bd_dec (by decide +kernel) dd)) (Po.bd_cl (Po.bd_dec (by decide +kernel) dd)) (by decide +kernel) dd k lo n)) (.c (j:=1) rfl (.c (j:=0) rfl .n)) ?_
 rintro ⟨p97,c98⟩ -
 dsimp only [aq,nq,cq]
 refine e_p (zb rfl)<|zf<|zc<|ze ?_
 have e9:(Po.mul (Po.vals ((Po.ofL ([(-1),1])).map some)) (Po.vals ((Po.ofL ([2,1])).map some)):List Rat)=Po.e1:=by rw [Po.vals_some,Po.vals_some];exact Po.ex_mul
 rw [e9]
 refine za<|e_mv rfl<|zla rfl rfl (zK (enc:=fun z:Int=>[.int .i64 z]) (ok:=InK .i64) (h1:=fun _=>rfl) (h2:=fun _=>rfl) (k:=2) yb inf3 rfl dd dd dd (.c (x:=(-1)) rfl rfl (fun _ _=>by exact zAa.2 om) (.c (x:=1) rfl rfl (fun _ _=>by exact zAa.2 om) .n))) (fun b10 _=> ?_)
 refine zS 0 rfl .z<|zj rfl rfl (.c rfl .n) ce40 (zKc (p1:=some ⟨b10,0,none⟩) (n1:=2) (c1:=2) (l1:=[(-1),1]) (hn1:=by rfl) (hm1:=dd)) (.c (j:=0) rfl .n) ?_
 rintro ⟨p911,c912⟩ -
 dsimp only [aq,nq,cq]
 refine zga (addQE 2 rfl)<|zga (addQE 1 rfl)<|zj rfl rfl (.c rfl (.c rfl .n)) ce26 (zib (p1:=p97) (n1:=(Po.e1).length) (c1:=c98) (l1:=((Po.e1).map some)) (p2:=p911) (n2:=(Po.ofL ([(-1),1])).length) (c2:=c912) (l2:=((Po.ofL ([(-1),1])).map some)) (hn1:=by exact List.length_map _) (hm1:=dd) (hn2:=by exact List.length_map _) (hm2:=dd) (hm12:=dd) (hb2:=by rw [Po.vals_some];exact Po.bd_dec (by decide +kernel) dd) (hok:=by rw [Po.vals_some,Po.vals_some];exact (Po.dgo_of (Po.cb_dec (by decide +kernel) dd) (Po.cb_dec (by decide +kernel) dd) dd (by decide +kernel)).2)) (.c (j:=1) rfl (.c (j:=0) rfl .n)) ?_
 rintro ⟨p813,c814,p915,c916⟩ -
 dsimp only [aq,nq,cq]
 refine e_mv rfl<|e_p (zm rfl rfl)<|e_p (zm rfl rfl)<|e_p (zm rfl rfl)<|e_p (zb rfl)<|e_p (zb rfl)<|e_p (zb rfl)<|zf<|zc<|ze ?_
 have e17:(Po.dq (Po.vals ((Po.e1).map some)) (Po.vals ((Po.ofL ([(-1),1])).map some)):List Rat)=Po.ofL [2,1]:=by rw [Po.vals_some,Po.vals_some];exact Po.ex_q
 rw [e17]
 have e18:(Po.dr (Po.vals ((Po.e1).map some)) (Po.vals ((Po.ofL ([(-1),1])).map some)):List Rat)=([]:List Rat):=by rw [Po.vals_some,Po.vals_some];exact Po.ex_r
 rw [e18]
 have e19:(([]:List Rat).length:Nat)=0:=by rfl
 rw [e19]
 have e20:(Po.dc (Po.vals ((Po.ofL ([(-1),1])).map some)):Int)=0:=by rw [Po.vals_some];exact Po.ex_c
 rw [e20]
 refine za<|zla rfl rfl (zK (enc:=fun z:Int=>[.int .i64 z]) (ok:=InK .i64) (h1:=fun _=>rfl) (h2:=fun _=>rfl) (k:=3) yb inf3 rfl dd dd dd (.c (x:=(-2)) rfl rfl (fun _ _=>by exact zAa.2 om) (.c (x:=0) rfl rfl (fun _ _=>by exact zAa.2 om) (.c (x:=1) rfl rfl (fun _ _=>by exact zAa.2 om) .n)))) (fun b21 _=> ?_)
 refine zS 0 rfl .z<|zj rfl rfl (.c rfl .n) ce40 (zKc (p1:=some ⟨b21,0,none⟩) (n1:=3) (c1:=3) (l1:=[(-2),0,1]) (hn1:=by rfl) (hm1:=dd)) (.c (j:=0) rfl .n) ?_
 rintro ⟨p922,c923⟩ -
 dsimp only [aq,nq,cq]
 refine zga (addQE 0 rfl)<|zj rfl rfl (.c rfl .n) ce43 (zBd (p1:=p922) (n1:=(Po.ofL ([(-2),0,1])).length) (c1:=c923) (l1:=((Po.ofL ([(-2),0,1])).map some)) (n:=10) (hn1:=by exact List.length_map _) (hm1:=dd) (hok:=by rw [Po.vals_some];exact Po.ex_s2.1) (hb:=by rw [Po.vals_some];exact Po.bd_dec (by decide +kernel) dd) (hne:=by rw [Po.vals_some];exact Po.ex_ne2) (hne2:=by rw [Po.vals_some];decide +kernel) (hlS:=by rw [Po.vals_some];exact Nat.le_trans Po.ex_l2 dd) (hA:=by rw [Po.vals_some];rw [show Po.iso (Po.sturm (Po.ofL [(-2),0,1])) 10 (-Po.bound (Po.cl (Po.ofL [(-2),0,1]))) (Po.bound (Po.cl (Po.ofL [(-2),0,1])))=Po.eR from Po.ex_iso];decide) (hk:=by rw [Po.vals_some];exact Po.ex_k2)) (.c (j:=0) rfl .n) ?_
 rintro ⟨p924,c925⟩ -
 dsimp only [aq,nq,cq]
 refine e_mv rfl<|e_p (zm rfl rfl)<|e_p (zm rfl rfl)<|e_p (zb rfl)<|e_p (zb rfl)<|zf<|zc<|ze ?_
 have e26:(Po.iso (Po.sturm (Po.vals ((Po.ofL ([(-2),0,1])).map some))) 10 (-(Po.bound (Po.cl (Po.vals ((Po.ofL ([(-2),0,1])).map some))))) (Po.bound (Po.cl (Po.vals ((Po.ofL ([(-2),0,1])).map some)))):List (Rat×Rat))=Po.eR:=by rw [Po.vals_some];exact Po.ex_iso
 rw [e26]
 refine za<|zla rfl rfl (zK (enc:=fun z:Int=>[.int .i64 z]) (ok:=InK .i64) (h1:=fun _=>rfl) (h2:=fun _=>rfl) (k:=4) yb inf3 rfl dd dd dd (.c (x:=0) rfl rfl (fun _ _=>by exact zAa.2 om) (.c (x:=(-1)) rfl rfl (fun _ _=>by exact zAa.2 om) (.c (x:=0) rfl rfl (fun _ _=>by exact zAa.2 om) (.c (x:=1) rfl rfl (fun _ _=>by exact zAa.2 om) .n))))) (fun b27 _=> ?_)
 refine zS 0 rfl .z<|zj rfl rfl (.c rfl .n) ce40 (zKc (p1:=some ⟨b27,0,none⟩) (n1:=4) (c1:=4) (l1:=[0,(-1),0,1]) (hn1:=by rfl) (hm1:=dd)) (.c (j:=0) rfl .n) ?_
 rintro ⟨p928,c929⟩ -
 dsimp only [aq,nq,cq]
 refine zj rfl rfl (.c rfl .n) ce42 (zbb (z:=(-1)) (hz:=by first|rfl|decide|omega)) (.n) ?_
 rintro ⟨w330,w431⟩ -
 dsimp only [aq,nq,cq]
 refine zj rfl rfl (.c rfl .n) ce42 (zbb (z:=1) (hz:=by first|rfl|decide|omega)) (.n) ?_
 rintro ⟨w332,w433⟩ -
 dsimp only [aq,nq,cq]
 refine zga (addQE 2 rfl)<|zL rfl rfl (.c rfl (.c rfl (.c rfl .n))) ce45 (zCe (p1:=p928) (n1:=(Po.ofL ([0,(-1),0,1])).length) (c1:=c929) (l1:=((Po.ofL ([0,(-1),0,1])).map some)) (u1:=w330) (v1:=w431) (x1:=(((-1):Int):Rat)) (u2:=w332) (v2:=w433) (x2:=((1:Int):Rat)) (hn1:=by exact List.length_map _) (hm1:=dd) (hok:=by rw [Po.vals_some];exact Po.ex_s3.1) (hne:=by rw [Po.vals_some];exact Po.ex_ne3) (hlS:=by rw [Po.vals_some];exact Nat.le_trans Po.ex_l3 dd) (hx1:=by decide +kernel) (hx2:=by decide +kernel) (hv1:=by rw [Po.vals_some];exact Po.vok_sturm Po.ex_s3.2 (by decide +kernel)) (hv2:=by rw [Po.vals_some];exact Po.vok_sturm Po.ex_s3.2 (by decide +kernel)) (hle:=by decide +kernel)) (.c (j:=0) rfl (.c (j:=2) rfl (.c (j:=1) rfl .n)))<|e_mv rfl<|e_p (zm rfl rfl)<|e_p (zm rfl rfl)<|e_p (zb rfl)<|e_p (zb rfl)<|zf<|zc<|zVa (X:=Unit) (fun x=>True) (fun x=>[(0,.bool true)]) (fun x=>[]) (fun x=>[slF rE p928 c929 ((Po.ofL ([0,(-1),0,1])).map some),qF true w332 w433 ((1:Int):Rat),qF true w330 w431 (((-1):Int):Rat),slF rQ p928 c929 (Po.ofL ([0,(-1),0,1])),slF (rI .i64) (some ⟨b27,0,none⟩) 4 ([0,(-1),0,1]),slF rR p924 c925 (Po.eR),slF rE p922 c923 ((Po.ofL ([(-2),0,1])).map some),slF rQ p922 c923 (Po.ofL ([(-2),0,1])),slF (rI .i64) (some ⟨b21,0,none⟩) 3 ([(-2),0,1]),slF rQ p813 c814 (Po.ofL [2,1]),slF rQ p915 c916 ([]:List Rat),slF rE p911 c912 ((Po.ofL ([(-1),1])).map some),slF rE p97 c98 ((Po.e1).map some),slF rQ p911 c912 (Po.ofL ([(-1),1])),slF (rI .i64) (some ⟨b10,0,none⟩) 2 ([(-1),1]),slF rQ p97 c98 (Po.e1),slF rE p95 c96 ((Po.ofL ([2,1])).map some),slF rE p92 c93 ((Po.ofL ([(-1),1])).map some),slF rQ p95 c96 (Po.ofL ([2,1])),slF (rI .i64) (some ⟨b4,0,none⟩) 2 ([2,1]),slF rQ p92 c93 (Po.ofL ([(-1),1])),slF (rI .i64) (some ⟨b1,0,none⟩) 2 ([(-1),1])]) ?_ ?_
 ·
  have e34:(Po.bt (Po.sturm (Po.vals ((Po.ofL ([0,(-1),0,1])).map some))) (((-1):Int):Rat) ((1:Int):Rat):Int)=2:=by rw [Po.vals_some];exact Po.ex_bt
  rw [e34]
  refine zV (OW:=[]) (O:=[emA,emA,emA,emA,emA]) 100000 mixed (.then .ret) kr<|e_dm 0 rfl rfl rfl<|e_dm 1 rfl rfl rfl<|e_pv 2 rfl rfl (zI (z:=0) rfl rfl (w64 dd))<|e_dm 3 rfl rfl rfl<|e_pv 4 rfl rfl (zI (z:=0) rfl rfl (w64 dd))<|e_pv 5 rfl rfl (zpa rfl rfl)<|e_dm 6 rfl rfl rfl<|e_dm 7 rfl rfl rfl<|e_one 8 (zGe rfl rfl rfl rfl (zK (enc:=fun z:Int=>[.int .i64 z]) (ok:=InK .i64) (h1:=fun _=>rfl) (h2:=fun _=>rfl) (k:=3) yb inf3 rfl dd dd dd (.c (x:=(-2)) rfl rfl (fun _ _=>by exact zAa.2 om) (.c (x:=1) rfl rfl (fun _ _=>by exact zAa.2 om) (.c (x:=1) rfl rfl (fun _ _=>by exact zAa.2 om) .n)))) (fun b35 _=> ?_))
  refine zSb 0 rfl .z<|e_one 9 (zu rfl rfl rfl rfl (.c rfl .n) ce40 (zKc (p1:=some ⟨b35,0,none⟩) (n1:=3) (c1:=3) (l1:=[(-2),1,1]) (hn1:=by rfl) (hm1:=dd)) (.c (j:=0) rfl .n) ?_)
  rintro ⟨p936,c937⟩ -
  dsimp only [aq,nq,cq]
  refine e_one 10 (zQa rfl rfl rfl rfl (.c rfl (.c rfl .n)) ce12 (zFb (p1:=p97) (n1:=(Po.e1).length) (c1:=c98) (l1:=(Po.e1)) (p2:=p936) (n2:=(Po.ofL ([(-2),1,1])).length) (c2:=c937) (l2:=(Po.ofL ([(-2),1,1]))) (hn1:=by rfl) (hm1:=dd) (hn2:=by rfl) (hm2:=dd) (hb1:=by exact Po.bd_dec (by decide +kernel) dd) (hb2:=by exact Po.bd_dec (by decide +kernel) dd)) (.c (j:=17) rfl (.c (j:=0) rfl .n)) ?_)
  rw [show (decide ((Po.e1)=(Po.ofL ([(-2),1,1]))))=true from by exact decide_eq_true (by decide +kernel)]
  refine e_pv 11 rfl rfl (zP rfl rfl)<|e_dm 12 rfl rfl rfl<|e_dm 13 rfl rfl rfl<|e_one 14 (zGe rfl rfl rfl rfl (zK (enc:=fun z:Int=>[.int .i64 z]) (ok:=InK .i64) (h1:=fun _=>rfl) (h2:=fun _=>rfl) (k:=2) yb inf3 rfl dd dd dd (.c (x:=2) rfl rfl (fun _ _=>by exact zAa.2 om) (.c (x:=1) rfl rfl (fun _ _=>by exact zAa.2 om) .n))) (fun b38 _=> ?_))
  refine zSb 0 rfl .z<|e_one 15 (zu rfl rfl rfl rfl (.c rfl .n) ce40 (zKc (p1:=some ⟨b38,0,none⟩) (n1:=2) (c1:=2) (l1:=[2,1]) (hn1:=by rfl) (hm1:=dd)) (.c (j:=0) rfl .n) ?_)
  rintro ⟨p939,c940⟩ -
  dsimp only [aq,nq,cq]
  refine e_one 16 (zQa rfl rfl rfl rfl (.c rfl (.c rfl .n)) ce12 (zFb (p1:=p813) (n1:=(Po.ofL [2,1]).length) (c1:=c814) (l1:=(Po.ofL [2,1])) (p2:=p939) (n2:=(Po.ofL ([2,1])).length) (c2:=c940) (l2:=(Po.ofL ([2,1]))) (hn1:=by rfl) (hm1:=dd) (hn2:=by rfl) (hm2:=dd) (hb1:=by exact Po.bd_dec (by decide +kernel) dd) (hb2:=by exact Po.bd_dec (by decide +kernel) dd)) (.c (j:=13) rfl (.c (j:=0) rfl .n)) ?_)
  rw [show (decide ((Po.ofL [2,1])=(Po.ofL ([2,1]))))=true from by exact decide_eq_true (by decide +kernel)]
  refine e_pv 17 rfl rfl (zP rfl rfl)<|e_dm 18 rfl rfl rfl<|e_dm 19 rfl rfl rfl<|e_pv 20 rfl rfl (zC ya rfl)<|e_pv 21 rfl rfl (zpa rfl rfl)<|e_pv 22 rfl rfl (zP rfl rfl)<|e_dm 23 rfl rfl rfl<|e_dm 24 rfl rfl rfl<|e_pv 25 rfl rfl (zC yg rfl)<|e_pv 26 rfl rfl (zpa rfl rfl) ?_
  rw [show (decide ((((Po.eR).length:Nat):Int)=2))=true from by exact decide_eq_true dd]
  refine e_pv 27 rfl rfl (zP rfl rfl)<|e_dm 28 rfl rfl rfl<|e_dm 29 rfl rfl rfl<|d_vl 30 rfl rfl kr kr rfl rfl (zia (x0:=((Po.eR).getD 0 ((0:Rat),(0:Rat)))) 9 0 rfl yg sz48 rfl cbo rfl rfl (gD (d:=((0:Rat),(0:Rat))) om)) ?_
  rintro ⟨b41,o42,w43,w44,w45,w46⟩ -
  dsimp only [aq,nq,cq]
  refine zfb open_rR<|e_u 31 rfl rfl (zO (j:=0) 0 ty48 rfl rfl rfl (.t8 .nil))<|e_one 32 (zu rfl rfl rfl rfl (.c rfl .n) ce42 (zbb (z:=(-3)) (hz:=by first|rfl|decide|omega)) (.n) ?_)
  rintro ⟨w347,w448⟩ -
  dsimp only [aq,nq,cq]
  refine e_one 33 (zu rfl rfl rfl rfl (.c rfl .n) ce42 (zbb (z:=0) (hz:=by first|rfl|decide|omega)) (.n) ?_)
  rintro ⟨w349,w450⟩ -
  dsimp only [aq,nq,cq]
  refine e_pv 34 rfl rfl (zN zr48 rfl yc (.c sz28 (.c sz28 .n)) (.c rfl (.c rfl .n)) (.c rfl rfl rfl (.t4 .nil) (.c rfl rfl rfl (.s4 (.t4 .nil)) .n)))<|e_one 35 (zQa rfl rfl rfl rfl (.c rfl (.c rfl .n)) ce39 (zmc (u1:=w43) (u2:=w45) (u3:=w347) (u4:=w349) (v1:=w44) (v2:=w46) (v3:=w448) (v4:=w450) (q1:=((Po.eR).getD 0 ((0:Rat),(0:Rat))).1) (q2:=((Po.eR).getD 0 ((0:Rat),(0:Rat))).2) (q3:=(((-3):Int):Rat)) (q4:=((0:Int):Rat)) (hl1:=by decide +kernel) (hl2:=by decide +kernel)) (.c (j:=3) rfl (.c (j:=4) rfl (.c (j:=1) rfl (.c (j:=0) rfl .n)))) ?_)
  rw [show (decide ((((Po.eR).getD 0 ((0:Rat),(0:Rat))).1)=(((-3):Int):Rat)∧(((Po.eR).getD 0 ((0:Rat),(0:Rat))).2)=((0:Int):Rat)))=true from by exact decide_eq_true (by decide +kernel)]
  refine e_pv 36 rfl rfl (zP rfl rfl)<|e_dm 37 rfl rfl rfl<|e_dm 38 rfl rfl rfl<|d_vl 39 rfl rfl kr kr rfl rfl (zia (x0:=((Po.eR).getD 1 ((0:Rat),(0:Rat)))) 14 1 rfl yg sz48 rfl cbo rfl rfl (gD (d:=((0:Rat),(0:Rat))) om)) ?_
  rintro ⟨b51,o52,w53,w54,w55,w56⟩ -
  dsimp only [aq,nq,cq]
  refine zfb open_rR<|e_u 40 rfl rfl (zO (j:=0) 0 ty48 rfl rfl rfl (.t8 .nil))<|e_one 41 (zu rfl rfl rfl rfl (.c rfl .n) ce42 (zbb (z:=0) (hz:=by first|rfl|decide|omega)) (.n) ?_)
  rintro ⟨w357,w458⟩ -
  dsimp only [aq,nq,cq]
  refine e_one 42 (zu rfl rfl rfl rfl (.c rfl .n) ce42 (zbb (z:=3) (hz:=by first|rfl|decide|omega)) (.n) ?_)
  rintro ⟨w359,w460⟩ -
  dsimp only [aq,nq,cq]
  refine e_pv 43 rfl rfl (zN zr48 rfl yc (.c sz28 (.c sz28 .n)) (.c rfl (.c rfl .n)) (.c rfl rfl rfl (.t4 .nil) (.c rfl rfl rfl (.s4 (.t4 .nil)) .n)))<|e_one 44 (zQa rfl rfl rfl rfl (.c rfl (.c rfl .n)) ce39 (zmc (u1:=w53) (u2:=w55) (u3:=w357) (u4:=w359) (v1:=w54) (v2:=w56) (v3:=w458) (v4:=w460) (q1:=((Po.eR).getD 1 ((0:Rat),(0:Rat))).1) (q2:=((Po.eR).getD 1 ((0:Rat),(0:Rat))).2) (q3:=((0:Int):Rat)) (q4:=((3:Int):Rat)) (hl1:=by decide +kernel) (hl2:=by decide +kernel)) (.c (j:=3) rfl (.c (j:=4) rfl (.c (j:=1) rfl (.c (j:=0) rfl .n)))) ?_)
  rw [show (decide ((((Po.eR).getD 1 ((0:Rat),(0:Rat))).1)=((0:Int):Rat)∧(((Po.eR).getD 1 ((0:Rat),(0:Rat))).2)=((3:Int):Rat)))=true from by exact decide_eq_true (by decide +kernel)]
  refine e_pv 45 rfl rfl (zP rfl rfl)<|e_dm 46 rfl rfl rfl<|e_dm 47 rfl rfl rfl<|e_pv 48 rfl rfl (zpa rfl rfl)<|e_pv 49 rfl rfl (zP rfl rfl)<|e_pv 50 rfl rfl (zb rfl)<|zT kr ?_
  exact zsa () (show True from by first|trivial|omega|simp_all) ((.c rfl .n):SubM _ _) (ho:=(.n:PickO _ _ _)) ((.of [14,15,16,17,18,19,20,21,22,23,24,25,26,27,28,29,30,31,32,33,34,35] rfl):SelR _ _ _)
 ·
  rintro ⟨⟩ -
  try dsimp only
  refine zE ?_
  exact zy Tryz.results9 () trivial (zo rfl) rfl (ho:=(.n:PickO _ _ _)) (.n:SelR _ _ _)
end Go.Proofs.YtbiaimgafknkmaaGreat.Sp
namespace Go.Proofs.YtbiaimgafknkmaaGreat.Po
open Go.Proofs.YtbiaimgafknkmaaGreat.Big
theorem few_all {l:List (Option Rat)} {n:Nat} (hn:l.length=n) (h:∀i,i<n→hq ((l.getD i none).getD 0)≤2) (i:Nat):hq ((l.getD i none).getD 0)≤2:=by
  by_cases hi:i<n
  · exact h i hi
  · rw [at_end (by omega)];decide
theorem few_bd {l:List (Option Rat)} (h:∀i,hq ((l.getD i none).getD 0)≤2):bd 2 (vals l):=fun i=>by rw [vals_get];exact h i
theorem bd_mul {K L N:Nat} {p q:List Rat} (h1:bd K p) (h2:bd L q) (hl:p.length≤N):bd (1+N*(K+L+1)) (mul p q):=fun i=>by
  have e:(mul p q).getD i 0=cv p q i 0 (i+1):=by rw [mul_get,cv_co];rfl
  rw [e]
  refine Nat.le_trans (cv_hq_len h1 h2 i 0 (i+1)) (Nat.add_le_add_left (Nat.mul_le_mul_right _ ?_) _)
  omega
theorem dok_nil:∀(n:Nat) (a r:List Rat),bd 60000000000 a→bd 60000000000 r→dok [] n a r
  |0,_,_,_,_=>trivial
  |n+1,a,r,ha,hr=>by
    have e0:lead r / lead []=0:=by rw [show lead []=(0:Rat) from rfl,Rat.div_def,Rat.inv_zero,Rat.mul_zero]
    have e1:∀i,(dt [] r).getD i 0=0:=fun i=>by unfold dt;rw [mono_get,e0];split <;> rfl
    refine ⟨⟨ha,hr⟩,fun _=>dok_nil n _ _ (fun i=> ?_) (fun i=> ?_)⟩
    · rw [add_get,e1,Rat.add_zero];exact ha i
    · have e2:(mul (dt [] r) []).getD i 0=0:=by
        rw [mul_comm',mul_nil];exact gD0 (Nat.zero_le _)
      rw [sub_get,e2,Rat.sub_eq_add_neg,Rat.neg_zero,Rat.add_zero];exact hr i
theorem cb_few {p:List Rat} (h:bd 2 p) (hl:p.length≤9):cb 20 p:=cb_mono (cb_of_bd h) (by omega)
theorem dok_any {p q:List Rat} (hp:cb 20 p) (hq':cb 20 q) (lp:p.length≤9):dok (cl q) ((cl p).length+1) [] (cl p):=by
  by_cases hn:(cl q).length=0
  · rw [List.length_eq_zero_iff.1 hn]
    exact dok_nil _ _ _ (fun i=>by rw [gD0 (Nat.zero_le _),hq_zero];decide) (bd_mono (cb_bd (cb_cl hp)) (by decide))
  · have h := dgo_cb (N := 10) (cl_cl p) (cl_cl q) hn (cb_cl hp) (cb_cl hq') (by have := cl_le_len p; omega) (by decide) (by decide)
    have h2:=h.2
    rw [cl_cl,cl_cl] at h2
    exact h2
theorem dqr_bd {p q:List Rat} (hp:cb 20 p) (hq':cb 20 q) (lp:p.length≤9):bd 300 (dq p q)∧bd 300 (dr p q):=by
  by_cases hn:(cl q).length=0
  · unfold dq dr
    rw [if_pos hn,if_pos hn]
    have:bd 300 ([]:List Rat):=fun i=>by rw [gD0 (Nat.zero_le _),hq_zero];decide
    exact ⟨this,this⟩
  · have e1 : dq p q = dq (cl p) (cl q) := by unfold dq divp; rw [cl_cl, cl_cl]
    have e2:dr p q=dr (cl p) (cl q):=by unfold dr divp;rw [cl_cl,cl_cl]
    have h:=div_cb (N:=10) (cl_cl p) (cl_cl q) hn (cb_cl hp) (cb_cl hq') (by have:=cl_le_len p;omega)
    rw [e1,e2]
    exact ⟨bd_mono (cb_bd h.1) (by decide),bd_mono (cb_bd h.2) (by decide)⟩
theorem mul_clr (p q:List Rat):mul p (cl q)=mul p q:=by unfold mul;rw [cl_cl]
theorem dqr_spec {p q:List Rat} (hn:(cl q).length≠0):(dr p q).length<(cl q).length∧add (mul (dq p q) q) (dr p q)=cl p:=by
  have h:=divp_spec (p:=p) (q:=q) (fun e=>hn (by rw [e];rfl))
  unfold dq dr
  rw [if_neg hn,if_neg hn]
  rw [mul_clr] at h
  exact h
end Go.Proofs.YtbiaimgafknkmaaGreat.Po
namespace Go.Proofs.YtbiaimgafknkmaaGreat.Sp
open Go
set_option linter.unusedVariables false
set_option maxRecDepth 100000
set_option maxHeartbeats 8000000
theorem zGb {p1:Option Addr} {n1:Nat} {c1:Nat} {l1:List (Option Rat)} {p2:Option Addr} {n2:Nat} {c2:Nat} {l2:List (Option Rat)} (hn1:l1.length=n1) (hn2:l2.length=n2):Con yd 5 [.slice p1 n1 c1,.slice p2 n2 c2] [] [slF rE p1 c1 l1,slF rE p2 c2 l2] (Y:=Unit) (fun y=>True) (fun y=> .bool true) (fun y=>[]) (fun y=>[]):=by
 refine zl Tryz.func5 rfl rfl rfl (fun c=> ?_)
 show RunC _ _ _ _ _ [(0,.slice p1 n1 c1),(1,.slice p2 n2 c2)] [] [slF rE p1 c1 l1,slF rE p2 c2 l2]
 refine zQ 0 rfl (fun hL0=> ?_)
 refine zQ 1 rfl (fun hL1=> ?_)
 refine ze<|za<|e_p (zb rfl)<|zf<|zc<|ze<|ze<|za<|zL rfl rfl (.n) ce9 (zkf) (.n)<|e_p (zxb rfl)<|zf<|zc<|zZa rfl rfl<|zB<|zc<|ze<|zVa (X:=Bool) (fun x=>(x=false→(((n1:Nat):Int)≤7∧∀i,i<n1→ye ((l1.getD i none).getD 0)≤2)∧(((n2:Nat):Int)≤7∧∀i,i<n2→ye ((l2.getD i none).getD 0)≤2))) (fun x=>[(20,.bool x),(4,.bool false),(0,.slice p1 n1 c1),(1,.slice p2 n2 c2)]) (fun x=>[]) (fun x=>[slF rE p1 c1 l1,slF rE p2 c2 l2]) ?_ ?_
 ·
  refine za<|e_mv rfl<|zj rfl rfl (.c rfl (.c rfl .n)) ce10 (zif (p1:=p1) (n1:=n1) (c1:=c1) (l1:=l1) (m:=7) (hn1:=ass)) (.c (j:=0) rfl .n) ?_
  rintro b91 hfa
  dsimp only [aq,nq,cq]
  replace hfa:(b91=true→((n1:Nat):Int)≤7∧∀i,i<n1→ye ((l1.getD i none).getD 0)≤2):=hfa
  refine e_p (zxb rfl)<|zMf rfl rfl (zqa rfl) (fun h12=> ?_) (fun h12=> ?_)
  ·
   refine e_no<|e_no<|e_no<|e_p (zP rfl rfl)<|zf ?_
   exact zsa true (show (true=false→(((n1:Nat):Int)≤7∧∀i,i<n1→ye ((l1.getD i none).getD 0)≤2)∧(((n2:Nat):Int)≤7∧∀i,i<n2→ye ((l2.getD i none).getD 0)≤2)) from by (intro k;cases k)) ((.e rfl (congrArg Value.bool cbu) (.of rfl)):SubM _ _) (ho:=(.n:PickO _ _ _)) ((.of [0,1] rfl):SelR _ _ _)
  ·
   have hf1:=hfa (by simpa using h12)
   refine e_mv rfl<|zj rfl rfl (.c rfl (.c rfl .n)) ce10 (zif (p1:=p2) (n1:=n2) (c1:=c2) (l1:=l2) (m:=7) (hn1:=ass)) (.c (j:=1) rfl .n) ?_
   rintro b92 hfb
   dsimp only [aq,nq,cq]
   replace hfb:(b92=true→((n2:Nat):Int)≤7∧∀i,i<n2→ye ((l2.getD i none).getD 0)≤2):=hfb
   refine e_p (zxb rfl)<|e_p (zP rfl rfl)<|zf ?_
   exact zsa (!b92) (show ((!b92)=false→(((n1:Nat):Int)≤7∧∀i,i<n1→ye ((l1.getD i none).getD 0)≤2)∧(((n2:Nat):Int)≤7∧∀i,i<n2→ye ((l2.getD i none).getD 0)≤2)) from by (intro k;exact ⟨hf1,hfb (by simpa using k)⟩)) ((.of rfl):SubM _ _) (ho:=(.n:PickO _ _ _)) ((.of [0,1] rfl):SelR _ _ _)
 ·
  rintro g9 hC
  replace hC:(g9=false→(((n1:Nat):Int)≤7∧∀i,i<n1→ye ((l1.getD i none).getD 0)≤2)∧(((n2:Nat):Int)≤7∧∀i,i<n2→ye ((l2.getD i none).getD 0)≤2)):=hC
  try dsimp only
  refine zOb rfl (fun h21=> ?_) (fun h21=> ?_)
  ·
   refine ze<|za<|e_p (zb rfl)<|zf<|zc<|zE<|zp ?_
   exact zy Tryz.results5 () trivial (zo rfl) rfl (ho:=(.n:PickO _ _ _)) (.n:SelR _ _ _)
  ·
   obtain ⟨hf1,hf2⟩:=hC h21
   have hm1:n1≤7:=by omega
   have hb1:=Po.few_all hn1 hf1.2
   have hv1:=Po.few_bd hb1
   have hl1:(Po.vals l1).length=n1:=by rw [Po.vals_len,hn1]
   have hm2:n2≤7:=by omega
   have hb2:=Po.few_all hn2 hf2.2
   have hv2:=Po.few_bd hb2
   have hl2:(Po.vals l2).length=n2:=by rw [Po.vals_len,hn2]
   have hc1:=Po.cb_few hv1 om
   have hc2:=Po.cb_few hv2 om
   obtain ⟨hbq,hbr⟩:=Po.dqr_bd hc1 hc2 om
   have hlqr:=Po.dqr_len (Po.vals l1) (Po.vals l2)
   have hcl1:=Po.cl_le_len (Po.vals l1)
   have hcl2:=Po.cl_le_len (Po.vals l2)
   have hlm:=Po.mul_len (Po.dq (Po.vals l1) (Po.vals l2)) (Po.vals l2)
   have hbm:=Po.bd_mul (N:=7) hbq hv2 om
   have hla:=Po.add_len (Po.mul (Po.dq (Po.vals l1) (Po.vals l2)) (Po.vals l2)) (Po.dr (Po.vals l1) (Po.vals l2))
   have hba:=Po.bd_add hbm hbr
   refine zB<|zc<|ze<|za<|e_mv rfl<|e_mv rfl<|zj rfl rfl (.c rfl (.c rfl .n)) ce26 (zib (p1:=p1) (n1:=n1) (c1:=c1) (l1:=l1) (p2:=p2) (n2:=n2) (c2:=c2) (l2:=l2) (hn1:=ass) (hm1:=by first|omega|rfl|assumption|decide) (hn2:=ass) (hm2:=by first|omega|rfl|assumption|decide) (hm12:=by first|omega|rfl|assumption|decide) (hb2:=by exact Po.bd_mono hv2 dd) (hok:=by exact Po.dok_any hc1 hc2 om)) (.c (j:=0) rfl (.c (j:=1) rfl .n)) ?_
   rintro ⟨p83,c84,p95,c96⟩ -
   dsimp only [aq,nq,cq]
   refine e_mv rfl<|e_p (zm rfl rfl)<|e_p (zm rfl rfl)<|e_p (zm rfl rfl)<|e_p (zb rfl)<|e_p (zb rfl)<|e_p (zb rfl)<|zf<|zc<|ze<|za<|e_mv rfl<|e_mv rfl<|zj rfl rfl (.c rfl (.c rfl .n)) ce27 (zQd (p1:=p1) (n1:=n1) (c1:=c1) (l1:=l1) (p2:=p2) (n2:=n2) (c2:=c2) (l2:=l2) (hn1:=ass) (hm1:=by first|omega|rfl|assumption|decide) (hn2:=ass) (hm2:=by first|omega|rfl|assumption|decide) (hm12:=by first|omega|rfl|assumption|decide) (hb2:=by exact Po.bd_mono hv2 dd) (hok:=by exact Po.dok_any hc1 hc2 om) (hb1:=by exact Po.bd_mono hv1 dd)) (.c (j:=2) rfl (.c (j:=3) rfl .n)) ?_
   rintro ⟨p87,c88,p99,c910⟩ -
   dsimp only [aq,nq,cq]
   refine e_mv rfl<|e_p (zm rfl rfl)<|e_p (zm rfl rfl)<|e_p (zm rfl rfl)<|e_p (zb rfl)<|e_p (zb rfl)<|e_p (zb rfl)<|zf<|zc<|ze<|zVa (X:=Unit) (fun x=>True) (fun x=>[(49,.bool false),(7,.int .i64 (Po.dc (Po.vals l2))),(6,.slice p95 ((Po.dr (Po.vals l1) (Po.vals l2)).length) c96),(5,.slice p83 ((Po.dq (Po.vals l1) (Po.vals l2)).length) c84),(4,.bool false),(0,.slice p1 n1 c1),(1,.slice p2 n2 c2)]) (fun x=>[]) (fun x=>[slF rQ p87 c88 (Po.dq (Po.vals l1) (Po.vals l2)),slF rQ p99 c910 (Po.dr (Po.vals l1) (Po.vals l2)),slF rQ p83 c84 (Po.dq (Po.vals l1) (Po.vals l2)),slF rQ p95 c96 (Po.dr (Po.vals l1) (Po.vals l2)),slF rE p1 c1 l1,slF rE p2 c2 l2]) ?_ ?_
   ·
    refine za<|e_mv rfl<|e_mv rfl<|e_p (zyb rfl rfl) ?_
    rw [show (decide ((Po.dc (Po.vals l2))≠(Po.dc (Po.vals l2))))=false from by exact decide_eq_false (fun h=>h rfl)]
    refine e_mv rfl<|e_mv rfl<|e_mv rfl<|zL rfl rfl (.c rfl (.c rfl .n)) ce12 (zFb (p1:=p83) (n1:=(Po.dq (Po.vals l1) (Po.vals l2)).length) (c1:=c84) (l1:=(Po.dq (Po.vals l1) (Po.vals l2))) (p2:=p87) (n2:=(Po.dq (Po.vals l1) (Po.vals l2)).length) (c2:=c88) (l2:=(Po.dq (Po.vals l1) (Po.vals l2))) (hn1:=by rfl) (hm1:=om) (hn2:=by rfl) (hm2:=om) (hb1:=by exact Po.bd_mono hbq dd) (hb2:=by exact Po.bd_mono hbq dd)) (.c (j:=2) rfl (.c (j:=0) rfl .n)) ?_
    rw [show (decide ((Po.dq (Po.vals l1) (Po.vals l2))=(Po.dq (Po.vals l1) (Po.vals l2))))=true from by exact decide_eq_true rfl]
    refine e_p (zxb rfl)<|e_p (zP rfl rfl)<|e_mv rfl<|e_mv rfl<|e_mv rfl<|zL rfl rfl (.c rfl (.c rfl .n)) ce12 (zFb (p1:=p95) (n1:=(Po.dr (Po.vals l1) (Po.vals l2)).length) (c1:=c96) (l1:=(Po.dr (Po.vals l1) (Po.vals l2))) (p2:=p99) (n2:=(Po.dr (Po.vals l1) (Po.vals l2)).length) (c2:=c910) (l2:=(Po.dr (Po.vals l1) (Po.vals l2))) (hn1:=by rfl) (hm1:=om) (hn2:=by rfl) (hm2:=om) (hb1:=by exact Po.bd_mono hbr dd) (hb2:=by exact Po.bd_mono hbr dd)) (.c (j:=3) rfl (.c (j:=1) rfl .n)) ?_
    rw [show (decide ((Po.dr (Po.vals l1) (Po.vals l2))=(Po.dr (Po.vals l1) (Po.vals l2))))=true from by exact decide_eq_true rfl]
    refine e_p (zxb rfl)<|e_p (zP rfl rfl)<|zf ?_
    exact zsa () (show True from by first|trivial|omega|simp_all) ((.of rfl):SubM _ _) (ho:=(.n:PickO _ _ _)) ((.of [0,1,2,3,4,5] rfl):SelR _ _ _)
   ·
    rintro ⟨⟩ -
    try dsimp only
    refine zZa rfl rfl<|zB<|zc<|zVa (X:=Unit) (fun x=>True) (fun x=>[(4,.bool true)]) (fun x=>[]) (fun x=>[slF rQ p87 c88 (Po.dq (Po.vals l1) (Po.vals l2)),slF rQ p99 c910 (Po.dr (Po.vals l1) (Po.vals l2)),slF rQ p83 c84 (Po.dq (Po.vals l1) (Po.vals l2)),slF rQ p95 c96 (Po.dr (Po.vals l1) (Po.vals l2)),slF rE p1 c1 l1,slF rE p2 c2 l2]) ?_ ?_
    ·
     refine za<|e_mv rfl<|e_p (zyb rfl rfl)<|zna rfl rfl (zqa rfl) (fun h52=> ?_) (fun h52=> ?_)
     ·
      refine e_no<|e_no<|e_no<|e_no<|e_no<|e_no<|e_no<|e_no<|e_no<|e_no<|e_no<|e_no<|e_no<|e_no<|e_no<|e_no<|e_p (zP rfl rfl)<|e_p (zb rfl)<|zf ?_
      exact zsa () (show True from by first|trivial|omega|simp_all) ((.c rfl .n):SubM _ _) (ho:=(.n:PickO _ _ _)) ((.of [0,1,2,3,4,5] rfl):SelR _ _ _)
     ·
      have hnz:(Po.cl (Po.vals l2)).length≠0:=fun e=>h52 (by unfold Po.dc;rw [if_pos e];decide)
      have hsp:=Po.dqr_spec (p:=(Po.vals l1)) hnz
      refine e_mv rfl<|e_p (zC ya rfl)<|e_mv rfl<|zj rfl rfl (.c rfl .n) ce28 (zRa (p1:=p2) (n1:=n2) (c1:=c2) (l1:=l2) (hn1:=ass) (hm1:=by first|omega|rfl|assumption|decide) (hb1:=by exact Po.bd_mono hv2 dd)) (.c (j:=5) rfl .n) ?_
      rintro ⟨p911,c912⟩ -
      dsimp only [aq,nq,cq]
      refine e_p (zC ya rfl)<|e_p (zda rfl rfl) ?_
      rw [show (decide ((((Po.dr (Po.vals l1) (Po.vals l2)).length:Nat):Int)<(((Po.cl (Po.vals l2)).length:Nat):Int)))=true from by exact decide_eq_true (by have:=hsp.1;omega)]
      refine e_mv rfl<|e_mv rfl<|e_mv rfl<|zga (addQE 3 rfl)<|zj rfl rfl (.c rfl (.c rfl .n)) ce17 (zrc (p1:=p83) (n1:=(Po.dq (Po.vals l1) (Po.vals l2)).length) (c1:=c84) (l1:=((Po.dq (Po.vals l1) (Po.vals l2)).map some)) (p2:=p2) (n2:=n2) (c2:=c2) (l2:=l2) (hn1:=by exact List.length_map _) (hm1:=by first|omega|rfl|assumption|decide) (hn2:=ass) (hm2:=by first|omega|rfl|assumption|decide) (hm12:=by first|omega|rfl|assumption|decide) (hb1:=by rw [Po.vals_some];exact Po.bd_mono hbq dd) (hb2:=by exact Po.bd_mono hv2 dd) (hs:=by rw [Po.vals_some];exact fun k lo n _=>Po.cv_hq_of (N:=10) (Po.bd_cl hbq) (Po.bd_cl hv2) (Nat.le_trans (Po.cl_le_len _) om) dd k lo n)) (.c (j:=0) rfl (.c (j:=7) rfl .n)) ?_
      rintro ⟨p913,c914⟩ -
      dsimp only [aq,nq,cq]
      refine e_mv rfl<|zga (addQE 0 rfl)<|zga (addQE 7 rfl)<|zj rfl rfl (.c rfl (.c rfl .n)) ce13 (zie (p1:=p913) (n1:=(Po.mul (Po.vals ((Po.dq (Po.vals l1) (Po.vals l2)).map some)) (Po.vals l2)).length) (c1:=c914) (l1:=((Po.mul (Po.vals ((Po.dq (Po.vals l1) (Po.vals l2)).map some)) (Po.vals l2)).map some)) (p2:=p95) (n2:=(Po.dr (Po.vals l1) (Po.vals l2)).length) (c2:=c96) (l2:=((Po.dr (Po.vals l1) (Po.vals l2)).map some)) (hn1:=by exact List.length_map _) (hm1:=by rw [Po.vals_some];omega) (hn2:=by exact List.length_map _) (hm2:=by first|omega|rfl|assumption|decide) (hb:=by intro i;rw [Po.msome,Po.msome,Po.vals_some];have h1:=hbm i;have h2:=hbr i;omega)) (.c (j:=1) rfl (.c (j:=0) rfl .n)) ?_
      rintro ⟨p915,c916⟩ -
      dsimp only [aq,nq,cq]
      refine e_mv rfl<|zj rfl rfl (.c rfl .n) ce28 (zRa (p1:=p1) (n1:=n1) (c1:=c1) (l1:=l1) (hn1:=ass) (hm1:=by first|omega|rfl|assumption|decide) (hb1:=by exact Po.bd_mono hv1 dd)) (.c (j:=10) rfl .n) ?_
      rintro ⟨p917,c918⟩ -
      dsimp only [aq,nq,cq]
      refine zL rfl rfl (.c rfl (.c rfl .n)) ce12 (zFb (p1:=p915) (n1:=(Po.add (Po.vals ((Po.mul (Po.vals ((Po.dq (Po.vals l1) (Po.vals l2)).map some)) (Po.vals l2)).map some)) (Po.vals ((Po.dr (Po.vals l1) (Po.vals l2)).map some))).length) (c1:=c916) (l1:=(Po.add (Po.vals ((Po.mul (Po.vals ((Po.dq (Po.vals l1) (Po.vals l2)).map some)) (Po.vals l2)).map some)) (Po.vals ((Po.dr (Po.vals l1) (Po.vals l2)).map some)))) (p2:=p917) (n2:=(Po.cl (Po.vals l1)).length) (c2:=c918) (l2:=(Po.cl (Po.vals l1))) (hn1:=by rfl) (hm1:=by rw [Po.vals_some,Po.vals_some,Po.vals_some];omega) (hn2:=by rfl) (hm2:=om) (hb1:=by rw [Po.vals_some,Po.vals_some,Po.vals_some];exact Po.bd_mono hba dd) (hb2:=by exact Po.bd_mono (Po.bd_cl hv1) dd)) (.c (j:=1) rfl (.c (j:=0) rfl .n)) ?_
      rw [show (decide ((Po.add (Po.vals ((Po.mul (Po.vals ((Po.dq (Po.vals l1) (Po.vals l2)).map some)) (Po.vals l2)).map some)) (Po.vals ((Po.dr (Po.vals l1) (Po.vals l2)).map some)))=(Po.cl (Po.vals l1))))=true from by exact decide_eq_true (by rw [Po.vals_some,Po.vals_some,Po.vals_some];exact hsp.2)]
      refine e_p (zP rfl rfl)<|e_p (zP rfl rfl)<|e_p (zb rfl)<|zf ?_
      exact zsa () (show True from by first|trivial|omega|simp_all) ((.c rfl .n):SubM _ _) (ho:=(.n:PickO _ _ _)) ((.of [7,8,9,10,11,12] rfl):SelR _ _ _)
    ·
     rintro ⟨⟩ -
     try dsimp only
     refine zE ?_
     exact zy Tryz.results5 () trivial (zo rfl) rfl (ho:=(.n:PickO _ _ _)) (.n:SelR _ _ _)
end Go.Proofs.YtbiaimgafknkmaaGreat.Sp
namespace Go.Proofs.YtbiaimgafknkmaaGreat.Sp
open Go
set_option linter.unusedVariables false
def rRaw:Rp ((Bool×List Int)×(Bool×List Int)):=rP (rP rB (rS (rI .u32))) (rP rB (rS (rI .u32)))
theorem eF_of {g:Hp} {s t:Bool} {p1 p2:Option Addr} {c1 c2:Nat} {la lb:List Int} (ha:Sl (rI .u32) g p1 c1 la) (hb:Sl (rI .u32) g p2 c2 lb) (k1:la.length≤1099511627776) (k2:lb.length≤1099511627776):
    (eF ⟨s,p1,la.length,c1⟩ ⟨t,p2,lb.length,c2⟩ (qo ((s,la),(t,lb)))).on g:=⟨((s,la),(t,lb)),⟨rfl,rfl,k1,ha⟩,⟨rfl,rfl,k2,hb⟩,rfl⟩
theorem sl_raw {g:Hp} {p:Option Addr} {c:Nat} {l:List ((Bool×List Int)×(Bool×List Int))} (k:Sl rRaw g p c l) (hb:∀x,x∈l→x.1.2.length≤1099511627776∧x.2.2.length≤1099511627776):Sl rE g p c (l.map qo):=by
  refine ⟨by rw [List.length_map];exact k.1,k.2.1,k.2.2.1,fun i x e=> ?_⟩
  rw [List.getElem?_map] at e
  obtain ⟨x0,e0,rfl⟩:=Option.map_eq_some_iff.1 e
  obtain ⟨b,off,⟨⟨γ1,p1,c1⟩,⟨γ2,p2,c2⟩⟩,e1,e2,e3⟩:=k.2.2.2 i x0 e0
  obtain ⟨h1,h2⟩:=hb x0 (List.mem_of_getElem? e0)
  exact ⟨b,off,(⟨x0.1.1,p1,x0.1.2.length,c1⟩,⟨x0.2.1,p2,x0.2.2.length,c2⟩),e1,e2,eF_of e3.1.2 e3.2.2 h1 h2⟩
theorem mz_raw1 {x:(Bool×List Int)×(Bool×List Int)} {n:Nat} (h:(fun z:(Bool×List Int)×(Bool×List Int)=>(fun z:Bool×List Int=>(fun _:Bool=>1) z.1+mzL (fun _:Int=>1) z.2) z.1+(fun z:Bool×List Int=>(fun _:Bool=>1) z.1+mzL (fun _:Int=>1) z.2) z.2) x≤n):x.1.2.length≤n∧x.2.2.length≤n:=by
  have q1:=mzL_len (mz:=fun _:Int=>1) (l:=x.1.2) (fun _=>Nat.le_refl 1)
  have q2:=mzL_len (mz:=fun _:Int=>1) (l:=x.2.2) (fun _=>Nat.le_refl 1)
  simp only at h
  omega
theorem mz_raw {l:List ((Bool×List Int)×(Bool×List Int))} {n:Nat} (h:mzL (fun z:(Bool×List Int)×(Bool×List Int)=>(fun z:Bool×List Int=>(fun _:Bool=>1) z.1+mzL (fun _:Int=>1) z.2) z.1+(fun z:Bool×List Int=>(fun _:Bool=>1) z.1+mzL (fun _:Int=>1) z.2) z.2) l≤n) (hn:n≤1099511627776):∀x,x∈l→x.1.2.length≤1099511627776∧x.2.2.length≤1099511627776:=fun x hx=>by
  have:=mzL_mem (mz:=fun z:(Bool×List Int)×(Bool×List Int)=>(fun z:Bool×List Int=>(fun _:Bool=>1) z.1+mzL (fun _:Int=>1) z.2) z.1+(fun z:Bool×List Int=>(fun _:Bool=>1) z.1+mzL (fun _:Int=>1) z.2) z.2) hx
  exact mz_raw1 (Nat.le_trans (Nat.le_of_succ_le (Nat.le_trans this h)) hn)
end Go.Proofs.YtbiaimgafknkmaaGreat.Sp
