/- Lemmas on the walk and plain lemmas that the claim of this folder uses; each states its own conditions. Lines were printed by a program of ours. -/
import Derived.Test.YtpdbimfnhglhpaaGreatZ3D
set_option linter.unusedVariables false
set_option linter.unusedSimpArgs false
set_option linter.unusedSectionVars false
open Go.Proofs.Tryz renaming underlying46 → yd, underlying38 → ye, underlying60 → yf, underlying62 → yg, underlying45 → yh, prog → yi, underlying40 → yj, underlying106 → yl, underlying3 → ym, underlying24 → yn, underlying23 → yo, underlying53 → yp
open Go.Proofs.YtpdbimfnhglhpaaGreat.Big renaming hq → yk, hq_mul → yq
namespace Go.Proofs.YtpdbimfnhglhpaaGreat.Sp
open Go
set_option linter.unusedVariables false
set_option maxRecDepth 100000
set_option maxHeartbeats 8000000
theorem zgf {pA:Option Addr} {nA:Nat} {cA:Nat} {A:List (List Rat)} {pB:Option Addr} {nB:Nat} {cB:Nat} {B:List (List Rat)} {n9:Nat} {N:Nat} (hn64:n9≤64) (hnA:A.length=nA) (hnB:B.length=nB) (hA0:(A.getD 0 []).length=n9) (hAB:nB=nA) (hA1:1≤nA∧nA≤64) (hB0:N=n9+(B.getD 0 []).length) (hN:N≤70) (hAr:∀i,i<nA→(A.getD i []).length=n9) (hBr:∀i,i<nA→N=n9+(B.getD i []).length):Con yi 143 [.slice pA nA cA,.slice pB nB cB] [] [slF (rS rQ) pA cA A,slF (rS rQ) pB cB B] (Y:=(Option Addr)×Nat×HP) (fun y=>y.2.2.length=nA) (fun y=> .slice (y.1) nA (y.2.1)) (fun y=>[rowA 62 rV (y.1) (y.2.1) (oh y.2.2 N),rowsM 32 rQ (y.2.2) (Mx.mk nA N (fun ii jj=>Mx.eB A B n9 ii jj))]) (fun y=>[]):=by
 refine zl Tryz.func143 rfl rfl rfl (fun c=> ?_)
 show RunC _ _ _ _ _ [(0,.slice pA nA cA),(1,.slice pB nB cB)] [] [slF (rS rQ) pA cA A,slF (rS rQ) pB cB B]
 refine zX 0 rfl (fun hL0=> ?_)
 refine zX 1 rfl (fun hL1=> ?_)
 refine ze<|za<|zD rfl rfl (zT rfl rfl) (fun b1=> ?_)
 refine zD rfl rfl (zT rfl rfl) (fun b2=> ?_)
 refine e_p (zb rfl)<|zf<|zc<|ze<|zFa 1 rfl (.s .z)<|zFa 0 rfl .z<|zW (OW:=[]) (O:=[emA,emA]) 100000 mixed (.then .ret) kr<|e_u 0 rfl rfl (zi (j:=0) 1 ty60 rfl rfl rfl rfl)<|e_pv 1 rfl rfl (zG yf rfl)<|e_u 2 rfl rfl (zi (j:=0) 1 ty60 rfl rfl rfl rfl)<|d_vl 3 rfl rfl kr kr rfl rfl (zfa (x0:=(A.getD 0 [])) 2 0 rfl yf sz62 rfl cbs rfl rfl (gD (d:=[]) om)) ?_
 rintro ⟨b3,o4,p5,c6⟩ -
 dsimp only [aq,nq,cq]
 refine e_u 4 rfl rfl (zi (j:=0) 0 ty62 rfl rfl rfl rfl)<|e_pv 5 rfl rfl (zG yg rfl)<|e_u 6 rfl rfl (zi (j:=0) 2 ty60 rfl rfl rfl rfl)<|d_vl 7 rfl rfl kr kr rfl rfl (zfa (x0:=(B.getD 0 [])) 5 0 rfl yf sz62 rfl cbs rfl rfl (gD (d:=[]) om)) ?_
 rintro ⟨b7,o8,p9,c10⟩ -
 dsimp only [aq,nq,cq]
 refine e_u 8 rfl rfl (zi (j:=0) 0 ty62 rfl rfl rfl rfl)<|e_pv 9 rfl rfl (zG yg rfl)<|e_pv 10 rfl rfl (zK (z:=(((((A.getD 0 []).length)+((B.getD 0 []).length)):Nat):Int)) rfl rfl (w64 om)) ?_
 have e11:((((((A.getD 0 []).length)+((B.getD 0 []).length)):Nat):Int):Int)=((N:Nat):Int):=by omega
 rw [e11]
 refine e_pv 11 rfl rfl (zZa .n (.c rfl (.c rfl .n)))<|e_one 12 (zv rfl rfl rfl rfl (.c rfl (.c rfl (.c rfl .n))) ce86 (zcf (K:=nA) (N:=N) (bA:=b1) (pA:=pA) (nA:=nA) (cA:=cA) (A:=A) (bB:=b2) (pB:=pB) (nB:=nB) (cB:=cB) (B:=B) (n9:=n9) (hK:=cbo) (hN:=ass) (hn9:=ass) (hnA:=ass) (hnB:=ass) (hA0:=ass) (hKA:=cbo) (hAB:=ass) (hAr:=ass) (hBr:=ass)) (.c (j:=5) rfl (.c (j:=6) rfl (.c (j:=4) rfl (.c (j:=7) rfl .n)))) ?_)
 rintro ⟨p312,c313,hs14⟩ hsl
 dsimp only [aq,nq,cq]
 replace hsl:hs14.length=nA:=hsl
 refine e_pv 13 rfl rfl (zb rfl)<|zN kr<|zc<|zE ?_
 exact zy Tryz.results143 (p312,c313,hs14) hsl (zp rfl) rfl (ho:=((.of [0,0] rfl):PickO _ _ _)) sN
theorem zRg {p:Option Addr} {n:Nat} {cap:Nat} {bq:Nat} {pL:Option Addr} {nL:Nat} {cL:Nat} {LL:List (List Int)} (hnL:LL.length=nL) (hL1:1≤nL) (heq:n=(LL.getD 0 []).length):Con yi 135 [.slice p n cap,.pointer (some ⟨bq,0,none⟩)] [] [atF bq 0 [.slice pL nL cL],slF (rS (rI .i64)) pL cL LL] (Y:=Unit) (fun y=>True) (fun y=> .bool false) (fun y=>[]) (fun y=>[]):=by
 refine zl Tryz.func135 rfl rfl rfl (fun c=> ?_)
 show RunC _ _ _ _ _ [(0,.slice p n cap),(1,.pointer (some ⟨bq,0,none⟩))] [] [atF bq 0 [.slice pL nL cL],slF (rS (rI .i64)) pL cL LL]
 refine zX 1 rfl (fun hL1=> ?_)
 refine ze<|za<|e_p (zb rfl)<|zf<|zc<|ze<|za<|e_mv rfl<|e_p (zG yd rfl)<|e_ru (zi (j:=0) 0 ty106 rfl rfl rfl rfl)<|r_vl rfl rfl (zfa (x0:=(LL.getD 0 [])) 1 0 rfl yl sz46 rfl cbo rfl rfl (gD (d:=[]) om)) ?_
 rintro ⟨b1,o2,p3,c4⟩ -
 dsimp only [aq,nq,cq]
 refine e_ru (zi (j:=0) 0 ty46 rfl rfl rfl rfl)<|e_p (zG yd rfl)<|e_p (zsa rfl rfl) ?_
 rw [show (decide (((n:Nat):Int)≠(((LL.getD 0 []).length:Nat):Int)))=false from by exact decide_eq_false om]
 refine e_p (zb rfl)<|zf<|zc<|zE ?_
 exact zy Tryz.results135 () trivial (zp rfl) rfl (ho:=oN) sN
theorem zhf {bq:Nat} {pL:Option Addr} {nL:Nat} {cL:Nat} {LL:List (List Int)} (hnL:LL.length=nL) (hL1:1≤nL) (hU:∀i,i<nL→(LL.getD i []).length=(LL.getD 0 []).length):Con yi 212 [.slice pL nL cL,.func (.func 135) #[] #[.pointer (some ⟨bq,0,none⟩)]] [] [atF bq 0 [.slice pL nL cL],slF (rS (rI .i64)) pL cL LL] (Y:=Unit) (fun y=>True) (fun y=> .int .i64 (-1)) (fun y=>[]) (fun y=>[]):=by
 refine zl Tryz.func212 rfl rfl rfl (fun c=> ?_)
 show RunC _ _ _ _ _ [(0,.slice pL nL cL),(1,.func (.func 135) #[] #[.pointer (some ⟨bq,0,none⟩)])] [] [atF bq 0 [.slice pL nL cL],slF (rS (rI .i64)) pL cL LL]
 refine zX 1 rfl (fun hL1=> ?_)
 refine ze<|za<|e_p (zb rfl)<|zf<|zc<|ze<|ze<|za<|e_mv rfl<|e_p (zG yl rfl)<|e_mv rfl<|zf<|zc<|zw<|zha (X:=Nat) (fun x:Nat=>x≤nL) (fun x=>[(8,.int .i64 ((x:Nat):Int)),(7,.int .i64 ((nL:Nat):Int)),(0,.slice pL nL cL),(1,.func (.func 135) #[] #[.pointer (some ⟨bq,0,none⟩)])]) (fun x=>[]) (fun x=>[atF bq 0 [.slice pL nL cL],slF (rS (rI .i64)) pL cL LL]) (fun x:Nat=>nL - x) 0 (show 0≤nL from by exact Nat.zero_le _) ((.e rfl cgs (.of rfl)):SubM _ _) (ho:=oN) ((.of [0,1] rfl):SelR _ _ _) ?_
 rintro i hI
 replace hI:i≤nL:=hI
 try dsimp only
 refine ze<|za<|e_p (zV rfl rfl)<|zf<|zc<|ze<|zI rfl (fun h1=> ?_) (fun h1=> ?_)
 ·
  refine zx<|zc<|ze<|zw<|ze<|za<|e_mv rfl<|e_p (zb rfl)<|zf<|zc<|ze<|za<|e_mv rfl<|e_mv rfl<|e_mv rfl<|r_vl rfl rfl (zfa (x0:=(LL.getD i [])) 1 i rfl yl sz46 rfl cbo rfl rfl (gD (d:=[]) om)) ?_
  rintro ⟨b2,o3,p4,c5⟩ -
  dsimp only [aq,nq,cq]
  refine e_ru (zi (j:=0) 0 ty46 rfl rfl rfl rfl)<|zbc (first:=[]) (cap:=[.pointer (some ⟨bq,0,none⟩)]) rfl rfl rfl (.c rfl .n) ce135 (zRg (p:=p4) (n:=(LL.getD i []).length) (cap:=c5) (bq:=bq) (pL:=pL) (nL:=nL) (cL:=cL) (LL:=LL) (hnL:=ass) (hL1:=ass) (heq:=by first|rfl|assumption|omega|exact hU _ om)) (.c (j:=2) rfl (.c (j:=3) rfl .n)) ?_
  rintro ⟨⟩ -
  dsimp only [aq,nq,cq]
  refine zf<|zc<|zaa rfl rfl<|zx<|zQ<|zc<|za<|e_p (zK (z:=(((i+1):Nat):Int)) rfl rfl (w64 om))<|e_mv rfl<|zf<|zca (i+1) (show (i+1)≤nL from by show i+1≤nL;omega) (by show nL - (i+1)<nL - i;omega) (mR rfl) (ho:=oN) ((.of [2,3] rfl):SelR _ _ _)
 ·
  refine zda<|zj<|zj<|zu<|zc<|ze<|za<|e_p (zb rfl)<|zf<|zc<|zE ?_
  exact zy Tryz.results212 () trivial (zp rfl) rfl (ho:=oN) sN
theorem zif {bq:Nat} {pL:Option Addr} {nL:Nat} {cL:Nat} {LL:List (List Int)} (hnL:LL.length=nL) (hL1:1≤nL) (hU:∀i,i<nL→(LL.getD i []).length=(LL.getD 0 []).length):Con yi 134 [.slice pL nL cL,.func (.func 135) #[] #[.pointer (some ⟨bq,0,none⟩)]] [] [atF bq 0 [.slice pL nL cL],slF (rS (rI .i64)) pL cL LL] (Y:=Unit) (fun y=>True) (fun y=> .bool false) (fun y=>[]) (fun y=>[]):=by
 refine zl Tryz.func134 rfl rfl rfl (fun c=> ?_)
 show RunC _ _ _ _ _ [(0,.slice pL nL cL),(1,.func (.func 135) #[] #[.pointer (some ⟨bq,0,none⟩)])] [] [atF bq 0 [.slice pL nL cL],slF (rS (rI .i64)) pL cL LL]
 refine zX 1 rfl (fun hL1=> ?_)
 refine ze<|za<|e_p (zb rfl)<|zf<|zc<|ze<|za<|e_mv rfl<|e_mv rfl<|zJ rfl rfl (.c rfl (.c rfl .n)) ce212 (zhf (bq:=bq) (pL:=pL) (nL:=nL) (cL:=cL) (LL:=LL) (hnL:=ass) (hL1:=ass) (hU:=ass)) (.c (j:=0) rfl (.c (j:=1) rfl .n))<|e_p (zMa rfl rfl)<|e_p (zb rfl)<|zf<|zc<|zE ?_
 exact zy Tryz.results134 () trivial (zp rfl) (congrArg Value.bool (decide_eq_false (show ¬(0:Int)≤ -1 by decide)).symm) (ho:=oN) sN
end Go.Proofs.YtpdbimfnhglhpaaGreat.Sp
namespace Go.Proofs.YtpdbimfnhglhpaaGreat.Sp
open Go
set_option linter.unusedVariables false
set_option maxRecDepth 100000
set_option maxHeartbeats 8000000
theorem zwg {i0:Nat} {j0:Nat}:Con yi 87 [.int .i64 ((i0:Nat):Int),.int .i64 ((j0:Nat):Int)] [] [] (Y:=Wd×Wd) (fun y=>True) (fun y=> .agg #[y.1.b,y.1.l,y.2.b,y.2.l]) (fun y=>[]) (fun y=>[qF true y.1 y.2 (Td.un i0 j0)]):=by
 refine zl Tryz.func87 rfl rfl rfl (fun c=> ?_)
 show RunC _ _ _ _ _ [(0,.int .i64 ((i0:Nat):Int)),(1,.int .i64 ((j0:Nat):Int))] [] []
 refine ze<|za<|zD rfl rfl (zo zr32 rfl) (fun b1=> ?_)
 refine zf<|zc<|ze<|ze<|za<|e_mv rfl<|e_mv rfl<|e_p (zxa rfl rfl)<|zf<|zc<|zI rfl (fun h7=> ?_) (fun h7=> ?_)
 ·
  refine ze<|za<|zq rfl rfl (.c rfl .n) ce52 (zHa (z:=1) (hz:=cbo)) (.n) ?_
  rintro ⟨w32,w43⟩ -
  dsimp only [aq,nq,cq]
  refine zk 0 rfl rfl rfl rfl rfl sz32 rfl (.t4 .nil) .z<|zf<|zc<|zE<|zB ?_
  exact zy Tryz.results87 (w32,w43) trivial (zn 0 ty32 rfl rfl (.t4 .nil)) rfl (ho:=oN) ((.e (j:=0) rfl (by rw [show Td.un i0 j0=((1:Int):Rat) from if_pos om]) .n):SelR _ _ _)
 ·
  refine zx<|zc<|ze<|za<|zq rfl rfl (.c rfl .n) ce52 (zHa (z:=0) (hz:=cbo)) (.n) ?_
  rintro ⟨w34,w45⟩ -
  dsimp only [aq,nq,cq]
  refine zk 0 rfl rfl rfl rfl rfl sz32 rfl (.t4 .nil) .z<|zf<|zc<|zE ?_
  exact zy Tryz.results87 (w34,w45) trivial (zn 0 ty32 rfl rfl (.t4 .nil)) rfl (ho:=oN) ((.e (j:=0) rfl (by rw [show Td.un i0 j0=((0:Int):Rat) from if_neg om]) .n):SelR _ _ _)
theorem zYf {K:Nat} {N:Nat} (hK:K≤64) (hN:N≤70):Con yi 86 [.int .i64 ((K:Nat):Int),.int .i64 ((N:Nat):Int),.func (.func 87) #[] #[]] [] [] (Y:=(Option Addr)×Nat×HP) (fun y=>y.2.2.length=K) (fun y=> .slice (y.1) K (y.2.1)) (fun y=>[rowA 62 rV (y.1) (y.2.1) (oh y.2.2 N),rowsM 32 rQ (y.2.2) (Mx.mk K N (fun ii jj=>Td.un ii jj))]) (fun y=>[]):=by
 refine zl Tryz.func86 rfl rfl rfl (fun c=> ?_)
 show RunC _ _ _ _ _ [(0,.int .i64 ((K:Nat):Int)),(1,.int .i64 ((N:Nat):Int)),(2,.func (.func 87) #[] #[])] [] []
 refine ze<|za<|e_p (zb rfl)<|zf<|zc<|ze<|za<|e_mv rfl<|zva rfl rfl (zKa (r:=rV) (k:=K) (x0:=(none,0,0)) (γ0:=()) yf inf62 rfl rfl rfl rfl om om rfl (fun g _=>by trivial) dd) (fun b1 _=> ?_)
 refine e_p (zb rfl)<|zf<|zc<|ze<|ze<|zOd (fun w mm=>mm.rmNil 32 rQ) ?_
 have e2:(List.replicate K (none,0,0):List (Option Addr×Nat×Nat))=(Mx.oz ([]:HP) N K):=by exact Mx.oz_start N K
 rw [e2]
 refine za<|e_mv rfl<|e_p (zG yf rfl)<|e_mv rfl<|zf<|zc<|zw<|zha (X:=Nat×HP) (fun x:Nat×HP=>x.1≤K∧x.2.length=x.1) (fun x=>[(14,.int .i64 ((x.1:Nat):Int)),(13,.int .i64 ((K:Nat):Int)),(7,.slice (some ⟨b1,0,none⟩) K K),(6,.slice none 0 0),(1,.int .i64 ((N:Nat):Int)),(2,.func (.func 87) #[] #[])]) (fun x=>[rowsM 32 rQ (x.2) (Mx.mk x.1 N (fun ii jj=>Td.un ii jj)),rowA 62 rV (some ⟨b1,0,none⟩) K (Mx.oz x.2 N K)]) (fun x=>[]) (fun x:Nat×HP=>K - x.1) (0,([]:HP)) (show 0≤K∧([]:HP).length=0 from by exact ⟨Nat.zero_le _,rfl⟩) ((.e rfl cgs (.of rfl)):SubM _ _) (ho:=((.e (i:=0) rfl (by rfl) (.c (i:=0) rfl .n)):PickO _ _ _)) sN ?_
 rintro ⟨i,hs⟩ hI
 replace hI:i≤K∧hs.length=i:=hI
 try dsimp only
 obtain ⟨hi,hlen⟩:=hI
 refine ze<|za<|e_p (zV rfl rfl)<|zf<|zc<|ze<|zI rfl (fun h3=> ?_) (fun h3=> ?_)
 ·
  refine zx<|zc<|ze<|zw<|ze<|za<|e_mv rfl<|e_p (zb rfl)<|zf<|zc<|ze<|za<|e_mv rfl<|e_mv rfl<|e_mv rfl<|zva rfl rfl (zKa (r:=rE) (k:=N) (x0:=(none:Option Rat)) (γ0:=(wz,wz)) yg inf32 rfl rfl rfl rfl om om rfl (fun g _=>eF_wz g) dd) (fun b4 _=> ?_)
  refine e_p (zS (j:=i) yf sz62 rfl rfl rfl om)<|zEa 2 rfl rfl rfl (zO (j:=i) (x0:=(some ⟨b4,0,none⟩,N,N)) (γ0:=()) rfl rfl (by first|omega|(rw [Mx.oz_len om];omega)|(rw [Mx.fil_len];omega)) rfl rfl sz62 (fun _ _=>by trivial)) (fun _=>(.s (.s .z))) (fun _ _=> ?_)
  refine zf<|zc<|ze ?_
  have e5:(((Mx.oz hs N K).set i (some ⟨b4,0,none⟩,N,N)):List (Option Addr×Nat×Nat))=(Mx.oz (hs++[((some ⟨b4,0,none⟩:Option Addr),N)]) N K):=by exact Mx.oz_step' hlen om
  rw [e5]
  have e6:(List.replicate N (none:Option Rat):List (Option Rat))=(Mx.fil 0 N (fun jj=>Td.un i jj)):=by exact Mx.fil_start N _
  rw [e6]
  refine za<|e_mv rfl<|e_mv rfl<|e_p (zS (j:=i) yf sz62 rfl rfl rfl om)<|r_vl rfl rfl (zL (x0:=(some ⟨b4,0,none⟩,N,N)) (v:= .slice (some ⟨b4,0,none⟩) N N) 2 i rfl ty62 rfl rfl (by exact Mx.oz_last (K:=K) om) rfl) (fun _ hok7=> ?_)
  refine e_p (zG yg rfl)<|e_mv rfl<|zf<|zc<|zw<|zha (X:=Nat) (fun x:Nat=>x≤N) (fun x=>[(27,.int .i64 ((x:Nat):Int)),(26,.int .i64 ((N:Nat):Int)),(8,.int .i64 ((i:Nat):Int)),(14,.int .i64 ((i:Nat):Int)),(13,.int .i64 ((K:Nat):Int)),(7,.slice (some ⟨b1,0,none⟩) K K),(6,.slice none 0 0),(1,.int .i64 ((N:Nat):Int)),(2,.func (.func 87) #[] #[])]) (fun x=>[rowA 32 rE (some ⟨b4,0,none⟩) N (Mx.fil x N (fun jj=>Td.un i jj)),rowsM 32 rQ hs (Mx.mk i N (fun ii jj=>Td.un ii jj)),rowA 62 rV (some ⟨b1,0,none⟩) K (Mx.oz (hs++[((some ⟨b4,0,none⟩:Option Addr),N)]) N K)]) (fun x=>[]) (fun x:Nat=>N - x) 0 (show 0≤N from by exact Nat.zero_le _) ((.e rfl cgs (.of rfl)):SubM _ _) (ho:=((.of [0,0,0] rfl):PickO _ _ _)) sN ?_
  rintro j hJ
  replace hJ:j≤N:=hJ
  try dsimp only
  refine ze<|za<|e_p (zV rfl rfl)<|zf<|zc<|ze<|zI rfl (fun h8=> ?_) (fun h8=> ?_)
  ·
   refine zx<|zc<|ze<|zw<|ze<|za<|e_mv rfl<|e_p (zb rfl)<|zf<|zc<|zW (OW:=[rowA 32 rE (some ⟨b4,0,none⟩) N (Mx.fil j N (fun jj=>Td.un i jj))]) (O:=[rowsM 32 rQ hs (Mx.mk i N (fun ii jj=>Td.un ii jj)),rowA 62 rV (some ⟨b1,0,none⟩) K (Mx.oz (hs++[((some ⟨b4,0,none⟩:Option Addr),N)]) N K)]) 10 mixed (.block (.then (.then (.block (.block (.then (.then (.block (.then .ret))))))))) kr<|e_dm 0 rfl rfl rfl<|e_dm 1 rfl rfl rfl<|e_pv 2 rfl rfl (zS (j:=i) yf sz62 rfl rfl rfl om)<|zvb 3 rfl rfl kr kr kr rfl rfl (zL (x0:=(some ⟨b4,0,none⟩,N,N)) (v:= .slice (some ⟨b4,0,none⟩) N N) 2 i rfl ty62 rfl rfl (by exact Mx.oz_last (K:=K) om) rfl) (fun _ hok9=> ?_)
   refine e_dm 4 rfl rfl rfl<|e_dm 5 rfl rfl rfl<|e_dm 6 rfl rfl rfl<|e_dm 7 rfl rfl rfl<|e_one 8 (zlb (first:=[]) (cap:=[]) rfl rfl rfl rfl rfl (.c rfl (.c rfl .n)) ce87 (zwg (i0:=i) (j0:=j)) (.n) ?_)
   rintro ⟨w310,w411⟩ -
   dsimp only [aq,nq,cq]
   refine e_pv 9 rfl rfl (zS (j:=j) yg sz32 rfl rfl rfl om)<|e_one 10 (zcc (A':=fun _=>rowA 32 rE (some ⟨b4,0,none⟩) N ((Mx.fil j N (fun jj=>Td.un i jj)).set j (some (Td.un i j)))) kr rfl rfl rfl (zO (r:=rE) (j:=j) (x0:=(some (Td.un i j))) (γ0:=(w310,w411)) rfl rfl (by first|omega|(rw [Mx.oz_len om];omega)|(rw [Mx.fil_len];omega)) rfl rfl sz32 (fun g hr=>qF_e (Holds.get 0 rfl hr))) (fun _ _=> ?_))
   refine zN kr<|zQ<|zc<|za<|e_p (zK (z:=(((j+1):Nat):Int)) rfl rfl (w64 om))<|e_mv rfl<|zf<|zca (j+1) (show (j+1)≤N from by show j+1≤N;omega) (by show N - (j+1)<N - j;omega) (mR rfl) (ho:=((.e (i:=0) rfl (by first|rfl|(rw [Mx.fil_step om])) (.of [0,0] rfl)):PickO _ _ _)) sN
  ·
   refine zda<|zj<|zj<|zu<|zQ<|zc<|za<|e_p (zK (z:=(((i+1):Nat):Int)) rfl rfl (w64 om))<|e_mv rfl<|zf<|zad (fun w mm=>mm.rowEQ (l2:=((List.range N).map (fun jj=>Td.un i jj))) 0 rfl (by rw [show j=N by omega];exact Mx.fil_end N _)) ?_
   try dsimp only [List.eraseIdx]
   refine zad (fun w mm=>mm.rmSnoc 0 0 rfl rfl (by rw [Mx.mk_len];exact hlen)) ?_
   try dsimp only [List.eraseIdx]
   refine zca ((i+1),(hs++[((some ⟨b4,0,none⟩:Option Addr),N)])) (show (i+1)≤K∧(hs++[((some ⟨b4,0,none⟩:Option Addr),N)]).length=(i+1) from by exact ⟨by omega,by rw [List.length_append,hlen];rfl⟩) (by show K - (i+1)<K - i;omega) (mR rfl) (ho:=((.e (i:=0) rfl (by first|rfl|(rw [Mx.mk_succ])) (.c (i:=0) rfl .n)):PickO _ _ _)) sN
 ·
  refine zda<|zj<|zj<|zu<|zc<|ze<|za<|e_mv rfl<|e_p (zb rfl)<|zf<|zc<|zE ?_
  have e12:((Mx.oz hs N K):List (Option Addr×Nat×Nat))=(oh hs N):=by exact Mx.oz_end (hlen.trans om)
  rw [e12]
  have e13:(Mx.mk i N (fun ii jj=>Td.un ii jj))=(Mx.mk K N (fun ii jj=>Td.un ii jj)):=by rw [show i=K by omega]
  rw [e13]
  exact zy Tryz.results86 (some ⟨b1,0,none⟩,K,hs) (hlen.trans om) (zp rfl) rfl (ho:=((.of [1,0] rfl):PickO _ _ _)) sN
theorem zjf {pM:Option Addr} {nM:Nat} {cM:Nat} {M:List (List Rat)} (hnM:M.length=nM) (hM1:1≤nM) (hU:∀i,i<nM→(M.getD i []).length=(M.getD 0 []).length) (hK:nM≤64) (hN:(M.getD 0 []).length=nM):Con yi 78 [.slice pM nM cM] [] [slF (rS rQ) pM cM M] (Y:=Unit) (fun y=>True) (fun y=> .int .i64 0) (fun y=>[]) (fun y=>[]):=by
 refine zl Tryz.func78 rfl rfl rfl (fun c=> ?_)
 show RunC _ _ _ _ _ [(0,.slice pM nM cM)] [] [slF (rS rQ) pM cM M]
 refine zX 0 rfl (fun hL0=> ?_)
 refine ze<|za<|e_p (zb rfl)<|zf<|zc<|ze<|ze<|za<|e_mv rfl<|zJ rfl rfl (.c rfl .n) ce19 (zef (pM:=pM) (nM:=nM) (cM:=cM) (M:=M) (hnM:=ass) (hM1:=ass) (hU:=ass) (hK:=ass) (hN:=by first|rfl|assumption|omega|exact ⟨by omega,by omega⟩)) (.c (j:=0) rfl .n)<|e_p (zb rfl)<|zf<|zc<|ze<|za<|e_mv rfl<|e_p (zsa rfl rfl)<|zf<|zc<|zaa rfl rfl<|zx<|zc<|ze<|ze<|za<|e_mv rfl<|e_p (zG yf rfl)<|e_mv rfl<|r_vl rfl rfl (zfa (x0:=(M.getD 0 [])) 0 0 rfl yf sz62 rfl cbo rfl rfl (gD (d:=[]) om)) ?_
 rintro ⟨b1,o2,p3,c4⟩ -
 dsimp only [aq,nq,cq]
 refine e_ru (zi (j:=0) 0 ty62 rfl rfl rfl rfl)<|e_p (zG yg rfl)<|e_p (zsa rfl rfl)<|zf<|zc<|zI rfl (fun h15=> ?_) (fun h15=> ?_)
 ·
  exact absurd om h15
 ·
  refine zx<|zc<|ze<|za<|e_p (zb rfl)<|zf<|zc<|zE ?_
  exact zy Tryz.results78 () trivial (zp rfl) rfl (ho:=oN) sN
theorem zfe {i0:Nat} {j0:Nat} {bM:Nat} {pM:Option Addr} {nM:Nat} {cM:Nat} {M:List (List Rat)} {bN:Nat} {n9:Nat} (hnM:M.length=nM) (hrw:∀i,i<nM→(M.getD i []).length=n9+n9) (hn9:n9≤32) (hi0:i0<nM) (hj0:j0<n9):Con yi 145 [.int .i64 ((i0:Nat):Int),.int .i64 ((j0:Nat):Int),.pointer (some ⟨bM,0,none⟩),.pointer (some ⟨bN,0,none⟩)] [] [atF bM 0 [.slice pM nM cM],slF (rS rQ) pM cM M,atF bN 0 [.int .i64 ((n9:Nat):Int)]] (Y:=Wd×Wd) (fun y=>True) (fun y=> .agg #[y.1.b,y.1.l,y.2.b,y.2.l]) (fun y=>[]) (fun y=>[qF true y.1 y.2 (Td.eW n9 M i0 j0)]):=by
 refine zl Tryz.func145 rfl rfl rfl (fun c=> ?_)
 show RunC _ _ _ _ _ [(0,.int .i64 ((i0:Nat):Int)),(1,.int .i64 ((j0:Nat):Int)),(2,.pointer (some ⟨bM,0,none⟩)),(3,.pointer (some ⟨bN,0,none⟩))] [] [atF bM 0 [.slice pM nM cM],slF (rS rQ) pM cM M,atF bN 0 [.int .i64 ((n9:Nat):Int)]]
 refine zX 1 rfl (fun hL1=> ?_)
 refine ze<|za<|zD rfl rfl (zo zr32 rfl) (fun b1=> ?_)
 refine zf<|zc<|ze<|zW (OW:=[boxA b1 32 (cw [wz,wz])]) (O:=[]) 9 mixed (.then .ret) kr<|e_u 0 rfl rfl (zi (j:=0) 0 ty60 rfl rfl rfl rfl)<|e_dm 1 rfl rfl rfl<|d_vl 2 rfl rfl kr kr rfl rfl (zfa (x0:=(M.getD i0 [])) 1 i0 rfl yf sz62 rfl (by first|rfl|assumption|omega|exact hrw _ hi0) rfl rfl (gD (d:=[]) om)) ?_
 rintro ⟨b2,o3,p4,c5⟩ -
 dsimp only [aq,nq,cq]
 refine e_u 3 rfl rfl (zi (j:=0) 0 ty62 rfl rfl rfl rfl)<|e_u 4 rfl rfl (zi (j:=0) 4 ty3 rfl rfl rfl rfl)<|e_dm 5 rfl rfl rfl<|e_pv 6 rfl rfl (zK (z:=(((n9+j0):Nat):Int)) rfl rfl (w64 om))<|d_vl 7 rfl rfl kr kr rfl rfl (zfa (x0:=((M.getD i0 []).getD (n9+j0) (0:Rat))) 1 (n9+j0) rfl yg sz32 rfl (by first|rfl|assumption|omega|exact hrw _ hi0) rfl rfl (gD (d:=(0:Rat)) (by first|omega|(rw [hrw _ hi0];omega)))) ?_
 rintro ⟨b6,o7,w9,w10⟩ -
 dsimp only [aq,nq,cq]
 refine zxb open_rQ<|e_u 8 rfl rfl (zU (j:=0) 0 ty32 rfl rfl rfl (.t4 .nil))<|e_one 9 (zr kr rfl rfl rfl rfl rfl sz32 rfl (.t4 .nil) ?_)
 refine zN kr<|zc<|zE ?_
 exact zy Tryz.results145 (w9,w10) trivial (zn 0 ty32 rfl rfl (.t4 .nil)) rfl (ho:=oN) ((.c (j:=1) rfl .n):SelR _ _ _)
theorem zkf {K:Nat} {N:Nat} {bM:Nat} {pM:Option Addr} {nM:Nat} {cM:Nat} {M:List (List Rat)} {bN:Nat} {n9:Nat} (hK:K≤64) (hN:N≤70) (hnM:M.length=nM) (hrw:∀i,i<nM→(M.getD i []).length=n9+n9) (hn9:n9≤32) (hKn:K=nM) (hNn:N=n9):Con yi 86 [.int .i64 ((K:Nat):Int),.int .i64 ((N:Nat):Int),.func (.func 145) #[] #[.pointer (some ⟨bM,0,none⟩),.pointer (some ⟨bN,0,none⟩)]] [] [atF bM 0 [.slice pM nM cM],slF (rS rQ) pM cM M,atF bN 0 [.int .i64 ((n9:Nat):Int)]] (Y:=(Option Addr)×Nat×HP) (fun y=>y.2.2.length=K) (fun y=> .slice (y.1) K (y.2.1)) (fun y=>[rowA 62 rV (y.1) (y.2.1) (oh y.2.2 N),rowsM 32 rQ (y.2.2) (Mx.mk K N (fun ii jj=>Td.eW n9 M ii jj))]) (fun y=>[]):=by
 refine zl Tryz.func86 rfl rfl rfl (fun c=> ?_)
 show RunC _ _ _ _ _ [(0,.int .i64 ((K:Nat):Int)),(1,.int .i64 ((N:Nat):Int)),(2,.func (.func 145) #[] #[.pointer (some ⟨bM,0,none⟩),.pointer (some ⟨bN,0,none⟩)])] [] [atF bM 0 [.slice pM nM cM],slF (rS rQ) pM cM M,atF bN 0 [.int .i64 ((n9:Nat):Int)]]
 refine zX 1 rfl (fun hL1=> ?_)
 refine ze<|za<|e_p (zb rfl)<|zf<|zc<|ze<|za<|e_mv rfl<|zva rfl rfl (zKa (r:=rV) (k:=K) (x0:=(none,0,0)) (γ0:=()) yf inf62 rfl rfl rfl rfl om om rfl (fun g _=>by trivial) dd) (fun b1 _=> ?_)
 refine e_p (zb rfl)<|zf<|zc<|ze<|ze<|zOd (fun w mm=>mm.rmNil 32 rQ) ?_
 have e2:(List.replicate K (none,0,0):List (Option Addr×Nat×Nat))=(Mx.oz ([]:HP) N K):=by exact Mx.oz_start N K
 rw [e2]
 refine za<|e_mv rfl<|e_p (zG yf rfl)<|e_mv rfl<|zf<|zc<|zw<|zha (X:=Nat×HP) (fun x:Nat×HP=>x.1≤K∧x.2.length=x.1) (fun x=>[(14,.int .i64 ((x.1:Nat):Int)),(13,.int .i64 ((K:Nat):Int)),(7,.slice (some ⟨b1,0,none⟩) K K),(6,.slice none 0 0),(1,.int .i64 ((N:Nat):Int)),(2,.func (.func 145) #[] #[.pointer (some ⟨bM,0,none⟩),.pointer (some ⟨bN,0,none⟩)])]) (fun x=>[rowsM 32 rQ (x.2) (Mx.mk x.1 N (fun ii jj=>Td.eW n9 M ii jj)),rowA 62 rV (some ⟨b1,0,none⟩) K (Mx.oz x.2 N K)]) (fun x=>[atF bM 0 [.slice pM nM cM],slF (rS rQ) pM cM M,atF bN 0 [.int .i64 ((n9:Nat):Int)]]) (fun x:Nat×HP=>K - x.1) (0,([]:HP)) (show 0≤K∧([]:HP).length=0 from by exact ⟨Nat.zero_le _,rfl⟩) ((.e rfl cgs (.of rfl)):SubM _ _) (ho:=((.e (i:=0) rfl (by rfl) (.c (i:=0) rfl .n)):PickO _ _ _)) ((.of [0,1,2] rfl):SelR _ _ _) ?_
 rintro ⟨i,hs⟩ hI
 replace hI:i≤K∧hs.length=i:=hI
 try dsimp only
 obtain ⟨hi,hlen⟩:=hI
 refine ze<|za<|e_p (zV rfl rfl)<|zf<|zc<|ze<|zI rfl (fun h3=> ?_) (fun h3=> ?_)
 ·
  refine zx<|zc<|ze<|zw<|ze<|za<|e_mv rfl<|e_p (zb rfl)<|zf<|zc<|ze<|za<|e_mv rfl<|e_mv rfl<|e_mv rfl<|zva rfl rfl (zKa (r:=rE) (k:=N) (x0:=(none:Option Rat)) (γ0:=(wz,wz)) yg inf32 rfl rfl rfl rfl om om rfl (fun g _=>eF_wz g) dd) (fun b4 _=> ?_)
  refine e_p (zS (j:=i) yf sz62 rfl rfl rfl om)<|zEa 2 rfl rfl rfl (zO (j:=i) (x0:=(some ⟨b4,0,none⟩,N,N)) (γ0:=()) rfl rfl (by first|omega|(rw [Mx.oz_len om];omega)|(rw [Mx.fil_len];omega)) rfl rfl sz62 (fun _ _=>by trivial)) (fun _=>(.s (.s .z))) (fun _ _=> ?_)
  refine zf<|zc<|ze ?_
  have e5:(((Mx.oz hs N K).set i (some ⟨b4,0,none⟩,N,N)):List (Option Addr×Nat×Nat))=(Mx.oz (hs++[((some ⟨b4,0,none⟩:Option Addr),N)]) N K):=by exact Mx.oz_step' hlen om
  rw [e5]
  have e6:(List.replicate N (none:Option Rat):List (Option Rat))=(Mx.fil 0 N (fun jj=>Td.eW n9 M i jj)):=by exact Mx.fil_start N _
  rw [e6]
  refine za<|e_mv rfl<|e_mv rfl<|e_p (zS (j:=i) yf sz62 rfl rfl rfl om)<|r_vl rfl rfl (zL (x0:=(some ⟨b4,0,none⟩,N,N)) (v:= .slice (some ⟨b4,0,none⟩) N N) 2 i rfl ty62 rfl rfl (by exact Mx.oz_last (K:=K) om) rfl) (fun _ hok7=> ?_)
  refine e_p (zG yg rfl)<|e_mv rfl<|zf<|zc<|zw<|zha (X:=Nat) (fun x:Nat=>x≤N) (fun x=>[(27,.int .i64 ((x:Nat):Int)),(26,.int .i64 ((N:Nat):Int)),(8,.int .i64 ((i:Nat):Int)),(14,.int .i64 ((i:Nat):Int)),(13,.int .i64 ((K:Nat):Int)),(7,.slice (some ⟨b1,0,none⟩) K K),(6,.slice none 0 0),(1,.int .i64 ((N:Nat):Int)),(2,.func (.func 145) #[] #[.pointer (some ⟨bM,0,none⟩),.pointer (some ⟨bN,0,none⟩)])]) (fun x=>[rowA 32 rE (some ⟨b4,0,none⟩) N (Mx.fil x N (fun jj=>Td.eW n9 M i jj)),rowsM 32 rQ hs (Mx.mk i N (fun ii jj=>Td.eW n9 M ii jj)),rowA 62 rV (some ⟨b1,0,none⟩) K (Mx.oz (hs++[((some ⟨b4,0,none⟩:Option Addr),N)]) N K)]) (fun x=>[atF bM 0 [.slice pM nM cM],slF (rS rQ) pM cM M,atF bN 0 [.int .i64 ((n9:Nat):Int)]]) (fun x:Nat=>N - x) 0 (show 0≤N from by exact Nat.zero_le _) ((.e rfl cgs (.of rfl)):SubM _ _) (ho:=((.of [0,0,0] rfl):PickO _ _ _)) ((.of [0,1,2] rfl):SelR _ _ _) ?_
  rintro j hJ
  replace hJ:j≤N:=hJ
  try dsimp only
  refine ze<|za<|e_p (zV rfl rfl)<|zf<|zc<|ze<|zI rfl (fun h8=> ?_) (fun h8=> ?_)
  ·
   refine zx<|zc<|ze<|zw<|ze<|za<|e_mv rfl<|e_p (zb rfl)<|zf<|zc<|zW (OW:=[rowA 32 rE (some ⟨b4,0,none⟩) N (Mx.fil j N (fun jj=>Td.eW n9 M i jj))]) (O:=[rowsM 32 rQ hs (Mx.mk i N (fun ii jj=>Td.eW n9 M ii jj)),rowA 62 rV (some ⟨b1,0,none⟩) K (Mx.oz (hs++[((some ⟨b4,0,none⟩:Option Addr),N)]) N K)]) 10 mixed (.block (.then (.then (.block (.block (.then (.then (.block (.then .ret))))))))) kr<|e_dm 0 rfl rfl rfl<|e_dm 1 rfl rfl rfl<|e_pv 2 rfl rfl (zS (j:=i) yf sz62 rfl rfl rfl om)<|zvb 3 rfl rfl kr kr kr rfl rfl (zL (x0:=(some ⟨b4,0,none⟩,N,N)) (v:= .slice (some ⟨b4,0,none⟩) N N) 2 i rfl ty62 rfl rfl (by exact Mx.oz_last (K:=K) om) rfl) (fun _ hok9=> ?_)
   refine e_dm 4 rfl rfl rfl<|e_dm 5 rfl rfl rfl<|e_dm 6 rfl rfl rfl<|e_dm 7 rfl rfl rfl<|e_one 8 (zlb (first:=[]) (cap:=[.pointer (some ⟨bM,0,none⟩),.pointer (some ⟨bN,0,none⟩)]) rfl rfl rfl rfl rfl (.c rfl (.c rfl .n)) ce145 (zfe (i0:=i) (j0:=j) (bM:=bM) (pM:=pM) (nM:=nM) (cM:=cM) (M:=M) (bN:=bN) (n9:=n9) (hnM:=ass) (hrw:=ass) (hn9:=ass) (hi0:=cbo) (hj0:=cbo)) (.c (j:=0) rfl (.c (j:=1) rfl (.c (j:=2) rfl .n))) ?_)
   rintro ⟨w310,w411⟩ -
   dsimp only [aq,nq,cq]
   refine e_pv 9 rfl rfl (zS (j:=j) yg sz32 rfl rfl rfl om)<|e_one 10 (zcc (A':=fun _=>rowA 32 rE (some ⟨b4,0,none⟩) N ((Mx.fil j N (fun jj=>Td.eW n9 M i jj)).set j (some (Td.eW n9 M i j)))) kr rfl rfl rfl (zO (r:=rE) (j:=j) (x0:=(some (Td.eW n9 M i j))) (γ0:=(w310,w411)) rfl rfl (by first|omega|(rw [Mx.oz_len om];omega)|(rw [Mx.fil_len];omega)) rfl rfl sz32 (fun g hr=>qF_e (Holds.get 0 rfl hr))) (fun _ _=> ?_))
   refine zN kr<|zQ<|zc<|za<|e_p (zK (z:=(((j+1):Nat):Int)) rfl rfl (w64 om))<|e_mv rfl<|zf<|zca (j+1) (show (j+1)≤N from by show j+1≤N;omega) (by show N - (j+1)<N - j;omega) (mR rfl) (ho:=((.e (i:=0) rfl (by first|rfl|(rw [Mx.fil_step om])) (.of [0,0] rfl)):PickO _ _ _)) ((.of [1,2,3] rfl):SelR _ _ _)
  ·
   refine zda<|zj<|zj<|zu<|zQ<|zc<|za<|e_p (zK (z:=(((i+1):Nat):Int)) rfl rfl (w64 om))<|e_mv rfl<|zf<|zad (fun w mm=>mm.rowEQ (l2:=((List.range N).map (fun jj=>Td.eW n9 M i jj))) 0 rfl (by rw [show j=N by omega];exact Mx.fil_end N _)) ?_
   try dsimp only [List.eraseIdx]
   refine zad (fun w mm=>mm.rmSnoc 0 0 rfl rfl (by rw [Mx.mk_len];exact hlen)) ?_
   try dsimp only [List.eraseIdx]
   refine zca ((i+1),(hs++[((some ⟨b4,0,none⟩:Option Addr),N)])) (show (i+1)≤K∧(hs++[((some ⟨b4,0,none⟩:Option Addr),N)]).length=(i+1) from by exact ⟨by omega,by rw [List.length_append,hlen];rfl⟩) (by show K - (i+1)<K - i;omega) (mR rfl) (ho:=((.e (i:=0) rfl (by first|rfl|(rw [Mx.mk_succ])) (.c (i:=0) rfl .n)):PickO _ _ _)) ((.of [0,1,2] rfl):SelR _ _ _)
 ·
  refine zda<|zj<|zj<|zu<|zc<|ze<|za<|e_mv rfl<|e_p (zb rfl)<|zf<|zc<|zE ?_
  have e12:((Mx.oz hs N K):List (Option Addr×Nat×Nat))=(oh hs N):=by exact Mx.oz_end (hlen.trans om)
  rw [e12]
  have e13:(Mx.mk i N (fun ii jj=>Td.eW n9 M ii jj))=(Mx.mk K N (fun ii jj=>Td.eW n9 M ii jj)):=by rw [show i=K by omega]
  rw [e13]
  exact zy Tryz.results86 (some ⟨b1,0,none⟩,K,hs) (hlen.trans om) (zp rfl) rfl (ho:=((.of [1,0] rfl):PickO _ _ _)) sN
theorem zxg {pL:Option Addr} {nL:Nat} {cL:Nat} {LL:List (List Int)} {N:Nat} (hnL:LL.length=nL) (hL1:1≤nL) (hU:∀i,i<nL→(LL.getD i []).length=(LL.getD 0 []).length) (hK:nL≤64) (hL0:(LL.getD 0 []).length=N) (hN:1≤N∧N≤64):Con yi 51 [.slice pL nL cL] [] [slF (rS (rI .i64)) pL cL LL] (Y:=(Option Addr)×Nat×HP) (fun y=>y.2.2.length=nL) (fun y=> .tuple #[.slice (y.1) nL (y.2.1),.int .i64 0]) (fun y=>[rowA 62 rV (y.1) (y.2.1) (oh y.2.2 N),rowsM 32 rQ (y.2.2) (Mx.mk nL N (fun ii jj=>Mx.eI LL ii jj))]) (fun y=>[]):=by
 refine zl Tryz.func51 rfl rfl rfl (fun c=> ?_)
 show RunC _ _ _ _ _ [(0,.slice pL nL cL)] [] [slF (rS (rI .i64)) pL cL LL]
 refine zX 0 rfl (fun hL0=> ?_)
 refine ze<|za<|zD rfl rfl (zT rfl rfl) (fun b1=> ?_)
 refine e_p (zb rfl)<|e_p (zb rfl)<|zf<|zc<|ze<|ze<|za<|e_ru (zg 0 ty106 rfl rfl rfl)<|e_p (zG yl rfl)<|e_p (zV rfl rfl) ?_
 rw [show (decide (((nL:Nat):Int)<1))=false from by exact decide_eq_false om]
 refine e_mv rfl<|e_ru (zg 0 ty106 rfl rfl rfl)<|e_p (zG yl rfl)<|e_p (zpa rfl rfl) ?_
 rw [show (decide (64<((nL:Nat):Int)))=false from by exact decide_eq_false om]
 refine e_p (zC rfl rfl)<|e_mv rfl<|e_ru (zg 0 ty106 rfl rfl rfl)<|r_vl rfl rfl (zfa (x0:=(LL.getD 0 [])) 0 0 rfl yl sz46 rfl cbo rfl rfl (gD (d:=[]) om)) ?_
 rintro ⟨b2,o3,p4,c5⟩ -
 dsimp only [aq,nq,cq]
 refine e_ru (zi (j:=0) 0 ty46 rfl rfl rfl rfl)<|e_p (zG yd rfl)<|e_p (zV rfl rfl) ?_
 rw [show (decide ((((LL.getD 0 []).length:Nat):Int)<1))=false from by exact decide_eq_false om]
 refine e_p (zC rfl rfl)<|e_mv rfl<|e_ru (zg 0 ty106 rfl rfl rfl)<|r_vl rfl rfl (zfa (x0:=(LL.getD 0 [])) 2 0 rfl yl sz46 rfl cbo rfl rfl (gD (d:=[]) om)) ?_
 rintro ⟨b6,o7,p8,c9⟩ -
 dsimp only [aq,nq,cq]
 refine e_ru (zi (j:=0) 0 ty46 rfl rfl rfl rfl)<|e_p (zG yd rfl)<|e_p (zpa rfl rfl) ?_
 rw [show (decide (64<(((LL.getD 0 []).length:Nat):Int)))=false from by exact decide_eq_false om]
 refine e_p (zC rfl rfl)<|zf<|zc<|zaa rfl rfl<|zx<|zc<|ze<|ze<|zFa 0 rfl .z<|za<|e_ru (zi (j:=0) 0 ty106 rfl rfl rfl rfl)<|e_p (zZa .n (.c rfl .n))<|zJ rfl rfl (.c rfl (.c rfl .n)) ce134 (zif (bq:=b1) (pL:=pL) (nL:=nL) (cL:=cL) (LL:=LL) (hnL:=ass) (hL1:=ass) (hU:=ass)) (.c (j:=0) rfl (.c (j:=5) rfl .n))<|zf<|zc<|zaa rfl rfl<|zx<|zc<|ze<|zW (OW:=[]) (O:=[emA]) 100000 mixed (.then .ret) kr<|e_u 0 rfl rfl (zi (j:=0) 0 ty106 rfl rfl rfl rfl)<|e_pv 1 rfl rfl (zG yl rfl)<|e_u 2 rfl rfl (zi (j:=0) 0 ty106 rfl rfl rfl rfl)<|d_vl 3 rfl rfl kr kr rfl rfl (zfa (x0:=(LL.getD 0 [])) 5 0 rfl yl sz46 rfl cbo rfl rfl (gD (d:=[]) om)) ?_
 rintro ⟨b10,o11,p12,c13⟩ -
 dsimp only [aq,nq,cq]
 refine e_u 4 rfl rfl (zi (j:=0) 0 ty46 rfl rfl rfl rfl)<|e_pv 5 rfl rfl (zG yd rfl) ?_
 have e14:((((LL.getD 0 []).length:Nat):Int):Int)=((N:Nat):Int):=by omega
 rw [e14]
 refine e_pv 6 rfl rfl (zZa .n (.c rfl .n))<|e_one 7 (zv rfl rfl rfl rfl (.c rfl (.c rfl (.c rfl .n))) ce86 (zbf (K:=nL) (N:=N) (bq:=b1) (pL:=pL) (nL:=nL) (cL:=cL) (LL:=LL) (hK:=ass) (hN:=by first|rfl|assumption|omega|(intro i hi;rw [hU i hi];assumption)) (hnL:=ass) (hKL:=by first|rfl|assumption|omega|(intro i hi;rw [hU i hi];assumption)) (hrL:=by first|rfl|assumption|omega|(intro i hi;rw [hU i hi];assumption))) (.c (j:=2) rfl (.c (j:=7) rfl .n)) ?_)
 rintro ⟨p315,c316,hs17⟩ hsl
 dsimp only [aq,nq,cq]
 replace hsl:hs17.length=nL:=hsl
 refine e_pv 8 rfl rfl (zb rfl)<|e_pv 9 rfl rfl (zb rfl)<|zN kr<|zc<|zE ?_
 exact zBa Tryz.results51 (p315,c316,hs17) hsl (zp rfl) (zp rfl) rfl (ho:=((.of [0,0] rfl):PickO _ _ _)) sN
end Go.Proofs.YtpdbimfnhglhpaaGreat.Sp
namespace Go.Proofs.YtpdbimfnhglhpaaGreat.Sp
open Go
set_option linter.unusedVariables false
set_option maxRecDepth 100000
set_option maxHeartbeats 8000000
theorem zge {pM:Option Addr} {nM:Nat} {cM:Nat} {M:List (List Rat)} {b:Nat} (hnM:M.length=nM) (hM1:1≤nM) (hK:nM≤32) (hrM:∀i,i<nM→(M.getD i []).length=nM) (hb1:1≤b) (hbM:Mx.bd M b) (hH:Mx.H b nM≤200000) (hnul:∀v:Nat→Rat,(∀i,i<nM→Mx.sm nM (fun j=>Mx.e M i j*v j)=0)→∀i,i<nM→v i=0):Con yi 58 [.slice pM nM cM] [] [slF (rS rQ) pM cM M] (Y:=(Option Addr)×Nat×(List (List Rat))) (fun y=>Td.Inv M y.2.2 nM (Mx.H b nM)) (fun y=> .tuple #[.slice (y.1) nM (y.2.1),.int .i64 0]) (fun y=>[]) (fun y=>[slF (rS rQ) (y.1) (y.2.1) (y.2.2)]):=by
 refine zl Tryz.func58 rfl rfl rfl (fun c=> ?_)
 show RunC _ _ _ _ _ [(0,.slice pM nM cM)] [] [slF (rS rQ) pM cM M]
 refine zX 0 rfl (fun hL0=> ?_)
 have hM0:=hrM 0 om
 have hU:∀i,i<nM→(M.getD i []).length=(M.getD 0 []).length:=fun i hi=>by rw [hrM i hi,hM0]
 have hUl:(Mx.mk nM nM (fun ii jj=>Td.un ii jj)).length=nM:=Mx.mk_len _ _ _
 have hUr:∀i,i<nM→((Mx.mk nM nM (fun ii jj=>Td.un ii jj)).getD i []).length=nM:=fun i hi=>by rw [Mx.mk_row hi];simp
 refine ze<|za<|e_p (zb rfl)<|e_p (zb rfl)<|zf<|zc<|ze<|ze<|za<|e_mv rfl<|zJ rfl rfl (.c rfl .n) ce78 (zjf (pM:=pM) (nM:=nM) (cM:=cM) (M:=M) (hnM:=ass) (hM1:=ass) (hU:=by first|rfl|assumption|omega|exact ⟨by omega,by omega⟩|exact Mx.mk_len _ _ _|(rw [hUr _ om];done)|(intro i hi;rw [hUr i hi];done)|(intro i hi;rw [hUr i hi])) (hK:=by first|rfl|assumption|omega|exact ⟨by omega,by omega⟩|exact Mx.mk_len _ _ _|(rw [hUr _ om];done)|(intro i hi;rw [hUr i hi];done)|(intro i hi;rw [hUr i hi])) (hN:=by first|rfl|assumption|omega|exact ⟨by omega,by omega⟩|exact Mx.mk_len _ _ _|(rw [hUr _ om];done)|(intro i hi;rw [hUr i hi];done)|(intro i hi;rw [hUr i hi]))) (.c (j:=0) rfl .n)<|e_p (zb rfl)<|zf<|zc<|ze<|za<|e_mv rfl<|e_p (zsa rfl rfl)<|zf<|zc<|zaa rfl rfl<|zx<|zc<|ze<|za<|e_mv rfl<|e_p (zG yf rfl)<|zD rfl rfl (zo zr3 rfl) (fun b1=> ?_)
 refine zk 0 rfl rfl rfl rfl rfl sz3 rfl (.take .nil) .z<|zf<|zc<|ze<|za<|e_mv rfl<|e_ru (zg 0 ty3 rfl rfl rfl)<|e_ru (zg 0 ty3 rfl rfl rfl)<|zq rfl rfl (.c rfl (.c rfl (.c rfl .n))) ce86 (zYf (K:=nM) (N:=nM) (hK:=by first|rfl|assumption|omega|exact ⟨by omega,by omega⟩|exact Mx.mk_len _ _ _|(rw [hUr _ om];done)|(intro i hi;rw [hUr i hi];done)|(intro i hi;rw [hUr i hi])) (hN:=by first|rfl|assumption|omega|exact ⟨by omega,by omega⟩|exact Mx.mk_len _ _ _|(rw [hUr _ om];done)|(intro i hi;rw [hUr i hi];done)|(intro i hi;rw [hUr i hi]))) (.n) ?_
 rintro ⟨p32,c33,hs4⟩ hul
 dsimp only [aq,nq,cq]
 replace hul:hs4.length=nM:=hul
 refine r_mem (fun w mm=>mm.rmFreeze 0 1 rfl rfl ((Mx.mk_sm nM nM _ hul).hl) ((Mx.mk_sm nM nM _ hul).rl)) ?_
 try dsimp only [List.set]
 refine zq rfl rfl (.c rfl (.c rfl .n)) ce143 (zgf (pA:=pM) (nA:=nM) (cA:=cM) (A:=M) (pB:=p32) (nB:=nM) (cB:=c33) (B:=(Mx.mk nM nM (fun ii jj=>Td.un ii jj))) (n9:=nM) (N:=(nM+nM)) (hn64:=by first|rfl|assumption|omega|exact ⟨by omega,by omega⟩|exact Mx.mk_len _ _ _|(rw [hUr _ om];done)|(intro i hi;rw [hUr i hi];done)|(intro i hi;rw [hUr i hi])) (hnA:=ass) (hnB:=by first|rfl|assumption|omega|exact ⟨by omega,by omega⟩|exact Mx.mk_len _ _ _|(rw [hUr _ om];done)|(intro i hi;rw [hUr i hi];done)|(intro i hi;rw [hUr i hi])) (hA0:=by first|rfl|assumption|omega|exact ⟨by omega,by omega⟩|exact Mx.mk_len _ _ _|(rw [hUr _ om];done)|(intro i hi;rw [hUr i hi];done)|(intro i hi;rw [hUr i hi])) (hAB:=by first|rfl|assumption|omega|exact ⟨by omega,by omega⟩|exact Mx.mk_len _ _ _|(rw [hUr _ om];done)|(intro i hi;rw [hUr i hi];done)|(intro i hi;rw [hUr i hi])) (hA1:=by first|rfl|assumption|omega|exact ⟨by omega,by omega⟩|exact Mx.mk_len _ _ _|(rw [hUr _ om];done)|(intro i hi;rw [hUr i hi];done)|(intro i hi;rw [hUr i hi])) (hB0:=by first|rfl|assumption|omega|exact ⟨by omega,by omega⟩|exact Mx.mk_len _ _ _|(rw [hUr _ om];done)|(intro i hi;rw [hUr i hi];done)|(intro i hi;rw [hUr i hi])) (hN:=by first|rfl|assumption|omega|exact ⟨by omega,by omega⟩|exact Mx.mk_len _ _ _|(rw [hUr _ om];done)|(intro i hi;rw [hUr i hi];done)|(intro i hi;rw [hUr i hi])) (hAr:=ass) (hBr:=by first|rfl|assumption|omega|exact ⟨by omega,by omega⟩|exact Mx.mk_len _ _ _|(rw [hUr _ om];done)|(intro i hi;rw [hUr i hi];done)|(intro i hi;rw [hUr i hi]))) (.c (j:=1) rfl (.c (j:=0) rfl .n)) ?_
 rintro ⟨p35,c36,hs7⟩ hsl
 dsimp only [aq,nq,cq]
 replace hsl:hs7.length=nM:=hsl
 refine zD rfl rfl (zo zr60 rfl) (fun b8=> ?_)
 refine zk 0 rfl rfl rfl rfl rfl sz60 rfl (.take .nil) .z<|zf<|zc<|ze<|ze<|zoa (.c (i:=1) rfl (.c (i:=1) rfl (.c (i:=0) rfl (.c (i:=0) rfl (.c (i:=0) rfl (.c (i:=0) rfl .n))))))<|zW (OW:=[rowA 62 rV p35 c36 (oh hs7 (nM+nM)),rowsM 32 rQ hs7 (Mx.mk nM (nM+nM) (fun ii jj=>Mx.eB M (Mx.mk nM nM (fun ii jj=>Td.un ii jj)) nM ii jj))]) (O:=[boxA b8 60 [.slice p35 nM c36],emA,emA,boxA b1 3 [.int .i64 ((nM:Nat):Int)]]) 2 mixed (.then (.then .ret)) kr<|e_uw 0 rfl rfl (zg 2 ty60 rfl rfl rfl)<|e_uw 1 rfl rfl (zg 5 ty3 rfl rfl rfl)<|e_u 4 rfl rfl (zg 3 ty3 rfl rfl rfl)<|zDa (zba (i:=1) rfl)<|zDa (zba (i:=1) rfl)<|e_one 2 (zjg (A:=[rowA 62 rV p35 c36 (oh hs7 (nM+nM)),rowsM 32 rQ hs7 (Mx.mk nM (nM+nM) (fun ii jj=>Mx.eB M (Mx.mk nM nM (fun ii jj=>Td.un ii jj)) nM ii jj))]) (OW:=[]) (first:=[]) (cap:=[]) kr rfl rfl rfl rfl (.c rfl (.c rfl .n)) ce144 (zff (pA:=p35) (cA:=c36) (hs:=hs7) (M:=(Mx.mk nM (nM+nM) (fun ii jj=>Mx.eB M (Mx.mk nM nM (fun ii jj=>Td.un ii jj)) nM ii jj))) (K:=nM) (N:=(nM+nM)) (nj:=nM) (b:=b) (hSm:=by exact Mx.mk_sm _ _ _ hsl) (hK:=by first|rfl|assumption|omega|exact ⟨by omega,by omega⟩|exact Mx.mk_len _ _ _|(rw [hUr _ om];done)|(intro i hi;rw [hUr i hi];done)|(intro i hi;rw [hUr i hi])) (hN:=by first|rfl|assumption|omega|exact ⟨by omega,by omega⟩|exact Mx.mk_len _ _ _|(rw [hUr _ om];done)|(intro i hi;rw [hUr i hi];done)|(intro i hi;rw [hUr i hi])) (hnN:=by first|rfl|assumption|omega|exact ⟨by omega,by omega⟩|exact Mx.mk_len _ _ _|(rw [hUr _ om];done)|(intro i hi;rw [hUr i hi];done)|(intro i hi;rw [hUr i hi])) (hb0:=by exact Td.aug_hq hbM hb1) (hH:=ass)) (.n) ?_)
 rintro ⟨hs59,M5,qs,p310,c311⟩ hred
 dsimp only [aq,nq,cq]
 replace hred:Mx.Sm hs59 M5 nM (nM+nM)∧Mx.Rd (nM+nM) nM (Mx.mk nM (nM+nM) (fun ii jj=>Mx.eB M (Mx.mk nM nM (fun ii jj=>Td.un ii jj)) nM ii jj)) M5 nM qs∧Mx.bd M5 (Mx.H b nM):=hred
 refine e_pv 3 rfl rfl (zG yd rfl)<|e_pv 5 rfl rfl (zV rfl rfl)<|zN kr<|zc<|zI rfl (fun h24=> ?_) (fun h24=> ?_)
 ·
  exact absurd h24 (by have hq7:=(Td.inv_of hred.2.1 hnul hred.2.2 (Nat.le_trans hb1 (Mx.H_mono b (Nat.zero_le nM)))).1;omega)
 ·
  refine zx<|zc<|ze ?_
  obtain ⟨hS5,hRd,hb5⟩:=hred
  have hM5:=hS5.l
  obtain ⟨hql,hinv⟩:=Td.inv_of hRd hnul hb5 (Nat.le_trans hb1 (Mx.H_mono b (Nat.zero_le nM)))
  refine zOd (fun w mm=>mm.rmFreeze 0 1 rfl rfl (hS5.hl) (hS5.rl)) ?_
  try dsimp only [List.set]
  refine zFa 6 rfl (.s (.s (.s (.s (.s (.s .z))))))<|zFa 3 rfl (.s (.s (.s .z)))<|za<|e_ru (zi (j:=0) 1 ty3 rfl rfl rfl rfl)<|e_ru (zi (j:=0) 1 ty3 rfl rfl rfl rfl)<|e_p (zZa .n (.c rfl (.c rfl .n)))<|zq rfl rfl (.c rfl (.c rfl (.c rfl .n))) ce86 (zkf (K:=nM) (N:=nM) (bM:=b8) (pM:=p35) (nM:=nM) (cM:=c36) (M:=M5) (bN:=b1) (n9:=nM) (hK:=by first|rfl|assumption|omega|exact ⟨by omega,by omega⟩|exact Mx.mk_len _ _ _|(rw [hUr _ om];done)|(intro i hi;rw [hUr i hi];done)|(intro i hi;rw [hUr i hi])) (hN:=by first|rfl|assumption|omega|exact ⟨by omega,by omega⟩|exact Mx.mk_len _ _ _|(rw [hUr _ om];done)|(intro i hi;rw [hUr i hi];done)|(intro i hi;rw [hUr i hi])) (hnM:=by exact hM5) (hrw:=by exact hS5.r) (hn9:=ass) (hKn:=by first|rfl|assumption|omega|exact ⟨by omega,by omega⟩|exact Mx.mk_len _ _ _|(rw [hUr _ om];done)|(intro i hi;rw [hUr i hi];done)|(intro i hi;rw [hUr i hi])) (hNn:=by first|rfl|assumption|omega|exact ⟨by omega,by omega⟩|exact Mx.mk_len _ _ _|(rw [hUr _ om];done)|(intro i hi;rw [hUr i hi];done)|(intro i hi;rw [hUr i hi]))) (.c (j:=0) rfl (.c (j:=2) rfl (.c (j:=1) rfl .n))) ?_
  rintro ⟨p312,c313,hs14⟩ hil
  dsimp only [aq,nq,cq]
  replace hil:hs14.length=nM:=hil
  refine e_p (zb rfl)<|e_p (zb rfl)<|zf<|zc<|zE<|zad (fun w mm=>mm.rmFreeze 0 1 rfl rfl ((Mx.mk_sm nM nM _ hil).hl) ((Mx.mk_sm nM nM _ hil).rl)) ?_
  try dsimp only [List.set]
  exact zBa Tryz.results58 (p312,c313,(Mx.mk nM nM (fun ii jj=>Td.eW nM M5 ii jj))) hinv (zp rfl) (zp rfl) rfl (ho:=oN) (s0 rfl)
end Go.Proofs.YtpdbimfnhglhpaaGreat.Sp
namespace Go.Proofs.YtpdbimfnhglhpaaGreat.Sp
open Go
set_option linter.unusedVariables false
theorem at_part {g:Hp} {b:Nat} {cs:List Value} (h:AtP g b 0 cs) (k m:Nat):AtP g b k ((cs.drop k).take m):=by
  obtain ⟨cells,T,fz,e,hc⟩:=h
  refine ⟨cells,T,fz,e,fun j v hv=> ?_⟩
  rw [List.getElem?_take] at hv
  split at hv
  · rw [List.getElem?_drop] at hv
    have:=hc (k+j) v hv
    rwa [Nat.zero_add] at this
  · cases hv
end Go.Proofs.YtpdbimfnhglhpaaGreat.Sp
namespace Go.Proofs.YtpdbimfnhglhpaaGreat.Sp
open Go
set_option linter.unusedVariables false
section
variable {P : Program} {c : Cx} {n : Sz} {Q : Exit → Act → World → Prop} {m : Fm} {O : List As} {R : List Fa} {α : Type} {d : Option Tmp} {ty : TypeId} {ps : String} {af : Array Edge} {gd : Option (Nat × Bool)}
theorem RowOn.drop {T:TypeId} {r:Rp α} {p:Option Addr} {cap:Nat} {l:List α} {g h:Hp} (k:Nat) (hk:k≤l.length) (s:RowOn T r p cap l g h):RowOn T r (newP p cap k r.sz) (cap - k) (l.drop k) g h:=by
  rcases s with ⟨h1,h2,h3,h4⟩|⟨b,off,cells,e1,e2,e3,e4,e5,e6⟩
  · subst h3; simp at hk; subst hk
    exact .inl ⟨by unfold newP;rw [h1];split <;> rfl,by omega,rfl,h4⟩
  · by_cases e : cap = k
    · refine .inr ⟨b, off, cells, by unfold newP; rw [if_pos e, e1], by rw [List.length_drop]; omega, by omega, ?_, e5, fun i x h => ?_⟩
      · rw [e,Nat.sub_self,Nat.zero_mul];omega
      · rw [List.getElem?_drop] at h
        have:=(List.getElem?_eq_some_iff.1 h).1;omega
    · refine .inr ⟨b, off + k * r.sz, cells, ?_, by rw [List.length_drop]; omega, by omega, ?_, e5, fun i x h => ?_⟩
      · unfold newP; rw [if_neg e, e1]
        by_cases z:k*r.sz=0
        · rw [z];simp [Addr.add]
        · simp [Addr.add,z]
      · have : (cap - k) * r.sz + k * r.sz = cap * r.sz := by rw [← Nat.add_mul]; congr 1; omega
        omega
      · rw [List.getElem?_drop] at h
        obtain ⟨γ,a1,a2⟩:=e6 (k+i) x h
        refine ⟨γ,⟨a1.1,fun j v hv=> ?_⟩,a2⟩
        have:=a1.2 j v hv
        rw [Nat.add_mul] at this
        rw [show off+k*r.sz+i*r.sz+j=off+(k*r.sz+i*r.sz)+j by omega];exact this
theorem ztb {t e:TypeId} {x:Operand} {b o len sz:Nat} (hu:P.underlying t=some (.array len e)) (ht:(P.info? e).map (·.size)=some sz) (h:evo m x=some (.pointer (some ⟨b,o,none⟩))):
    PV P n ⟨d,.slice t x none none none,ty,ps,af,gd⟩ m (.slice (some ⟨b,o,none⟩) len len):=fun a w f=>by
  have e:Instr.sureAddr (.pointer (some ⟨b,o,none⟩))=pure ⟨b,o,none⟩:=rfl
  simp [execOp,f.ev h,Instr.sliceAt,Instr.sliceBounds,run_underlying hu,zqa ht,Instr.sureAddr,Addr.add]
end
end Go.Proofs.YtpdbimfnhglhpaaGreat.Sp
namespace Go.Proofs.YtpdbimfnhglhpaaGreat.Sp
open Go
set_option linter.unusedVariables false
def rRy:Rp Td.Ry:=⟨24,Wd×Wd×Wd×Wd×Wd×Wd×Wd×Wd×Wd×Wd×Wd×Wd,fun _ (a,b,c,d,e,f,g,h,i,j,k,l)=>[a.b,a.l,b.b,b.l,c.b,c.l,d.b,d.l,e.b,e.l,f.b,f.l,g.b,g.l,h.b,h.l,i.b,i.l,j.b,j.l,k.b,k.l,l.b,l.l],
  fun z q (a,b,c,d,e,f,g,h,i,j,k,l)=>(qF true a b q.o0).on z∧(qF true c d q.o1).on z∧(qF true e f q.o2).on z∧(qF true g h q.a0).on z∧(qF true i j q.a1).on z∧(qF true k l q.a2).on z,
  fun _ _ _ _ h k=>⟨(qF true _ _ _).mono _ _ h k.1,(qF true _ _ _).mono _ _ h k.2.1,(qF true _ _ _).mono _ _ h k.2.2.1,(qF true _ _ _).mono _ _ h k.2.2.2.1,(qF true _ _ _).mono _ _ h k.2.2.2.2.1,(qF true _ _ _).mono _ _ h k.2.2.2.2.2⟩,fun _ _=>rfl,fun _ _=>rfl⟩
section
variable {A : Fa} {q : Td.Ry} {R : List Fa} {a b c d e f g h i j k l : Wd}
theorem open_rRy:∀z,Holds z (A :: okF rRy q (a,b,c,d,e,f,g,h,i,j,k,l) :: R)→Holds z (A :: qF true a b q.o0 :: qF true c d q.o1 :: qF true e f q.o2 :: qF true g h q.a0 :: qF true i j q.a1 :: qF true k l q.a2 :: R):=fun _ ⟨x,y,r⟩=>⟨x,y.1,y.2.1,y.2.2.1,y.2.2.2.1,y.2.2.2.2.1,y.2.2.2.2.2,r⟩
end
theorem sl3_at {R:List Fa} {b o:Nat} {cs:List Value} {w1 w2 w3 w4 w5 w6:Wd} {x y z:Rat} (i j k l:Nat) (hi:R[i]? =some (atF b 0 cs)) (hc:(cs.drop o).take 12=[w1.b,w1.l,w2.b,w2.l,w3.b,w3.l,w4.b,w4.l,w5.b,w5.l,w6.b,w6.l]) (hj:R[j]? =some (qF true w1 w2 x)) (hk:R[k]? =some (qF true w3 w4 y)) (hl:R[l]? =some (qF true w5 w6 z)):
    ∀g,Holds g R→(slF rQ (some ⟨b,o,none⟩) 3 [x,y,z]).on g:=fun g h=>by
  have ha0:AtP g b 0 cs:=Holds.get i hi h
  have ha:=at_part ha0 o 12
  rw [hc] at ha
  have sub:∀q,AtP g b (o+q) (([w1.b,w1.l,w2.b,w2.l,w3.b,w3.l,w4.b,w4.l,w5.b,w5.l,w6.b,w6.l].drop q).take 4):=fun q=>by
    obtain ⟨cells,T,fz,e,hc⟩:=ha
    refine ⟨cells,T,fz,e,fun j v hv=> ?_⟩
    rw [List.getElem?_take] at hv
    split at hv
    · rw [List.getElem?_drop] at hv
      have:=hc (q+j) v hv
      rw [Nat.add_assoc];exact this
    · cases hv
  have h1:(qF true w1 w2 x).on g:=Holds.get j hj h
  have h2:(qF true w3 w4 y).on g:=Holds.get k hk h
  have h3:(qF true w5 w6 z).on g:=Holds.get l hl h
  refine ⟨Nat.le_refl _,by decide,(fun e=>by cases e),fun q u hu=> ?_⟩
  match q,hu with
  |0,hu=>obtain rfl:=Option.some.inj hu;exact ⟨b,o,(w1,w2),rfl,sub 0,h1⟩
  |1,hu=>obtain rfl:=Option.some.inj hu;exact ⟨b,o,(w3,w4),rfl,sub 4,h2⟩
  |2,hu=>obtain rfl:=Option.some.inj hu;exact ⟨b,o,(w5,w6),rfl,sub 8,h3⟩
  |_+3,hu=>simp at hu
theorem at3 {g:Hp} {p:Option Addr} {cap:Nat} {l:List Rat} (hs:Sl rQ g p cap l) (hl:3≤l.length):
    ∃(b o:Nat) (w1 w2 w3 w4 w5 w6:Wd),p=some ⟨b,o,none⟩∧AtP g b o [w1.b,w1.l,w2.b,w2.l,w3.b,w3.l,w4.b,w4.l,w5.b,w5.l,w6.b,w6.l]∧(qF true w1 w2 (l.getD 0 0)).on g∧(qF true w3 w4 (l.getD 1 0)).on g∧(qF true w5 w6 (l.getD 2 0)).on g:=by
  have el:∀i,i<3→l[i]? =some (l.getD i 0):=fun i hi=>by rw [List.getD_eq_getElem?_getD,List.getElem?_eq_getElem (by omega)];rfl
  obtain ⟨b,o,⟨w1,w2⟩,e1,⟨cells,T,fz,a1,c1⟩,k1⟩:=hs.2.2.2 0 _ (el 0 (by omega))
  obtain ⟨b',o',⟨w3,w4⟩,e2,⟨cells',T',fz',a2,c2⟩,k2⟩:=hs.2.2.2 1 _ (el 1 (by omega))
  obtain ⟨b'',o'',⟨w5,w6⟩,e3,⟨cells'',T'',fz'',a3,c3⟩,k3⟩:=hs.2.2.2 2 _ (el 2 (by omega))
  subst e1
  cases e2;cases e3
  rw [a1] at a2 a3
  cases a2;cases a3
  refine ⟨b,o,w1,w2,w3,w4,w5,w6,rfl,⟨cells,T,fz,a1,fun j v hv=> ?_⟩,k1,k2,k3⟩
  have c1':∀j v,([w1.b,w1.l,w2.b,w2.l]:List Value)[j]? =some v→cells[o+0*4+j]? =some v:=c1
  have c2':∀j v,([w3.b,w3.l,w4.b,w4.l]:List Value)[j]? =some v→cells[o+1*4+j]? =some v:=c2
  have c3':∀j v,([w5.b,w5.l,w6.b,w6.l]:List Value)[j]? =some v→cells[o+2*4+j]? =some v:=c3
  match j,hv with
  |0,hv=>exact c1' 0 v hv
  |1,hv=>exact c1' 1 v hv
  |2,hv=>exact c1' 2 v hv
  |3,hv=>exact c1' 3 v hv
  |4,hv=>exact c2' 0 v hv
  |5,hv=>exact c2' 1 v hv
  |6,hv=>exact c2' 2 v hv
  |7,hv=>exact c2' 3 v hv
  |8,hv=>exact c3' 0 v hv
  |9,hv=>exact c3' 1 v hv
  |10,hv=>exact c3' 2 v hv
  |11,hv=>exact c3' 3 v hv
  |_+12,hv=>simp at hv
theorem at3_more {R:List Fa} {b o cap:Nat} {l:List Rat} (i:Nat) (hi:R[i]? =some (slF rQ (some ⟨b,o,none⟩) cap l)) (hl:3≤l.length):
    ∀g,Holds g R→∃y:Wd×Wd×Wd×Wd×Wd×Wd,True∧Holds g [atF b o [y.1.b,y.1.l,y.2.1.b,y.2.1.l,y.2.2.1.b,y.2.2.1.l,y.2.2.2.1.b,y.2.2.2.1.l,y.2.2.2.2.1.b,y.2.2.2.2.1.l,y.2.2.2.2.2.b,y.2.2.2.2.2.l],qF true y.1 y.2.1 (l.getD 0 0),qF true y.2.2.1 y.2.2.2.1 (l.getD 1 0),qF true y.2.2.2.2.1 y.2.2.2.2.2 (l.getD 2 0)]:=fun g h=>by
  obtain ⟨b',o',w1,w2,w3,w4,w5,w6,e,ha,h1,h2,h3⟩:=at3 (Holds.get i hi h:Sl rQ g _ cap l) hl
  cases e
  exact ⟨(w1,w2,w3,w4,w5,w6),trivial,ha,h1,h2,h3,trivial⟩
section
variable {P : Program} {c : Cx} {n : Sz} {m : Fm} {O O' : List As} {R : List Fa} {d : Option Tmp} {ty : TypeId} {ps : String} {af : Array Edge} {gd : Option (Nat × Bool)} {α : Type}
theorem zxc {s e:TypeId} {x:Operand} {p:Option Addr} {k cap:Nat} {l:List Rat} (i:Nat) (hi:R[i]? =some (slF rQ p cap l)) (hu:P.underlying s=some (.array 3 e)) (h1:evo m x=some (.slice p k cap)) (hk:l.length=k) (h3:3≤k):
    Vl P n ⟨d,.sliceToArrayPointer s x,ty,ps,af,gd⟩ m O R (Y:=Nat×Nat×Wd×Wd×Wd×Wd×Wd×Wd) (fun _=>True) (fun y=> .pointer (some ⟨y.1,y.2.1,none⟩))
      (fun y=>[atF y.1 y.2.1 [y.2.2.1.b,y.2.2.1.l,y.2.2.2.1.b,y.2.2.2.1.l,y.2.2.2.2.1.b,y.2.2.2.2.1.l,y.2.2.2.2.2.1.b,y.2.2.2.2.2.1.l,y.2.2.2.2.2.2.1.b,y.2.2.2.2.2.2.1.l,y.2.2.2.2.2.2.2.b,y.2.2.2.2.2.2.2.l],qF true y.2.2.1 y.2.2.2.1 (l.getD 0 0),qF true y.2.2.2.2.1 y.2.2.2.2.2.1 (l.getD 1 0),qF true y.2.2.2.2.2.2.1 y.2.2.2.2.2.2.2 (l.getD 2 0)]):=fun a f hh g sp hr=>by
  obtain ⟨b,o,w1,w2,w3,w4,w5,w6,e,ha,q1,q2,q3⟩:=at3 (Holds.get i hi hr:Sl rQ g p cap l) (by omega)
  subst e
  refine ⟨(b,o,w1,w2,w3,w4,w5,w6),trivial,⟨ha,q1,q2,q3,trivial⟩,fun w _ _=> ?_⟩
  have hrun:(Instr.arrayAt s (.slice (some ⟨b,o,none⟩) k cap)).run P w= .ok (.pointer (some ⟨b,o,none⟩)) w:=by
    simp [Instr.arrayAt,run_underlying hu,Nat.not_lt.2 h3]
  simp only [execOp,f.ev h1,Sem.run_bind,hrun,Result.andThen_ok,Sem.run_pure]
theorem zMb {s e:TypeId} {x ix:Operand} {r:Rp α} {b o len cap j:Nat} {kk:IntKind} {z:Int} {xs:List α} {x0:α} (i:Nat) (hi:R[i]? =some (slF r (some ⟨b,o,none⟩) cap xs)) (hu:P.underlying s=some (.array len e)) (ht:(P.info? e).map (·.size)=some r.sz)
    (h1:evo m x=some (.pointer (some ⟨b,o,none⟩))) (h2:evo m ix=some (.int kk z)) (hz:z=(j:Int)) (hj:j<len) (hx:xs[j]? =some x0):
    Vl P n ⟨d,.indexAddr s x ix,ty,ps,af,gd⟩ m O R (Y:=Nat×Nat×r.G) (fun _=>True) (fun y=> .pointer (some ⟨y.1,y.2.1,none⟩)) (fun y=>[atF y.1 y.2.1 (r.enc x0 y.2.2),okF r x0 y.2.2]):=fun a f hh g sp hr=>by
  have hs:Sl r g (some ⟨b,o,none⟩) cap xs:=Holds.get i hi hr
  obtain ⟨b',off,γ,e1,e2,e3⟩:=hs.2.2.2 j x0 hx
  cases e1
  subst hz
  refine ⟨(b,o+j*r.sz,γ),trivial,⟨e2,e3,trivial⟩,fun w _ _=> ?_⟩
  simp [execOp,Instr.indexAt,asIntOf,run_underlying hu,f.ev h1,f.ev h2,Instr.sureAddr,hj,zqa ht,Addr.add_lit]
theorem zEc {s e:TypeId} {x ix:Operand} {b o len k j:Nat} {kk:IntKind} {z:Int} (hu:P.underlying s=some (.array len e)) (ht:(P.info? e).map (·.size)=some k)
    (h:evo m x=some (.pointer (some ⟨b,o,none⟩))) (hi:evo m ix=some (.int kk z)) (hz:z=(j:Int)) (hl:j<len):PV P n ⟨d,.indexAddr s x ix,ty,ps,af,gd⟩ m (rowPtr (some ⟨b,o,none⟩) (j*k)):=by
  subst hz
  exact zM hu ht h hi hl rfl
theorem Mem.boxQ3 {w:World} {b:Nat} {T:TypeId} {w1 w2 w3 w4 w5 w6:Wd} {x y z:Rat} (i j k l:Nat) (hi:O[i]? =some (boxA b T [w1.b,w1.l,w2.b,w2.l,w3.b,w3.l,w4.b,w4.l,w5.b,w5.l,w6.b,w6.l])) (hj:R[j]? =some (qF true w1 w2 x)) (hk:R[k]? =some (qF true w3 w4 y)) (hl:R[l]? =some (qF true w5 w6 z)) (mm:Mem c w O R):
    Mem c w (O.set i (rowA T rQ (some ⟨b,0,none⟩) 3 [x,y,z])) R:=by
  obtain ⟨_,_,m'⟩:=Mem.turn (X:=Unit) (φ:=fun _=>True) (A':=fun _=>rowA T rQ (some ⟨b,0,none⟩) 3 [x,y,z]) (R':=fun _=>[]) i hi (fun g h hr hA ap=>by
    have e:h=Hp.single b (.cells ([w1.b,w1.l,w2.b,w2.l,w3.b,w3.l,w4.b,w4.l,w5.b,w5.l,w6.b,w6.l]:List Value).toArray T (0,0)):=hA
    have h1:(qF true w1 w2 x).on g:=Holds.get j hj hr
    have h2:(qF true w3 w4 y).on g:=Holds.get k hk hr
    have h3:(qF true w5 w6 z).on g:=Holds.get l hl hr
    refine ⟨(),h,Hp.emp,trivial,(Hp.join_emp _).symm,Hp.apart_symm (Hp.emp_apart _),?_,trivial⟩
    rw [Hp.join_emp]
    refine .inr ⟨b,0,[w1.b,w1.l,w2.b,w2.l,w3.b,w3.l,w4.b,w4.l,w5.b,w5.l,w6.b,w6.l],rfl,Nat.le_refl _,by decide,Nat.le_refl 12,e,fun q u hu=> ?_⟩
    match q,hu with
    |0,hu=>obtain rfl:=Option.some.inj hu;exact ⟨(w1,w2),⟨rfl,fun j v hv=>by match j,hv with
        |0,hv=>exact hv
        |1,hv=>exact hv
        |2,hv=>exact hv
        |3,hv=>exact hv
        |_+4,hv=>simp [rQ] at hv⟩,h1⟩
    |1,hu=>obtain rfl:=Option.some.inj hu;exact ⟨(w3,w4),⟨rfl,fun j v hv=>by match j,hv with
        |0,hv=>exact hv
        |1,hv=>exact hv
        |2,hv=>exact hv
        |3,hv=>exact hv
        |_+4,hv=>simp [rQ] at hv⟩,h2⟩
    |2,hu=>obtain rfl:=Option.some.inj hu;exact ⟨(w5,w6),⟨rfl,fun j v hv=>by match j,hv with
        |0,hv=>exact hv
        |1,hv=>exact hv
        |2,hv=>exact hv
        |3,hv=>exact hv
        |_+4,hv=>simp [rQ] at hv⟩,h3⟩
    |_+3,hu=>simp at hu) mm
  exact m'
end
end Go.Proofs.YtpdbimfnhglhpaaGreat.Sp
namespace Go.Proofs.YtpdbimfnhglhpaaGreat.Sp
open Go
set_option linter.unusedVariables false
set_option maxRecDepth 100000
set_option maxHeartbeats 8000000
theorem zZf {p:Option Addr} {n:Nat} {cap:Nat} {l:List Rat} {p2:Option Addr} {cap2:Nat} {l2:List Rat} (hn:l.length=n) (hn2:l2.length=n) (hn9:n≤9) (hl1:∀i,yk (l.getD i 0)≤100000) (hl2:∀i,yk (l2.getD i 0)≤100000):Con yi 137 [.slice p n cap,.slice p2 n cap2] [] [slF rQ p cap l,slF rQ p2 cap2 l2] (Y:=Wd×Wd) (fun y=>True) (fun y=> .tuple #[.agg #[y.1.b,y.1.l,y.2.b,y.2.l],.int .i64 0]) (fun y=>[]) (fun y=>[qF true y.1 y.2 (Td.dl l l2 n)]):=by
 refine zl Tryz.func137 rfl rfl rfl (fun c=> ?_)
 show RunC _ _ _ _ _ [(0,.slice p n cap),(1,.slice p2 n cap2)] [] [slF rQ p cap l,slF rQ p2 cap2 l2]
 refine zX 0 rfl (fun hL0=> ?_)
 refine zX 1 rfl (fun hL1=> ?_)
 refine ze<|za<|zD rfl rfl (zo zr32 rfl) (fun b1=> ?_)
 refine e_p (zb rfl)<|zf<|zc<|ze<|ze<|za<|e_mv rfl<|e_p (zG yg rfl)<|e_mv rfl<|e_p (zG yg rfl)<|e_p (zsa rfl rfl)<|zf<|zc<|zI rfl (fun h13=> ?_) (fun h13=> ?_)
 ·
  exact absurd rfl h13
 ·
  refine zx<|zc<|ze<|za<|zq rfl rfl (.c rfl .n) ce52 (zHa (z:=0) (hz:=cbo)) (.n) ?_
  rintro ⟨w32,w43⟩ -
  dsimp only [aq,nq,cq]
  refine zD rfl rfl (zo zr32 rfl) (fun b4=> ?_)
  refine zk 0 rfl rfl rfl rfl rfl sz32 rfl (.t4 .nil) .z<|zf<|zc<|ze<|ze<|za<|e_mv rfl<|e_p (zG yg rfl)<|e_mv rfl<|zf<|zc<|zw<|zha (X:=Nat×Wd×Wd) (fun x:Nat×Wd×Wd=>x.1≤n) (fun x=>[(18,.int .i64 ((x.1:Nat):Int)),(17,.int .i64 ((n:Nat):Int)),(16,.slice p n cap),(6,.pointer (some ⟨b4,0,none⟩)),(5,.int .i64 0),(4,.pointer (some ⟨b1,0,none⟩)),(1,.slice p2 n cap2)]) (fun x=>[boxA b4 32 (cw [x.2.1,x.2.2]),boxA b1 32 (cw [wz,wz])]) (fun x=>[qF true x.2.1 x.2.2 (Td.dl l l2 x.1),qF true w32 w43 ((0:Int):Rat),slF rQ p cap l,slF rQ p2 cap2 l2]) (fun x:Nat×Wd×Wd=>n - x.1) (0,w32,w43) (show 0≤n from by exact Nat.zero_le _) ((.e rfl cgs (.of rfl)):SubM _ _) (ho:=((.of [0,0] rfl):PickO _ _ _)) ((.e (j:=0) rfl (by rfl) (.of [0,1,2] rfl)):SelR _ _ _) ?_
  rintro ⟨i,wa,wb⟩ hI
  replace hI:i≤n:=hI
  try dsimp only [cw]
  have hdl:=Td.dl_hq hl1 hl2 i
  have hi1:=hl1 i
  have hi2:=hl2 i
  have hm:=yq (l.getD i 0) (l2.getD i 0)
  have hin:i*(2*100000+1)≤9*(2*100000+1):=Nat.mul_le_mul_right _ (Nat.le_trans hI hn9)
  refine ze<|za<|e_p (zV rfl rfl)<|zf<|zc<|ze<|zI rfl (fun h5=> ?_) (fun h5=> ?_)
  ·
   refine zx<|zc<|ze<|zw<|ze<|za<|e_mv rfl<|r_vl rfl rfl (zfa (x0:=(l.getD i (0:Rat))) 2 i rfl yg sz32 rfl cbo rfl rfl (gD (d:=(0:Rat)) om)) ?_
   rintro ⟨b6,o7,w8,w9⟩ -
   dsimp only [aq,nq,cq]
   refine zLb open_rQ<|e_ru (zU (j:=0) 0 ty32 rfl rfl rfl (.t4 .nil))<|zD rfl rfl (zo zr32 rfl) (fun b10=> ?_)
   refine e_p (zb rfl)<|zk 0 rfl rfl rfl rfl rfl sz32 rfl (.t4 .nil) .z<|zf<|zc<|zoa (.c (i:=1) rfl (.c (i:=0) rfl (.c (i:=0) rfl .n)))<|zW (OW:=[boxA b4 32 (cw [wa,wb])]) (O:=[boxA b10 32 (cw [w8,w9]),boxA b1 32 (cw [wz,wz])]) 8 mixed (.block (.then (.then (.block (.then .ret))))) kr<|e_uw 0 rfl rfl (zd 0 ty32 rfl rfl (.t4 .nil))<|e_uw 1 rfl rfl (zd 1 ty32 rfl rfl (.t4 .nil))<|e_dm 2 rfl rfl rfl<|e_dm 3 rfl rfl rfl<|d_vl 4 rfl rfl kr kr rfl rfl (zfa (x0:=(l2.getD i (0:Rat))) 5 i rfl yg sz32 rfl cbo rfl rfl (gD (d:=(0:Rat)) om)) ?_
   rintro ⟨b11,o12,w13,w14⟩ -
   dsimp only [aq,nq,cq]
   refine zxb open_rQ<|e_u 5 rfl rfl (zU (j:=0) 0 ty32 rfl rfl rfl (.t4 .nil))<|e_one 6 (zv rfl rfl rfl rfl (.c rfl (.c rfl .n)) ce56 (zrb (k1:=true) (u1:=w8) (v1:=w9) (q1:=(l.getD i (0:Rat))) (k2:=true) (u2:=w13) (v2:=w14) (q2:=(l2.getD i (0:Rat))) (hl:=cbo)) (.c (j:=3) rfl (.c (j:=1) rfl .n)) ?_)
   rintro ⟨w315,w416⟩ -
   dsimp only [aq,nq,cq]
   refine e_one 7 (zv rfl rfl rfl rfl (.c rfl (.c rfl .n)) ce57 (zEb (k1:=true) (u1:=wa) (v1:=wb) (q1:=(Td.dl l l2 i)) (k2:=true) (u2:=w315) (v2:=w416) (q2:=(l.getD i (0:Rat))*(l2.getD i (0:Rat))) (hl:=cbo)) (.c (j:=5) rfl (.c (j:=0) rfl .n)) ?_)
   rintro ⟨w317,w418⟩ -
   dsimp only [aq,nq,cq]
   refine e_one 8 (zr kr rfl rfl rfl rfl rfl sz32 rfl (.t4 .nil) ?_)
   refine zN kr<|zQ<|zc<|za<|e_p (zK (z:=(((i+1):Nat):Int)) rfl rfl (w64 om))<|e_mv rfl<|zf<|zca ((i+1),w317,w418) (show (i+1)≤n from by show i+1≤n;omega) (by show n - (i+1)<n - i;omega) (mR rfl) (ho:=((.of [0,1] rfl):PickO _ _ _)) ((.e (j:=0) rfl (by rfl) (.of [7,8,9] rfl)):SelR _ _ _)
  ·
   refine zda<|zj<|zj<|zu<|zc<|ze<|za<|e_ru (zd 0 ty32 rfl rfl (.t4 .nil))<|zk 1 rfl rfl rfl rfl rfl sz32 rfl (.t4 .nil) (.s .z)<|e_p (zb rfl)<|zf<|zc<|zE ?_
   exact zBa Tryz.results137 (wa,wb) trivial (zn 1 ty32 rfl rfl (.t4 .nil)) (zp rfl) rfl (ho:=oN) ((.e (j:=0) rfl (by rw [show i=n by omega]) .n):SelR _ _ _)
theorem zGb {d1:Wd} {d2:Wd} {d3:Wd} {d4:Wd} {d5:Wd} {d6:Wd} {d7:Wd} {d8:Wd} {d9:Wd} {d10:Wd} {d11:Wd} {d12:Wd} {xa:Rat} {xb:Rat} {xc:Rat} {ya:Rat} {yb:Rat} {yc:Rat} (hbxa:yk xa≤100000) (hbxb:yk xb≤100000) (hbxc:yk xc≤100000) (hbya:yk ya≤100000) (hbyb:yk yb≤100000) (hbyc:yk yc≤100000):Con yi 53 [.agg #[d1.b,d1.l,d2.b,d2.l,d3.b,d3.l,d4.b,d4.l,d5.b,d5.l,d6.b,d6.l],.agg #[d7.b,d7.l,d8.b,d8.l,d9.b,d9.l,d10.b,d10.l,d11.b,d11.l,d12.b,d12.l]] [] [qF true d1 d2 xa,qF true d3 d4 xb,qF true d5 d6 xc,qF true d7 d8 ya,qF true d9 d10 yb,qF true d11 d12 yc] (Y:=Wd×Wd) (fun y=>True) (fun y=> .agg #[y.1.b,y.1.l,y.2.b,y.2.l]) (fun y=>[]) (fun y=>[qF true y.1 y.2 (Td.dot xa xb xc ya yb yc)]):=by
 refine zl Tryz.func53 rfl rfl rfl (fun c=> ?_)
 show RunC _ _ _ _ _ [(0,.agg #[d1.b,d1.l,d2.b,d2.l,d3.b,d3.l,d4.b,d4.l,d5.b,d5.l,d6.b,d6.l]),(1,.agg #[d7.b,d7.l,d8.b,d8.l,d9.b,d9.l,d10.b,d10.l,d11.b,d11.l,d12.b,d12.l])] [] [qF true d1 d2 xa,qF true d3 d4 xb,qF true d5 d6 xc,qF true d7 d8 ya,qF true d9 d10 yb,qF true d11 d12 yc]
 refine ze<|za<|zD rfl rfl (zT rfl rfl) (fun b1=> ?_)
 refine zD rfl rfl (zT rfl rfl) (fun b2=> ?_)
 refine zD rfl rfl (zo zr32 rfl) (fun b3=> ?_)
 refine zf<|zc<|ze<|zFa 2 rfl (.s (.s .z))<|zfd (slF rQ (some ⟨b1,0,none⟩) 3 [xa,xb,xc]) (fun g h=>sl3_at 0 1 2 3 rfl rfl rfl rfl rfl g h)<|zFa 1 rfl (.s .z)<|zfd (slF rQ (some ⟨b2,0,none⟩) 3 [ya,yb,yc]) (fun g h=>sl3_at 0 6 7 8 rfl rfl rfl rfl rfl g h)<|zW (OW:=[]) (O:=[boxA b3 32 (cw [wz,wz]),emA,emA]) 7 mixed (.then .ret) kr<|e_pv 0 rfl rfl (ztb ye sz32 rfl)<|e_pv 1 rfl rfl (ztb ye sz32 rfl)<|zya (m':=[(9,.slice (some ⟨b2,0,none⟩) 3 3),(8,.slice (some ⟨b1,0,none⟩) 3 3),(4,.pointer (some ⟨b3,0,none⟩))]) (R':=[slF rQ (some ⟨b2,0,none⟩) 3 ([ya,yb,yc]),atF b2 0 [d7.b,d7.l,d8.b,d8.l,d9.b,d9.l,d10.b,d10.l,d11.b,d11.l,d12.b,d12.l],slF rQ (some ⟨b1,0,none⟩) 3 ([xa,xb,xc]),atF b1 0 [d1.b,d1.l,d2.b,d2.l,d3.b,d3.l,d4.b,d4.l,d5.b,d5.l,d6.b,d6.l],qF true d1 d2 xa,qF true d3 d4 xb,qF true d5 d6 xc,qF true d7 d8 ya,qF true d9 d10 yb,qF true d11 d12 yc]) (mR rfl) (List.Perm.refl _) (List.Perm.refl _) ((.of [0,1,2,3,4,5,6,7,8,9] rfl):SelR _ _ _)<|zOa (X:=Wd×Wd×Nat) (k':=0) (L':=(lb 9 511)) (fun (u2_1,u2_2,u6_1)=>([(5,.pointer (some ⟨u6_1,0,none⟩)),(4,.pointer (some ⟨b3,0,none⟩))],[boxA u6_1 32 (cw [u2_1,u2_2])],[boxA b3 32 (cw [wz,wz]),emA,emA],[qF true u2_1 u2_2 (Td.dl ([xa,xb,xc]) ([ya,yb,yc]) 3),slF rQ (some ⟨b2,0,none⟩) 3 ([ya,yb,yc]),atF b2 0 [d7.b,d7.l,d8.b,d8.l,d9.b,d9.l,d10.b,d10.l,d11.b,d11.l,d12.b,d12.l],slF rQ (some ⟨b1,0,none⟩) 3 ([xa,xb,xc]),atF b1 0 [d1.b,d1.l,d2.b,d2.l,d3.b,d3.l,d4.b,d4.l,d5.b,d5.l,d6.b,d6.l],qF true d1 d2 xa,qF true d3 d4 xb,qF true d5 d6 xc,qF true d7 d8 ya,qF true d9 d10 yb,qF true d11 d12 yc])) ?_ (fun hD0=> ?_)
 ·
  rintro ⟨u2_1,u2_2,u6_1⟩
  dsimp only [cw]
  refine zN kr<|zc<|ze<|za<|e_ru (zd 0 ty32 rfl rfl (.t4 .nil))<|zk 1 rfl rfl rfl rfl rfl sz32 rfl (.t4 .nil) (.s .z)<|zf<|zc<|zE ?_
  exact zy Tryz.results53 (u2_1,u2_2) trivial (zn 1 ty32 rfl rfl (.t4 .nil)) rfl (ho:=oN) (s0 rfl)
 refine zOa (X:=Wd×Wd×Nat) (k':=2) (L':=(lb 9 127)) (fun (u2_1,u2_2,u6_1)=>([(5,.pointer (some ⟨u6_1,0,none⟩)),(12,.int .i64 0),(11,.agg (cw [u2_1,u2_2]).toArray),(4,.pointer (some ⟨b3,0,none⟩))],[boxA u6_1 32 (cw [wz,wz])],[boxA b3 32 (cw [wz,wz]),emA,emA],[qF true u2_1 u2_2 (Td.dl ([xa,xb,xc]) ([ya,yb,yc]) 3),slF rQ (some ⟨b2,0,none⟩) 3 ([ya,yb,yc]),atF b2 0 [d7.b,d7.l,d8.b,d8.l,d9.b,d9.l,d10.b,d10.l,d11.b,d11.l,d12.b,d12.l],slF rQ (some ⟨b1,0,none⟩) 3 ([xa,xb,xc]),atF b1 0 [d1.b,d1.l,d2.b,d2.l,d3.b,d3.l,d4.b,d4.l,d5.b,d5.l,d6.b,d6.l],qF true d1 d2 xa,qF true d3 d4 xb,qF true d5 d6 xc,qF true d7 d8 ya,qF true d9 d10 yb,qF true d11 d12 yc])) ?_ (fun hD1=> ?_)
 ·
  rintro ⟨u2_1,u2_2,u6_1⟩
  dsimp only [cw]
  refine zFc 7 kr ?_
  ·
   refine zr kr rfl rfl rfl rfl rfl sz32 rfl (.t4 .nil)<|e_pv 8 rfl rfl (zb rfl) ?_
   exact zma (hD0 (u2_1,u2_2,u6_1)) kr ((.c rfl (.c rfl .n)):SubM _ _) .rfl .rfl ((.of [0,1,2,3,4,5,6,7,8,9,10] rfl):SelR _ _ _)
 refine zOa (X:=Wd×Wd) (k':=3) (L':=(lb 9 63)) (fun (u2_1,u2_2)=>([(12,.int .i64 0),(11,.agg (cw [u2_1,u2_2]).toArray),(4,.pointer (some ⟨b3,0,none⟩))],[],[boxA b3 32 (cw [wz,wz]),emA,emA],[qF true u2_1 u2_2 (Td.dl ([xa,xb,xc]) ([ya,yb,yc]) 3),slF rQ (some ⟨b2,0,none⟩) 3 ([ya,yb,yc]),atF b2 0 [d7.b,d7.l,d8.b,d8.l,d9.b,d9.l,d10.b,d10.l,d11.b,d11.l,d12.b,d12.l],slF rQ (some ⟨b1,0,none⟩) 3 ([xa,xb,xc]),atF b1 0 [d1.b,d1.l,d2.b,d2.l,d3.b,d3.l,d4.b,d4.l,d5.b,d5.l,d6.b,d6.l],qF true d1 d2 xa,qF true d3 d4 xb,qF true d5 d6 xc,qF true d7 d8 ya,qF true d9 d10 yb,qF true d11 d12 yc])) ?_ (fun hD2=> ?_)
 ·
  rintro ⟨u2_1,u2_2⟩
  dsimp only [cw]
  refine zFc 6 kr ?_
  ·
   refine zmb rfl rfl rfl rfl (zo zr32 rfl) (fun u6_1 _=> ?_)
   exact zma (hD1 (u2_1,u2_2,u6_1)) kr (mR rfl) .rfl .rfl ((.of [0,1,2,3,4,5,6,7,8,9,10] rfl):SelR _ _ _)
 refine zOa (X:=Nat) (k':=6) (L':=(lb 9 67)) (fun u6_1=>([(5,.pointer (some ⟨u6_1,0,none⟩)),(9,.slice (some ⟨b2,0,none⟩) 3 3),(8,.slice (some ⟨b1,0,none⟩) 3 3),(4,.pointer (some ⟨b3,0,none⟩))],[boxA u6_1 32 (cw [wz,wz])],[boxA b3 32 (cw [wz,wz]),emA,emA],[slF rQ (some ⟨b2,0,none⟩) 3 ([ya,yb,yc]),atF b2 0 [d7.b,d7.l,d8.b,d8.l,d9.b,d9.l,d10.b,d10.l,d11.b,d11.l,d12.b,d12.l],slF rQ (some ⟨b1,0,none⟩) 3 ([xa,xb,xc]),atF b1 0 [d1.b,d1.l,d2.b,d2.l,d3.b,d3.l,d4.b,d4.l,d5.b,d5.l,d6.b,d6.l],qF true d1 d2 xa,qF true d3 d4 xb,qF true d5 d6 xc,qF true d7 d8 ya,qF true d9 d10 yb,qF true d11 d12 yc])) ?_ (fun hD3=> ?_)
 ·
  rintro u6_1
  dsimp only [cw]
  refine zFc 2 kr ?_
  ·
   refine zv rfl rfl rfl rfl (.c rfl (.c rfl .n)) ce137 (zZf (p:=some ⟨b1,0,none⟩) (n:=3) (cap:=3) (l:=[xa,xb,xc]) (p2:=some ⟨b2,0,none⟩) (cap2:=3) (l2:=[ya,yb,yc]) (hn:=by exact rfl) (hn2:=by exact rfl) (hn9:=dd) (hl1:=by exact Td.b3 hbxa hbxb hbxc dd) (hl2:=by exact Td.b3 hbya hbyb hbyc dd)) (.c (j:=2) rfl (.c (j:=0) rfl .n)) ?_
   rintro ⟨u2_1,u2_2⟩ -
   dsimp only [aq,nq,cq]
   refine e_dm 3 rfl rfl rfl<|e_pv 4 rfl rfl (zm rfl rfl)<|e_pv 5 rfl rfl (zm rfl rfl) ?_
   exact zma (hD1 (u2_1,u2_2,u6_1)) kr (mR rfl) .rfl .rfl ((.of [0,1,2,3,4,5,6,7,8,9,10] rfl):SelR _ _ _)
 refine zrd 2 6 kr ?_ ?_
 ·
  refine zv rfl rfl rfl rfl (.c rfl (.c rfl .n)) ce137 (zZf (p:=some ⟨b1,0,none⟩) (n:=3) (cap:=3) (l:=[xa,xb,xc]) (p2:=some ⟨b2,0,none⟩) (cap2:=3) (l2:=[ya,yb,yc]) (hn:=by exact rfl) (hn2:=by exact rfl) (hn9:=dd) (hl1:=by exact Td.b3 hbxa hbxb hbxc dd) (hl2:=by exact Td.b3 hbya hbyb hbyc dd)) (.c (j:=2) rfl (.c (j:=0) rfl .n)) ?_
  rintro ⟨u2_1,u2_2⟩ -
  dsimp only [aq,nq,cq]
  refine e_dm 3 rfl rfl rfl<|e_pv 4 rfl rfl (zm rfl rfl)<|e_pv 5 rfl rfl (zm rfl rfl) ?_
  exact zma (hD2 (u2_1,u2_2)) kr (mR rfl) .rfl .rfl ((.of [0,1,2,3,4,5,6,7,8,9,10] rfl):SelR _ _ _)
 ·
  refine zmb rfl rfl rfl rfl (zo zr32 rfl) (fun u6_1 _=> ?_)
  exact zma (hD3 u6_1) kr (mR rfl) .rfl .rfl ((.of [0,1,2,3,4,5,6,7,8,9] rfl):SelR _ _ _)
theorem zlf {d1:Wd} {d2:Wd} {d3:Wd} {d4:Wd} {d5:Wd} {d6:Wd} {d7:Wd} {d8:Wd} {d9:Wd} {d10:Wd} {d11:Wd} {d12:Wd} {xa:Rat} {xb:Rat} {xc:Rat} {ya:Rat} {yb:Rat} {yc:Rat} (hbxa:yk xa≤100000) (hbxb:yk xb≤100000) (hbxc:yk xc≤100000) (hbya:yk ya≤100000) (hbyb:yk yb≤100000) (hbyc:yk yc≤100000):Con yi 146 [.agg #[d1.b,d1.l,d2.b,d2.l,d3.b,d3.l,d4.b,d4.l,d5.b,d5.l,d6.b,d6.l],.agg #[d7.b,d7.l,d8.b,d8.l,d9.b,d9.l,d10.b,d10.l,d11.b,d11.l,d12.b,d12.l]] [] [qF true d1 d2 xa,qF true d3 d4 xb,qF true d5 d6 xc,qF true d7 d8 ya,qF true d9 d10 yb,qF true d11 d12 yc] (Y:=Wd×Wd×Wd×Wd×Wd×Wd) (fun y=>True) (fun y=> .agg #[y.1.b,y.1.l,y.2.1.b,y.2.1.l,y.2.2.1.b,y.2.2.1.l,y.2.2.2.1.b,y.2.2.2.1.l,y.2.2.2.2.1.b,y.2.2.2.2.1.l,y.2.2.2.2.2.b,y.2.2.2.2.2.l]) (fun y=>[]) (fun y=>[qF true y.1 y.2.1 (xa - ya),qF true y.2.2.1 y.2.2.2.1 (xb - yb),qF true y.2.2.2.2.1 y.2.2.2.2.2 (xc - yc)]):=by
 refine zl Tryz.func146 rfl rfl rfl (fun c=> ?_)
 show RunC _ _ _ _ _ [(0,.agg #[d1.b,d1.l,d2.b,d2.l,d3.b,d3.l,d4.b,d4.l,d5.b,d5.l,d6.b,d6.l]),(1,.agg #[d7.b,d7.l,d8.b,d8.l,d9.b,d9.l,d10.b,d10.l,d11.b,d11.l,d12.b,d12.l])] [] [qF true d1 d2 xa,qF true d3 d4 xb,qF true d5 d6 xc,qF true d7 d8 ya,qF true d9 d10 yb,qF true d11 d12 yc]
 refine ze<|za<|zD rfl rfl (zT rfl rfl) (fun b1=> ?_)
 refine zD rfl rfl (zT rfl rfl) (fun b2=> ?_)
 refine zD rfl rfl (zo zr38 rfl) (fun b3=> ?_)
 refine zf<|zc<|ze<|zW (OW:=[boxA b3 38 (cw [wz,wz,wz,wz,wz,wz])]) (O:=[boxA b2 38 (cw [d7,d8,d9,d10,d11,d12]),boxA b1 38 (cw [d1,d2,d3,d4,d5,d6])]) 16 mixed (.then .ret) kr<|e_pv 0 rfl rfl (zM (i:=0) ye sz32 rfl rfl dd rfl)<|e_uw 1 rfl rfl (zd 2 ty32 rfl rfl (.t4 .nil))<|e_pv 2 rfl rfl (zM (i:=0) ye sz32 rfl rfl dd rfl)<|e_uw 3 rfl rfl (zd 1 ty32 rfl rfl (.t4 .nil))<|e_pv 5 rfl rfl (zM (i:=1) ye sz32 rfl rfl dd rfl)<|e_uw 6 rfl rfl (zd 2 ty32 rfl rfl (.s4 (.t4 .nil)))<|e_pv 7 rfl rfl (zM (i:=1) ye sz32 rfl rfl dd rfl)<|e_uw 8 rfl rfl (zd 1 ty32 rfl rfl (.s4 (.t4 .nil)))<|e_pv 10 rfl rfl (zM (i:=2) ye sz32 rfl rfl dd rfl)<|e_uw 11 rfl rfl (zd 2 ty32 rfl rfl (.s8 (.t4 .nil)))<|e_pv 12 rfl rfl (zM (i:=2) ye sz32 rfl rfl dd rfl)<|e_uw 13 rfl rfl (zd 1 ty32 rfl rfl (.s8 (.t4 .nil)))<|e_one 4 (zv rfl rfl rfl rfl (.c rfl (.c rfl .n)) ce147 (zkc (k1:=true) (u1:=d1) (v1:=d2) (q1:=xa) (k2:=true) (u2:=d7) (v2:=d8) (q2:=ya) (hl:=cbo)) (.c (j:=0) rfl (.c (j:=3) rfl .n)) ?_)
 rintro ⟨w34,w45⟩ -
 dsimp only [aq,nq,cq]
 refine e_one 9 (zv rfl rfl rfl rfl (.c rfl (.c rfl .n)) ce147 (zkc (k1:=true) (u1:=d3) (v1:=d4) (q1:=xb) (k2:=true) (u2:=d9) (v2:=d10) (q2:=yb) (hl:=cbo)) (.c (j:=2) rfl (.c (j:=5) rfl .n)) ?_)
 rintro ⟨w36,w47⟩ -
 dsimp only [aq,nq,cq]
 refine e_one 14 (zv rfl rfl rfl rfl (.c rfl (.c rfl .n)) ce147 (zkc (k1:=true) (u1:=d5) (v1:=d6) (q1:=xc) (k2:=true) (u2:=d11) (v2:=d12) (q2:=yc) (hl:=cbo)) (.c (j:=4) rfl (.c (j:=7) rfl .n)) ?_)
 rintro ⟨w38,w49⟩ -
 dsimp only [aq,nq,cq]
 refine e_pv 15 rfl rfl (zVa zr38 rfl ye sz32 (.c rfl (.c rfl (.c rfl .n))) (.c rfl rfl rfl (.t4 .nil) (.c rfl rfl rfl (.s4 (.t4 .nil)) (.c rfl rfl rfl (.s8 (.t4 .nil)) .n))))<|e_one 16 (zr kr rfl rfl rfl rfl rfl sz38 rfl (.t8 (.t4 .nil)) ?_)
 refine zN kr<|zc<|zE ?_
 exact zy Tryz.results146 (w34,w45,w36,w47,w38,w49) trivial (zn 0 ty38 rfl rfl (.t8 (.t4 .nil))) rfl (ho:=oN) ((.of [2,1,0] rfl):SelR _ _ _)
theorem zhe {u1:Wd} {v1:Wd} {q1:Rat} {u2:Wd} {v2:Wd} {q2:Rat} (hl:yk q1+yk q2+1≤1099511627776) (h0:q2≠0):Con yi 55 [.agg #[u1.b,u1.l,v1.b,v1.l],.agg #[u2.b,u2.l,v2.b,v2.l]] [] [qF true u1 v1 q1,qF true u2 v2 q2] (Y:=Wd×Wd) (fun y=>True) (fun y=> .agg #[y.1.b,y.1.l,y.2.b,y.2.l]) (fun y=>[]) (fun y=>[qF true y.1 y.2 (q1 / q2)]):=by
 refine zl Tryz.func55 rfl rfl rfl (fun c=> ?_)
 show RunC _ _ _ _ _ [(0,.agg #[u1.b,u1.l,v1.b,v1.l]),(1,.agg #[u2.b,u2.l,v2.b,v2.l])] [] [qF true u1 v1 q1,qF true u2 v2 q2]
 refine ze<|za<|zD rfl rfl (zT rfl rfl) (fun b1=> ?_)
 refine zD rfl rfl (zT rfl rfl) (fun b2=> ?_)
 refine zD rfl rfl (zo zr32 rfl) (fun b3=> ?_)
 refine zf<|zc<|ze<|za<|e_ru (zd 2 ty32 rfl rfl (.t4 .nil))<|e_ru (zd 1 ty32 rfl rfl (.t4 .nil))<|zq rfl rfl (.c rfl (.c rfl .n)) ce139 (zmc (k1:=true) (u1:=u1) (v1:=v1) (q1:=q1) (k2:=true) (u2:=u2) (v2:=v2) (q2:=q2) (hl:=ass) (hy:=ass)) (.c (j:=0) rfl (.c (j:=1) rfl .n)) ?_
 rintro ⟨w34,w45⟩ -
 dsimp only [aq,nq,cq]
 refine e_mv rfl<|e_p (zm rfl rfl)<|e_p (zm rfl rfl)<|zD rfl rfl (zo zr32 rfl) (fun b6=> ?_)
 refine zk 0 rfl rfl rfl rfl rfl sz32 rfl (.t4 .nil) .z<|e_p (zb rfl)<|zf<|zc<|ze<|za<|e_ru (zd 0 ty32 rfl rfl (.t4 .nil))<|zk 1 rfl rfl rfl rfl rfl sz32 rfl (.t4 .nil) (.s .z)<|zf<|zc<|zE ?_
 exact zy Tryz.results55 (w34,w45) trivial (zn 1 ty32 rfl rfl (.t4 .nil)) rfl (ho:=oN) (s0 rfl)
theorem zag {u1:Wd} {u2:Wd} {u3:Wd} {u4:Wd} {u5:Wd} {u6:Wd} {u7:Wd} {u8:Wd} {u9:Wd} {u10:Wd} {u11:Wd} {u12:Wd} {ry:Td.Ry} {v1:Wd} {v2:Wd} {v3:Wd} {v4:Wd} {v5:Wd} {v6:Wd} {pa:Rat} {pb:Rat} {pc:Rat} (hbr:Td.sml ry) (hd:ry.a2≠0) (hbpa:yk pa≤100) (hbpb:yk pb≤100) (hbpc:yk pc≤100):Con yi 59 [.agg #[u1.b,u1.l,u2.b,u2.l,u3.b,u3.l,u4.b,u4.l,u5.b,u5.l,u6.b,u6.l,u7.b,u7.l,u8.b,u8.l,u9.b,u9.l,u10.b,u10.l,u11.b,u11.l,u12.b,u12.l],.agg #[v1.b,v1.l,v2.b,v2.l,v3.b,v3.l,v4.b,v4.l,v5.b,v5.l,v6.b,v6.l]] [] [qF true u1 u2 (ry.o0),qF true u3 u4 (ry.o1),qF true u5 u6 (ry.o2),qF true u7 u8 (ry.a0),qF true u9 u10 (ry.a1),qF true u11 u12 (ry.a2),qF true v1 v2 pa,qF true v3 v4 pb,qF true v5 v6 pc] (Y:=Wd×Wd) (fun y=>True) (fun y=> .agg #[y.1.b,y.1.l,y.2.b,y.2.l]) (fun y=>[]) (fun y=>[qF true y.1 y.2 (Td.miss ry pa pb pc)]):=by
 refine zl Tryz.func59 rfl rfl rfl (fun c=> ?_)
 show RunC _ _ _ _ _ [(0,.agg #[u1.b,u1.l,u2.b,u2.l,u3.b,u3.l,u4.b,u4.l,u5.b,u5.l,u6.b,u6.l,u7.b,u7.l,u8.b,u8.l,u9.b,u9.l,u10.b,u10.l,u11.b,u11.l,u12.b,u12.l]),(1,.agg #[v1.b,v1.l,v2.b,v2.l,v3.b,v3.l,v4.b,v4.l,v5.b,v5.l,v6.b,v6.l])] [] [qF true u1 u2 (ry.o0),qF true u3 u4 (ry.o1),qF true u5 u6 (ry.o2),qF true u7 u8 (ry.a0),qF true u9 u10 (ry.a1),qF true u11 u12 (ry.a2),qF true v1 v2 pa,qF true v3 v4 pb,qF true v5 v6 pc]
 obtain ⟨⟨hs0,hs1,hs2⟩,hs3,hs4,hs5⟩:=hbr
 have ha:=Big.hq_sub pa ry.o0
 have hb:=Big.hq_sub pb ry.o1
 have hc:=Big.hq_sub pc ry.o2
 have hdd:=Td.dot_hq (k:=102) (show yk (pa - ry.o0)≤102 by omega) (show yk (pb - ry.o1)≤102 by omega) (show yk (pc - ry.o2)≤102 by omega) (show yk (pa - ry.o0)≤102 by omega) (show yk (pb - ry.o1)≤102 by omega) (show yk (pc - ry.o2)≤102 by omega) dd
 have hda:=Td.dot_hq (k:=102) (show yk (pa - ry.o0)≤102 by omega) (show yk (pb - ry.o1)≤102 by omega) (show yk (pc - ry.o2)≤102 by omega) (show yk ry.a0≤102 by omega) (show yk ry.a1≤102 by omega) (show yk ry.a2≤102 by omega) dd
 have haa:=Td.lg_hq hs3 hs4 hs5
 unfold Td.Ry.lg at haa
 have hmm:=yq (Td.dot (pa - ry.o0) (pb - ry.o1) (pc - ry.o2) ry.a0 ry.a1 ry.a2) (Td.dot (pa - ry.o0) (pb - ry.o1) (pc - ry.o2) ry.a0 ry.a1 ry.a2)
 have hqq:=Big.hq_div (Td.dot (pa - ry.o0) (pb - ry.o1) (pc - ry.o2) ry.a0 ry.a1 ry.a2*Td.dot (pa - ry.o0) (pb - ry.o1) (pc - ry.o2) ry.a0 ry.a1 ry.a2) (Td.lg_ne hd)
 unfold Td.Ry.lg at hqq
 refine ze<|za<|zD rfl rfl (zT rfl rfl) (fun b1=> ?_)
 refine zD rfl rfl (zT rfl rfl) (fun b2=> ?_)
 refine zD rfl rfl (zo zr32 rfl) (fun b3=> ?_)
 refine zf<|zc<|ze<|za<|e_ru (zd 1 ty38 rfl rfl (.t8 (.t4 .nil)))<|e_p (zh yj rfl sz38 rfl rfl)<|e_ru (zd 2 ty38 rfl rfl (.t8 (.t4 .nil)))<|zq rfl rfl (.c rfl (.c rfl .n)) ce146 (zlf (d1:=v1) (d2:=v2) (d3:=v3) (d4:=v4) (d5:=v5) (d6:=v6) (d7:=u1) (d8:=u2) (d9:=u3) (d10:=u4) (d11:=u5) (d12:=u6) (xa:=pa) (xb:=pb) (xc:=pc) (ya:=ry.o0) (yb:=ry.o1) (yc:=ry.o2) (hbxa:=by first|rfl|assumption|omega|exact Td.lg_ne hd|decide) (hbxb:=by first|rfl|assumption|omega|exact Td.lg_ne hd|decide) (hbxc:=by first|rfl|assumption|omega|exact Td.lg_ne hd|decide) (hbya:=by first|rfl|assumption|omega|exact Td.lg_ne hd|decide) (hbyb:=by first|rfl|assumption|omega|exact Td.lg_ne hd|decide) (hbyc:=by first|rfl|assumption|omega|exact Td.lg_ne hd|decide)) (.c (j:=6) rfl (.c (j:=7) rfl (.c (j:=8) rfl (.c (j:=0) rfl (.c (j:=1) rfl (.c (j:=2) rfl .n)))))) ?_
 rintro ⟨w34,w45,w56,w67,w78,w89⟩ -
 dsimp only [aq,nq,cq]
 refine zD rfl rfl (zo zr38 rfl) (fun b10=> ?_)
 refine zk 0 rfl rfl rfl rfl rfl sz38 rfl (.t8 (.t4 .nil)) .z<|zf<|zc<|ze<|za<|e_ru (zd 0 ty38 rfl rfl (.t8 (.t4 .nil)))<|e_p (zh yj rfl sz38 rfl rfl)<|e_ru (zd 3 ty38 rfl rfl (.s8 (.s4 (.t8 (.t4 .nil)))))<|zq rfl rfl (.c rfl (.c rfl .n)) ce53 (zGb (d1:=w34) (d2:=w45) (d3:=w56) (d4:=w67) (d5:=w78) (d6:=w89) (d7:=u7) (d8:=u8) (d9:=u9) (d10:=u10) (d11:=u11) (d12:=u12) (xa:=(pa - ry.o0)) (xb:=(pb - ry.o1)) (xc:=(pc - ry.o2)) (ya:=ry.a0) (yb:=ry.a1) (yc:=ry.a2) (hbxa:=by first|rfl|assumption|omega|exact Td.lg_ne hd|decide) (hbxb:=by first|rfl|assumption|omega|exact Td.lg_ne hd|decide) (hbxc:=by first|rfl|assumption|omega|exact Td.lg_ne hd|decide) (hbya:=by first|rfl|assumption|omega|exact Td.lg_ne hd|decide) (hbyb:=by first|rfl|assumption|omega|exact Td.lg_ne hd|decide) (hbyc:=by first|rfl|assumption|omega|exact Td.lg_ne hd|decide)) (.c (j:=0) rfl (.c (j:=1) rfl (.c (j:=2) rfl (.c (j:=6) rfl (.c (j:=7) rfl (.c (j:=8) rfl .n)))))) ?_
 rintro ⟨w311,w412⟩ -
 dsimp only [aq,nq,cq]
 refine zD rfl rfl (zo zr32 rfl) (fun b13=> ?_)
 refine zk 0 rfl rfl rfl rfl rfl sz32 rfl (.t4 .nil) .z<|zf<|zc<|ze<|zoa (.c (i:=2) rfl (.c (i:=0) rfl (.c (i:=0) rfl (.c (i:=0) rfl (.c (i:=0) rfl .n)))))<|zW (OW:=[boxA b3 32 (cw [wz,wz])]) (O:=[boxA b13 32 (cw [w311,w412]),boxA b10 38 (cw [w34,w45,w56,w67,w78,w89]),boxA b2 38 (cw [v1,v2,v3,v4,v5,v6]),boxA b1 40 (cw [u1,u2,u3,u4,u5,u6,u7,u8,u9,u10,u11,u12])]) 13 mixed (.then .ret) kr<|e_uw 0 rfl rfl (zd 2 ty38 rfl rfl (.t8 (.t4 .nil)))<|e_uw 1 rfl rfl (zd 2 ty38 rfl rfl (.t8 (.t4 .nil)))<|e_uw 3 rfl rfl (zd 1 ty32 rfl rfl (.t4 .nil))<|e_uw 4 rfl rfl (zd 1 ty32 rfl rfl (.t4 .nil))<|e_pv 6 rfl rfl (zh yj rfl sz38 rfl rfl)<|e_uw 7 rfl rfl (zd 4 ty38 rfl rfl (.s8 (.s4 (.t8 (.t4 .nil)))))<|e_pv 8 rfl rfl (zh yj rfl sz38 rfl rfl)<|e_uw 9 rfl rfl (zd 4 ty38 rfl rfl (.s8 (.s4 (.t8 (.t4 .nil)))))<|e_one 2 (zv rfl rfl rfl rfl (.c rfl (.c rfl .n)) ce53 (zGb (d1:=w34) (d2:=w45) (d3:=w56) (d4:=w67) (d5:=w78) (d6:=w89) (d7:=w34) (d8:=w45) (d9:=w56) (d10:=w67) (d11:=w78) (d12:=w89) (xa:=(pa - ry.o0)) (xb:=(pb - ry.o1)) (xc:=(pc - ry.o2)) (ya:=(pa - ry.o0)) (yb:=(pb - ry.o1)) (yc:=(pc - ry.o2)) (hbxa:=by first|rfl|assumption|omega|exact Td.lg_ne hd|decide) (hbxb:=by first|rfl|assumption|omega|exact Td.lg_ne hd|decide) (hbxc:=by first|rfl|assumption|omega|exact Td.lg_ne hd|decide) (hbya:=by first|rfl|assumption|omega|exact Td.lg_ne hd|decide) (hbyb:=by first|rfl|assumption|omega|exact Td.lg_ne hd|decide) (hbyc:=by first|rfl|assumption|omega|exact Td.lg_ne hd|decide)) (.c (j:=1) rfl (.c (j:=2) rfl (.c (j:=3) rfl (.c (j:=1) rfl (.c (j:=2) rfl (.c (j:=3) rfl .n)))))) ?_)
 rintro ⟨w314,w415⟩ -
 dsimp only [aq,nq,cq]
 refine e_one 5 (zv rfl rfl rfl rfl (.c rfl (.c rfl .n)) ce56 (zrb (k1:=true) (u1:=w311) (v1:=w412) (q1:=(Td.dot (pa - ry.o0) (pb - ry.o1) (pc - ry.o2) ry.a0 ry.a1 ry.a2)) (k2:=true) (u2:=w311) (v2:=w412) (q2:=(Td.dot (pa - ry.o0) (pb - ry.o1) (pc - ry.o2) ry.a0 ry.a1 ry.a2)) (hl:=by first|rfl|assumption|omega|exact Td.lg_ne hd|decide)) (.c (j:=1) rfl (.c (j:=1) rfl .n)) ?_)
 rintro ⟨w316,w417⟩ -
 dsimp only [aq,nq,cq]
 refine e_one 10 (zv rfl rfl rfl rfl (.c rfl (.c rfl .n)) ce53 (zGb (d1:=u7) (d2:=u8) (d3:=u9) (d4:=u10) (d5:=u11) (d6:=u12) (d7:=u7) (d8:=u8) (d9:=u9) (d10:=u10) (d11:=u11) (d12:=u12) (xa:=ry.a0) (xb:=ry.a1) (xc:=ry.a2) (ya:=ry.a0) (yb:=ry.a1) (yc:=ry.a2) (hbxa:=by first|rfl|assumption|omega|exact Td.lg_ne hd|decide) (hbxb:=by first|rfl|assumption|omega|exact Td.lg_ne hd|decide) (hbxc:=by first|rfl|assumption|omega|exact Td.lg_ne hd|decide) (hbya:=by first|rfl|assumption|omega|exact Td.lg_ne hd|decide) (hbyb:=by first|rfl|assumption|omega|exact Td.lg_ne hd|decide) (hbyc:=by first|rfl|assumption|omega|exact Td.lg_ne hd|decide)) (.c (j:=9) rfl (.c (j:=10) rfl (.c (j:=11) rfl (.c (j:=9) rfl (.c (j:=10) rfl (.c (j:=11) rfl .n)))))) ?_)
 rintro ⟨w318,w419⟩ -
 dsimp only [aq,nq,cq]
 refine e_one 11 (zv rfl rfl rfl rfl (.c rfl (.c rfl .n)) ce55 (zhe (u1:=w316) (v1:=w417) (q1:=(Td.dot (pa - ry.o0) (pb - ry.o1) (pc - ry.o2) ry.a0 ry.a1 ry.a2)*(Td.dot (pa - ry.o0) (pb - ry.o1) (pc - ry.o2) ry.a0 ry.a1 ry.a2)) (u2:=w318) (v2:=w419) (q2:=(Td.dot ry.a0 ry.a1 ry.a2 ry.a0 ry.a1 ry.a2)) (hl:=by first|rfl|assumption|omega|exact Td.lg_ne hd|decide) (h0:=by first|rfl|assumption|omega|exact Td.lg_ne hd|decide)) (.c (j:=1) rfl (.c (j:=0) rfl .n)) ?_)
 rintro ⟨w320,w421⟩ -
 dsimp only [aq,nq,cq]
 refine e_one 12 (zv rfl rfl rfl rfl (.c rfl (.c rfl .n)) ce147 (zkc (k1:=true) (u1:=w314) (v1:=w415) (q1:=(Td.dot (pa - ry.o0) (pb - ry.o1) (pc - ry.o2) (pa - ry.o0) (pb - ry.o1) (pc - ry.o2))) (k2:=true) (u2:=w320) (v2:=w421) (q2:=(((Td.dot (pa - ry.o0) (pb - ry.o1) (pc - ry.o2) ry.a0 ry.a1 ry.a2)*(Td.dot (pa - ry.o0) (pb - ry.o1) (pc - ry.o2) ry.a0 ry.a1 ry.a2)) / (Td.dot ry.a0 ry.a1 ry.a2 ry.a0 ry.a1 ry.a2))) (hl:=by first|rfl|assumption|omega|exact Td.lg_ne hd|decide)) (.c (j:=3) rfl (.c (j:=0) rfl .n)) ?_)
 rintro ⟨w322,w423⟩ -
 dsimp only [aq,nq,cq]
 refine e_one 13 (zr kr rfl rfl rfl rfl rfl sz32 rfl (.t4 .nil) ?_)
 refine zN kr<|zc<|zE ?_
 exact zy Tryz.results59 (w322,w423) trivial (zn 0 ty32 rfl rfl (.t4 .nil)) rfl (ho:=oN) (s0 rfl)
theorem zCe {u1:Wd} {v1:Wd} {q1:Rat}:Con yi 210 [.agg #[u1.b,u1.l,v1.b,v1.l]] [] [qF true u1 v1 q1] (Y:=Unit) (fun y=>True) (fun y=> .bool false) (fun y=>[]) (fun y=>[]):=by
 refine zl Tryz.func210 rfl rfl rfl (fun c=> ?_)
 show RunC _ _ _ _ _ [(0,.agg #[u1.b,u1.l,v1.b,v1.l])] [] [qF true u1 v1 q1]
 refine ze<|za<|zD rfl rfl (zT rfl rfl) (fun b1=> ?_)
 refine e_p (zb rfl)<|zf<|zc<|ze<|za<|e_ru (zd 0 ty32 rfl rfl (.t4 .nil))<|zJ rfl rfl (.c rfl .n) ce88 (zXc (u1:=u1) (v1:=v1) (q1:=q1)) (.c (j:=0) rfl .n)<|e_p (zcb rfl)<|e_p (zb rfl)<|zf<|zc<|zE ?_
 exact zy Tryz.results210 () trivial (zp rfl) rfl (ho:=oN) sN
theorem zbg {p:Option Addr} {n:Nat} {cap:Nat} {l:List Rat} (hn:l.length=n):Con yi 211 [.slice p n cap,.func (.func 210) #[] #[]] [] [slF rQ p cap l] (Y:=Unit) (fun y=>True) (fun y=> .int .i64 (-1)) (fun y=>[]) (fun y=>[]):=by
 refine zl Tryz.func211 rfl rfl rfl (fun c=> ?_)
 show RunC _ _ _ _ _ [(0,.slice p n cap),(1,.func (.func 210) #[] #[])] [] [slF rQ p cap l]
 refine zX 0 rfl (fun hL0=> ?_)
 refine ze<|za<|e_p (zb rfl)<|zf<|zc<|ze<|ze<|za<|e_mv rfl<|e_p (zG yg rfl)<|e_mv rfl<|zf<|zc<|zw<|zha (X:=Nat) (fun x:Nat=>x≤n) (fun x=>[(8,.int .i64 ((x:Nat):Int)),(7,.int .i64 ((n:Nat):Int)),(0,.slice p n cap),(1,.func (.func 210) #[] #[])]) (fun x=>[]) (fun x=>[slF rQ p cap l]) (fun x:Nat=>n - x) 0 (show 0≤n from by exact Nat.zero_le _) ((.e rfl cgs (.of rfl)):SubM _ _) (ho:=oN) (s0 rfl) ?_
 rintro i hI
 replace hI:i≤n:=hI
 try dsimp only
 refine ze<|za<|e_p (zV rfl rfl)<|zf<|zc<|ze<|zI rfl (fun h1=> ?_) (fun h1=> ?_)
 ·
  refine zx<|zc<|ze<|zw<|ze<|za<|e_mv rfl<|e_p (zb rfl)<|zf<|zc<|ze<|za<|e_mv rfl<|e_mv rfl<|e_mv rfl<|r_vl rfl rfl (zfa (x0:=(l.getD i (0:Rat))) 0 i rfl yg sz32 rfl cbo rfl rfl (gD (d:=(0:Rat)) om)) ?_
  rintro ⟨b2,o3,w4,w5⟩ -
  dsimp only [aq,nq,cq]
  refine zLb open_rQ<|e_ru (zU (j:=0) 0 ty32 rfl rfl rfl (.t4 .nil))<|zbc (first:=[]) (cap:=[]) rfl rfl rfl (.c rfl .n) ce210 (zCe (u1:=w4) (v1:=w5) (q1:=(l.getD i (0:Rat)))) (.c (j:=1) rfl .n) ?_
  rintro ⟨⟩ -
  dsimp only [aq,nq,cq]
  refine zf<|zc<|zaa rfl rfl<|zx<|zQ<|zc<|za<|e_p (zK (z:=(((i+1):Nat):Int)) rfl rfl (w64 om))<|e_mv rfl<|zf<|zca (i+1) (show (i+1)≤n from by show i+1≤n;omega) (by show n - (i+1)<n - i;omega) (mR rfl) (ho:=oN) ((.c (j:=2) rfl .n):SelR _ _ _)
 ·
  refine zda<|zj<|zj<|zu<|zc<|ze<|za<|e_p (zb rfl)<|zf<|zc<|zE ?_
  exact zy Tryz.results211 () trivial (zp rfl) rfl (ho:=oN) sN
theorem zcg {p:Option Addr} {n:Nat} {cap:Nat} {l:List Rat} (hn:l.length=n):Con yi 132 [.slice p n cap,.func (.func 210) #[] #[]] [] [slF rQ p cap l] (Y:=Unit) (fun y=>True) (fun y=> .bool false) (fun y=>[]) (fun y=>[]):=by
 refine zl Tryz.func132 rfl rfl rfl (fun c=> ?_)
 show RunC _ _ _ _ _ [(0,.slice p n cap),(1,.func (.func 210) #[] #[])] [] [slF rQ p cap l]
 refine zX 0 rfl (fun hL0=> ?_)
 refine ze<|za<|e_p (zb rfl)<|zf<|zc<|ze<|za<|e_mv rfl<|e_mv rfl<|zJ rfl rfl (.c rfl (.c rfl .n)) ce211 (zbg (p:=p) (n:=n) (cap:=cap) (l:=l) (hn:=ass)) (.c (j:=0) rfl .n)<|e_p (zMa rfl rfl)<|e_p (zb rfl)<|zf<|zc<|zE ?_
 exact zy Tryz.results132 () trivial (zp rfl) (congrArg Value.bool (decide_eq_false (show ¬(0:Int)≤ -1 by decide)).symm) (ho:=oN) sN
theorem zTb {d1:Wd} {d2:Wd} {d3:Wd} {d4:Wd} {d5:Wd} {d6:Wd} {xa:Rat} {xb:Rat} {xc:Rat}:Con yi 131 [.agg #[d1.b,d1.l,d2.b,d2.l,d3.b,d3.l,d4.b,d4.l,d5.b,d5.l,d6.b,d6.l]] [] [qF true d1 d2 xa,qF true d3 d4 xb,qF true d5 d6 xc] (Y:=Unit) (fun y=>True) (fun y=> .bool true) (fun y=>[]) (fun y=>[]):=by
 refine zl Tryz.func131 rfl rfl rfl (fun c=> ?_)
 show RunC _ _ _ _ _ [(0,.agg #[d1.b,d1.l,d2.b,d2.l,d3.b,d3.l,d4.b,d4.l,d5.b,d5.l,d6.b,d6.l])] [] [qF true d1 d2 xa,qF true d3 d4 xb,qF true d5 d6 xc]
 refine ze<|za<|zD rfl rfl (zT rfl rfl) (fun b1=> ?_)
 refine e_p (zb rfl)<|zf<|zc<|ze<|zFa 0 rfl .z<|zfd (slF rQ (some ⟨b1,0,none⟩) 3 [xa,xb,xc]) (fun g h=>sl3_at 0 1 2 3 rfl rfl rfl rfl rfl g h)<|za<|e_p (ztb ye sz32 rfl)<|zJ rfl rfl (.c rfl (.c rfl .n)) ce132 (zcg (p:=some ⟨b1,0,none⟩) (n:=3) (cap:=3) (l:=[xa,xb,xc]) (hn:=by first|exact rfl|assumption|omega)) (.c (j:=0) rfl .n)<|e_p (zcb rfl)<|e_p (zb rfl)<|zf<|zc<|zE ?_
 exact zy Tryz.results131 () trivial (zp rfl) rfl (ho:=oN) sN
theorem zDe {u1:Wd} {v1:Wd} {q1:Rat}:Con yi 133 [.agg #[u1.b,u1.l,v1.b,v1.l]] [] [qF true u1 v1 q1] (Y:=Unit) (fun y=>True) (fun y=> .bool (decide (Big.sgq q1≠0))) (fun y=>[]) (fun y=>[]):=by
 refine zl Tryz.func133 rfl rfl rfl (fun c=> ?_)
 show RunC _ _ _ _ _ [(0,.agg #[u1.b,u1.l,v1.b,v1.l])] [] [qF true u1 v1 q1]
 refine ze<|za<|zD rfl rfl (zT rfl rfl) (fun b1=> ?_)
 refine e_p (zb rfl)<|zf<|zc<|ze<|za<|e_ru (zd 0 ty32 rfl rfl (.t4 .nil))<|zJ rfl rfl (.c rfl .n) ce80 (zjc (k1:=true) (u1:=u1) (v1:=v1) (q1:=q1)) (.c (j:=0) rfl .n)<|e_p (zsa rfl rfl)<|e_p (zb rfl)<|zf<|zc<|zE ?_
 exact zy Tryz.results133 () trivial (zp rfl) rfl (ho:=oN) sN
theorem zyg {p:Option Addr} {n:Nat} {cap:Nat} {l:List Rat} (hn:l.length=n) (hnz:∃i,i<n∧l.getD i 0≠0):Con yi 211 [.slice p n cap,.func (.func 133) #[] #[]] [] [slF rQ p cap l] (Y:=Int) (fun y=>0≤y) (fun y=> .int .i64 y) (fun y=>[]) (fun y=>[]):=by
 refine zl Tryz.func211 rfl rfl rfl (fun c=> ?_)
 show RunC _ _ _ _ _ [(0,.slice p n cap),(1,.func (.func 133) #[] #[])] [] [slF rQ p cap l]
 refine zX 0 rfl (fun hL0=> ?_)
 refine ze<|za<|e_p (zb rfl)<|zf<|zc<|ze<|ze<|za<|e_mv rfl<|e_p (zG yg rfl)<|e_mv rfl<|zf<|zc<|zw<|zha (X:=Nat) (fun x:Nat=>x≤n∧∀j,j<x→l.getD j 0=0) (fun x=>[(8,.int .i64 ((x:Nat):Int)),(7,.int .i64 ((n:Nat):Int)),(0,.slice p n cap),(1,.func (.func 133) #[] #[])]) (fun x=>[]) (fun x=>[slF rQ p cap l]) (fun x:Nat=>n - x) 0 (show 0≤n∧∀j,j<0→l.getD j 0=0 from by exact ⟨Nat.zero_le _,fun j h=>by omega⟩) ((.e rfl cgs (.of rfl)):SubM _ _) (ho:=oN) (s0 rfl) ?_
 rintro i hI
 replace hI:i≤n∧∀j,j<i→l.getD j 0=0:=hI
 try dsimp only
 obtain ⟨hi,hz⟩:=hI
 refine ze<|za<|e_p (zV rfl rfl)<|zf<|zc<|ze<|zI rfl (fun h1=> ?_) (fun h1=> ?_)
 ·
  refine zx<|zc<|ze<|zw<|ze<|za<|e_mv rfl<|e_p (zb rfl)<|zf<|zc<|ze<|za<|e_mv rfl<|e_mv rfl<|e_mv rfl<|r_vl rfl rfl (zfa (x0:=(l.getD i (0:Rat))) 0 i rfl yg sz32 rfl cbo rfl rfl (gD (d:=(0:Rat)) om)) ?_
  rintro ⟨b2,o3,w4,w5⟩ -
  dsimp only [aq,nq,cq]
  refine zLb open_rQ<|e_ru (zU (j:=0) 0 ty32 rfl rfl rfl (.t4 .nil))<|zbc (first:=[]) (cap:=[]) rfl rfl rfl (.c rfl .n) ce133 (zDe (u1:=w4) (v1:=w5) (q1:=(l.getD i (0:Rat)))) (.c (j:=1) rfl .n) ?_
  rintro ⟨⟩ -
  dsimp only [aq,nq,cq]
  refine zf<|zc<|zI rfl (fun h16=> ?_) (fun h16=> ?_)
  ·
   refine ze<|za<|e_mv rfl<|e_p (zb rfl)<|zf<|zc<|zE<|zia<|zB<|zB<|zia<|zB ?_
   exact zy Tryz.results211 ((i:Nat):Int) om (zp rfl) rfl (ho:=oN) sN
  ·
   refine zx<|zQ<|zc<|za<|e_p (zK (z:=(((i+1):Nat):Int)) rfl rfl (w64 om))<|e_mv rfl<|zf<|zca (i+1) (show (i+1)≤n∧∀j,j<(i+1)→l.getD j 0=0 from by refine ⟨by omega,fun j hj=> ?_⟩;by_cases e:j=i;(subst e;exact Rat.num_eq_zero.1 (Big.sign_zero.1 (Decidable.not_not.1 h16)));exact hz j om) (by show n - (i+1)<n - i;omega) (mR rfl) (ho:=oN) ((.c (j:=2) rfl .n):SelR _ _ _)
 ·
  refine zda<|zj<|zj<|zu<|zc<|ze<|za<|e_p (zb rfl)<|zf<|zc<|zE ?_
  have hk7:(0:Int)≤(-1):=by obtain ⟨j,hj,hne⟩:=hnz;exact absurd (hz j om) hne
  exact zy Tryz.results211 (-1) hk7 (zp rfl) rfl (ho:=oN) sN
theorem zzg {p:Option Addr} {n:Nat} {cap:Nat} {l:List Rat} (hn:l.length=n) (hnz:∃i,i<n∧l.getD i 0≠0):Con yi 132 [.slice p n cap,.func (.func 133) #[] #[]] [] [slF rQ p cap l] (Y:=Unit) (fun y=>True) (fun y=> .bool true) (fun y=>[]) (fun y=>[]):=by
 refine zl Tryz.func132 rfl rfl rfl (fun c=> ?_)
 show RunC _ _ _ _ _ [(0,.slice p n cap),(1,.func (.func 133) #[] #[])] [] [slF rQ p cap l]
 refine zX 0 rfl (fun hL0=> ?_)
 refine ze<|za<|e_p (zb rfl)<|zf<|zc<|ze<|za<|e_mv rfl<|e_mv rfl<|zq rfl rfl (.c rfl (.c rfl .n)) ce211 (zyg (p:=p) (n:=n) (cap:=cap) (l:=l) (hn:=ass) (hnz:=ass)) (.c (j:=0) rfl .n) ?_
 rintro k91 hk9
 dsimp only [aq,nq,cq]
 replace hk9:0≤k91:=hk9
 refine e_p (zMa rfl rfl)<|e_p (zb rfl)<|zf<|zc<|zE ?_
 exact zy Tryz.results132 () trivial (zp rfl) (congrArg Value.bool (decide_eq_true hk9).symm) (ho:=oN) sN
end Go.Proofs.YtpdbimfnhglhpaaGreat.Sp
namespace Go.Proofs.YtpdbimfnhglhpaaGreat.Sp
open Go
set_option linter.unusedVariables false
set_option maxRecDepth 100000
set_option maxHeartbeats 8000000
theorem zmf {p:Option Addr} {n:Nat} {cap:Nat} {l:List Td.Ry} (hn:l.length=n) (hz:∀k,k<n→(Td.gr l k).a2≠0):Con yi 49 [.slice p n cap] [] [slF rRy p cap l] (Y:=Unit) (fun y=>True) (fun y=> .int .i64 0) (fun y=>[]) (fun y=>[]):=by
 refine zl Tryz.func49 rfl rfl rfl (fun c=> ?_)
 show RunC _ _ _ _ _ [(0,.slice p n cap)] [] [slF rRy p cap l]
 refine zX 0 rfl (fun hL0=> ?_)
 refine ze<|za<|e_p (zb rfl)<|zf<|zc<|ze<|ze<|za<|e_mv rfl<|e_p (zG yh rfl)<|e_mv rfl<|zf<|zc<|zw<|zha (X:=Nat) (fun x:Nat=>x≤n) (fun x=>[(7,.int .i64 ((x:Nat):Int)),(6,.int .i64 ((n:Nat):Int)),(5,.slice p n cap)]) (fun x=>[]) (fun x=>[slF rRy p cap l]) (fun x:Nat=>n - x) 0 (show 0≤n from by exact Nat.zero_le _) ((.e rfl cgs (.c rfl (.c rfl .n))):SubM _ _) (ho:=oN) (s0 rfl) ?_
 rintro i hI
 replace hI:i≤n:=hI
 try dsimp only
 refine ze<|za<|e_p (zV rfl rfl)<|zf<|zc<|ze<|zI rfl (fun h1=> ?_) (fun h1=> ?_)
 ·
  refine zx<|zc<|ze<|zw<|ze<|za<|r_vl rfl rfl (zfa (x0:=(l.getD i (⟨0,0,0,0,0,0⟩:Td.Ry))) 0 i rfl yh sz40 rfl cbo rfl rfl (gD (d:=(⟨0,0,0,0,0,0⟩:Td.Ry)) om)) ?_
  rintro ⟨b2,o3,w4,w5,w6,w7,w8,w9,w10,w11,w12,w13,w14,w15⟩ -
  dsimp only [aq,nq,cq]
  refine zLb open_rRy<|e_ru (zU (j:=0) 0 ty40 rfl rfl rfl (.t8 (.t8 (.t8 .nil))))<|zD rfl rfl (zo zr40 rfl) (fun b16=> ?_)
  refine zk 0 rfl rfl rfl rfl rfl sz40 rfl (.t8 (.t8 (.t8 .nil))) .z<|zf<|zc<|ze<|zFa 0 rfl .z<|zfd (slF rQ (some ⟨b16,12,none⟩) 3 [(l.getD i (⟨0,0,0,0,0,0⟩:Td.Ry)).a0,(l.getD i (⟨0,0,0,0,0,0⟩:Td.Ry)).a1,(l.getD i (⟨0,0,0,0,0,0⟩:Td.Ry)).a2]) (fun g h=>sl3_at 0 5 6 7 rfl rfl rfl rfl rfl g h)<|za<|e_p (zh yj rfl sz38 rfl rfl)<|e_ru (zU (j:=0) 1 ty38 rfl rfl rfl (.t8 (.t4 .nil)))<|zJ rfl rfl (.c rfl .n) ce131 (zTb (d1:=w4) (d2:=w5) (d3:=w6) (d4:=w7) (d5:=w8) (d6:=w9) (xa:=(l.getD i (⟨0,0,0,0,0,0⟩:Td.Ry)).o0) (xb:=(l.getD i (⟨0,0,0,0,0,0⟩:Td.Ry)).o1) (xc:=(l.getD i (⟨0,0,0,0,0,0⟩:Td.Ry)).o2)) (.c (j:=3) rfl (.c (j:=4) rfl (.c (j:=5) rfl .n)))<|e_p (zcb rfl)<|e_mv rfl<|e_p (zh yj rfl sz38 rfl rfl)<|e_ru (zU (j:=12) 1 ty38 rfl rfl rfl (.s8 (.s4 (.t8 (.t4 .nil)))))<|zJ rfl rfl (.c rfl .n) ce131 (zTb (d1:=w10) (d2:=w11) (d3:=w12) (d4:=w13) (d5:=w14) (d6:=w15) (xa:=(l.getD i (⟨0,0,0,0,0,0⟩:Td.Ry)).a0) (xb:=(l.getD i (⟨0,0,0,0,0,0⟩:Td.Ry)).a1) (xc:=(l.getD i (⟨0,0,0,0,0,0⟩:Td.Ry)).a2)) (.c (j:=6) rfl (.c (j:=7) rfl (.c (j:=8) rfl .n)))<|e_p (zcb rfl)<|e_p (zC rfl rfl)<|e_mv rfl<|e_p (zh yj rfl sz38 rfl rfl)<|e_p (ztb ye sz32 rfl)<|zJ rfl rfl (.c rfl (.c rfl .n)) ce132 (zzg (p:=some ⟨b16,12,none⟩) (n:=3) (cap:=3) (l:=[(l.getD i (⟨0,0,0,0,0,0⟩:Td.Ry)).a0,(l.getD i (⟨0,0,0,0,0,0⟩:Td.Ry)).a1,(l.getD i (⟨0,0,0,0,0,0⟩:Td.Ry)).a2]) (hn:=by exact rfl) (hnz:=by exact ⟨2,by decide,hz i om⟩)) (.c (j:=0) rfl .n)<|e_p (zcb rfl)<|e_p (zC rfl rfl)<|zf<|zc<|zaa rfl rfl<|zx<|zQ<|zc<|za<|e_p (zK (z:=(((i+1):Nat):Int)) rfl rfl (w64 om))<|e_mv rfl<|zf<|zca (i+1) (show (i+1)≤n from by show i+1≤n;omega) (by show n - (i+1)<n - i;omega) (mR rfl) (ho:=oN) ((.c (j:=9) rfl .n):SelR _ _ _)
 ·
  refine zda<|zj<|zj<|zu<|zc<|ze<|za<|e_p (zb rfl)<|zf<|zc<|zE ?_
  exact zy Tryz.results49 () trivial (zp rfl) rfl (ho:=oN) sN
theorem znf {z:Int} (hz:1≤z∧z≤0x100000):Con yi 50 [.int .i64 z] [] [] (Y:=Unit) (fun y=>True) (fun y=> .bool false) (fun y=>[]) (fun y=>[]):=by
 refine zl Tryz.func50 rfl rfl rfl (fun c=> ?_)
 show RunC _ _ _ _ _ [(0,.int .i64 z)] [] []
 refine ze<|za<|e_p (zb rfl)<|zf<|zc<|zib (X:=Unit) (fun x=>True) (fun x=>[(2,.bool (decide ((z<1)∨(0x100000<z))))]) (fun x=>[]) (fun x=>[]) ?_ ?_
 ·
  refine za<|e_mv rfl<|e_p (zV rfl rfl)<|zja rfl rfl (zna rfl) (fun h1=> ?_) (fun h1=> ?_)
  ·
   refine e_no<|e_no<|e_p (zC rfl rfl)<|e_p (zb rfl)<|zf ?_
   exact zka () tt9 ((.e rfl (congrArg Value.bool cbu) .n):SubM _ _) (ho:=oN) sN
  ·
   refine e_mv rfl<|e_p (zpa rfl rfl)<|e_p (zC rfl rfl)<|e_p (zb rfl)<|zf ?_
   exact zka () tt9 ((.e rfl (congrArg Value.bool cbu) .n):SubM _ _) (ho:=oN) sN
 ·
  rintro ⟨⟩ -
  try dsimp only
  refine zE ?_
  exact zy Tryz.results50 () trivial (zp rfl) (congrArg Value.bool (decide_eq_false om).symm) (ho:=oN) sN
theorem zdg {p:Option Addr} {n:Nat} {cap:Nat} {l:List Int} (hn:l.length=n) (hall:∀i,i<n→1≤l.getD i 0∧l.getD i 0≤0x100000):Con yi 128 [.slice p n cap,.func (.func 50) #[] #[]] [] [slF (rI .i64) p cap l] (Y:=Unit) (fun y=>True) (fun y=> .int .i64 (-1)) (fun y=>[]) (fun y=>[]):=by
 refine zl Tryz.func128 rfl rfl rfl (fun c=> ?_)
 show RunC _ _ _ _ _ [(0,.slice p n cap),(1,.func (.func 50) #[] #[])] [] [slF (rI .i64) p cap l]
 refine zX 0 rfl (fun hL0=> ?_)
 refine ze<|za<|e_p (zb rfl)<|zf<|zc<|ze<|ze<|za<|e_mv rfl<|e_p (zG yd rfl)<|e_mv rfl<|zf<|zc<|zw<|zha (X:=Nat) (fun x:Nat=>x≤n) (fun x=>[(8,.int .i64 ((x:Nat):Int)),(7,.int .i64 ((n:Nat):Int)),(0,.slice p n cap),(1,.func (.func 50) #[] #[])]) (fun x=>[]) (fun x=>[slF (rI .i64) p cap l]) (fun x:Nat=>n - x) 0 (show 0≤n from by exact Nat.zero_le _) ((.e rfl cgs (.of rfl)):SubM _ _) (ho:=oN) (s0 rfl) ?_
 rintro i hI
 replace hI:i≤n:=hI
 try dsimp only
 refine ze<|za<|e_p (zV rfl rfl)<|zf<|zc<|ze<|zI rfl (fun h1=> ?_) (fun h1=> ?_)
 ·
  refine zx<|zc<|ze<|zw<|ze<|za<|e_mv rfl<|e_p (zb rfl)<|zf<|zc<|ze<|za<|e_mv rfl<|e_mv rfl<|e_mv rfl<|zZ (x0:=(l.getD i 0)) 0 i rfl yd sz3 rfl rfl rfl cbo rfl rfl (gD (d:=0) om) (fun b2 o3 hok4=> ?_)
  replace hok4:=zga.1 hok4
  refine e_ru (zi (j:=0) 0 ty3 rfl rfl rfl rfl)<|zbc (first:=[]) (cap:=[]) rfl rfl rfl (.c rfl .n) ce50 (znf (z:=(l.getD i 0)) (hz:=by first|rfl|assumption|omega|exact hall _ om)) (.n) ?_
  rintro ⟨⟩ -
  dsimp only [aq,nq,cq]
  refine zf<|zc<|zaa rfl rfl<|zx<|zQ<|zc<|za<|e_p (zK (z:=(((i+1):Nat):Int)) rfl rfl (w64 om))<|e_mv rfl<|zf<|zca (i+1) (show (i+1)≤n from by show i+1≤n;omega) (by show n - (i+1)<n - i;omega) (mR rfl) (ho:=oN) ((.c (j:=1) rfl .n):SelR _ _ _)
 ·
  refine zda<|zj<|zj<|zu<|zc<|ze<|za<|e_p (zb rfl)<|zf<|zc<|zE ?_
  exact zy Tryz.results128 () trivial (zp rfl) rfl (ho:=oN) sN
theorem zeg {p:Option Addr} {n:Nat} {cap:Nat} {l:List Int} (hn:l.length=n) (hall:∀i,i<n→1≤l.getD i 0∧l.getD i 0≤0x100000):Con yi 44 [.slice p n cap,.func (.func 50) #[] #[]] [] [slF (rI .i64) p cap l] (Y:=Unit) (fun y=>True) (fun y=> .bool false) (fun y=>[]) (fun y=>[]):=by
 refine zl Tryz.func44 rfl rfl rfl (fun c=> ?_)
 show RunC _ _ _ _ _ [(0,.slice p n cap),(1,.func (.func 50) #[] #[])] [] [slF (rI .i64) p cap l]
 refine zX 0 rfl (fun hL0=> ?_)
 refine ze<|za<|e_p (zb rfl)<|zf<|zc<|ze<|za<|e_mv rfl<|e_mv rfl<|zJ rfl rfl (.c rfl (.c rfl .n)) ce128 (zdg (p:=p) (n:=n) (cap:=cap) (l:=l) (hn:=ass) (hall:=ass)) (.c (j:=0) rfl .n)<|e_p (zMa rfl rfl)<|e_p (zb rfl)<|zf<|zc<|zE ?_
 exact zy Tryz.results44 () trivial (zp rfl) (congrArg Value.bool (decide_eq_false (show ¬(0:Int)≤ -1 by decide)).symm) (ho:=oN) sN
end Go.Proofs.YtpdbimfnhglhpaaGreat.Sp
namespace Go.Proofs.YtpdbimfnhglhpaaGreat.Sp
open Go
set_option linter.unusedVariables false
set_option maxRecDepth 100000
set_option maxHeartbeats 8000000
theorem zYc {p:Option Addr} {nL:Nat} {cap:Nat} {l:List Td.Ry} {pW:Option Addr} {cW:Nat} {W:List Int} {pa:Rat} {pb:Rat} {pc:Rat} (hok:Td.Ok l W nL) (hnul:∀v:Nat→Rat,(∀i,i<3→Mx.sm 3 (fun j=>Mx.e (Td.nM l W nL 0) i j*v j)=0)→∀i,i<3→v i=0) (hsol:∀i,i<3→Mx.sm 3 (fun j=>Mx.e (Td.nM l W nL 0) i j*Td.t3 pa pb pc j)=(Td.rR l W nL 0).getD i 0) (hbpa:yk pa≤100) (hbpb:yk pb≤100) (hbpc:yk pc≤100):Con yi 10 [.slice p nL cap,.slice pW nL cW] [] [slF rRy p cap l,slF (rI .i64) pW cW W] (Y:=Wd×Wd×Wd×Wd×Wd×Wd×Wd×Wd) (fun y=>True) (fun y=> .tuple #[.agg #[y.1.b,y.1.l,y.2.1.b,y.2.1.l,y.2.2.1.b,y.2.2.1.l,y.2.2.2.1.b,y.2.2.2.1.l,y.2.2.2.2.1.b,y.2.2.2.2.1.l,y.2.2.2.2.2.1.b,y.2.2.2.2.2.1.l],.agg #[y.2.2.2.2.2.2.1.b,y.2.2.2.2.2.2.1.l,y.2.2.2.2.2.2.2.b,y.2.2.2.2.2.2.2.l],.int .i64 0]) (fun y=>[]) (fun y=>[qF true y.1 y.2.1 pa,qF true y.2.2.1 y.2.2.2.1 pb,qF true y.2.2.2.2.1 y.2.2.2.2.2.1 pc,qF true y.2.2.2.2.2.2.1 y.2.2.2.2.2.2.2 (Td.ss l W pa pb pc nL)]):=by
 refine zl Tryz.func10 rfl rfl rfl (fun c=> ?_)
 show RunC _ _ _ _ _ [(0,.slice p nL cap),(1,.slice pW nL cW)] [] [slF rRy p cap l,slF (rI .i64) pW cW W]
 refine zX 0 rfl (fun hL0=> ?_)
 refine zX 1 rfl (fun hL1=> ?_)
 have hnl:=hok.hl
 have hnw:=hok.hW
 have hn2:=hok.n2
 refine ze<|za<|zD rfl rfl (zo zr38 rfl) (fun b1=> ?_)
 refine zD rfl rfl (zo zr32 rfl) (fun b2=> ?_)
 refine e_p (zb rfl)<|zf<|zc<|ze<|ze<|za<|e_mv rfl<|zJ rfl rfl (.c rfl .n) ce49 (zmf (p:=p) (n:=nL) (cap:=cap) (l:=l) (hn:=by first|rfl|assumption|omega|exact hok.d _ om|exact hok.w _ om) (hz:=by exact fun k hk=>hok.d k hk)) (.c (j:=0) rfl .n)<|e_p (zb rfl)<|zf<|zc<|ze<|za<|e_mv rfl<|e_p (zsa rfl rfl)<|zf<|zc<|zaa rfl rfl<|zx<|zc<|ze<|zw<|ze<|za<|e_mv rfl<|e_p (zG yh rfl)<|e_p (zxa rfl rfl) ?_
 rw [show (decide (((nL:Nat):Int)=0))=false from by exact decide_eq_false om]
 refine e_mv rfl<|e_mv rfl<|e_p (zG yh rfl)<|e_p (zpa rfl rfl) ?_
 rw [show (decide (64<((nL:Nat):Int)))=false from by exact decide_eq_false om]
 refine e_p (zC rfl rfl)<|e_p (zb rfl)<|zf<|zc<|zaa rfl rfl<|ze<|za<|e_mv rfl<|e_p (zG yh rfl)<|e_mv rfl<|e_p (zG yd rfl)<|e_p (zsa rfl rfl) ?_
 rw [show (decide (((nL:Nat):Int)≠((nL:Nat):Int)))=false from by exact decide_eq_false (fun h=>h rfl)]
 refine e_p (zb rfl)<|zf<|zc<|zaa rfl rfl<|ze<|za<|e_mv rfl<|zJ rfl rfl (.c rfl (.c rfl .n)) ce44 (zeg (p:=pW) (n:=nL) (cap:=cW) (l:=W) (hn:=by first|rfl|assumption|omega|exact hok.d _ om|exact hok.w _ om) (hall:=by exact fun k hk=>hok.w k hk)) (.c (j:=1) rfl .n)<|e_p (zb rfl)<|zf<|zc<|zaa rfl rfl<|zx<|zQ<|zc<|ze<|za<|zva rfl rfl (zH (enc:=fun z:Int=>[.int .i64 z]) (ok:=InK .i64) (h1:=fun _=>rfl) (h2:=fun _=>rfl) (k:=3) yd inf3 rfl dd dd dd (.c (x:=0) rfl rfl (fun _ _=>by exact zga.2 om) (.c (x:=0) rfl rfl (fun _ _=>by exact zga.2 om) (.c (x:=0) rfl rfl (fun _ _=>by exact zga.2 om) .n)))) (fun b3 _=> ?_)
 refine zva rfl rfl (zH (enc:=fun z:Int=>[.int .i64 z]) (ok:=InK .i64) (h1:=fun _=>rfl) (h2:=fun _=>rfl) (k:=3) yd inf3 rfl dd dd dd (.c (x:=0) rfl rfl (fun _ _=>by exact zga.2 om) (.c (x:=0) rfl rfl (fun _ _=>by exact zga.2 om) (.c (x:=0) rfl rfl (fun _ _=>by exact zga.2 om) .n)))) (fun b4 _=> ?_)
 refine zva rfl rfl (zH (enc:=fun z:Int=>[.int .i64 z]) (ok:=InK .i64) (h1:=fun _=>rfl) (h2:=fun _=>rfl) (k:=3) yd inf3 rfl dd dd dd (.c (x:=0) rfl rfl (fun _ _=>by exact zga.2 om) (.c (x:=0) rfl rfl (fun _ _=>by exact zga.2 om) (.c (x:=0) rfl rfl (fun _ _=>by exact zga.2 om) .n)))) (fun b5 _=> ?_)
 refine zea 0 rfl .z<|zea 1 rfl (.s .z)<|zea 2 rfl (.s (.s .z))<|zva rfl rfl (zGa (r:=rS (rI .i64)) (k:=3) yl inf46 rfl dd dd dd (.c (x:=[0,0,0]) (cs:=[.slice (some ⟨b3,0,none⟩) 3 3]) (some ⟨b3,0,none⟩,3) rfl rfl rfl (fun g hr=>Holds.get 0 rfl hr) (.c (x:=[0,0,0]) (cs:=[.slice (some ⟨b4,0,none⟩) 3 3]) (some ⟨b4,0,none⟩,3) rfl rfl rfl (fun g hr=>Holds.get 1 rfl hr) (.c (x:=[0,0,0]) (cs:=[.slice (some ⟨b5,0,none⟩) 3 3]) (some ⟨b5,0,none⟩,3) rfl rfl rfl (fun g hr=>Holds.get 2 rfl hr) .n)))) (fun b6 _=> ?_)
 refine zea 0 rfl .z<|zq rfl rfl (.c rfl .n) ce51 (zxg (pL:=some ⟨b6,0,none⟩) (nL:=3) (cL:=3) (LL:=[([0,0,0]),([0,0,0]),([0,0,0])]) (N:=3) (hnL:=by exact rfl) (hL1:=dd) (hU:=dd) (hK:=dd) (hL0:=by exact rfl) (hN:=dd)) (.c (j:=0) rfl .n) ?_
 rintro ⟨p37,c38,hs9⟩ hlen
 dsimp only [aq,nq,cq]
 replace hlen:hs9.length=3:=hlen
 refine e_mv rfl<|e_p (zm rfl rfl)<|e_p (zm rfl rfl)<|e_p (zb rfl)<|e_p (zb rfl)<|zf<|zc<|ze ?_
 have e10:(Mx.mk 3 3 (fun ii jj=>Mx.eI [[0,0,0],[0,0,0],[0,0,0]] ii jj))=(Td.nM l W 0 0):=by exact Td.nM_0
 rw [e10]
 refine za<|zq rfl rfl (.c rfl .n) ce52 (zHa (z:=0) (hz:=by first|rfl|assumption|omega|exact hok.d _ om|exact hok.w _ om)) (.n) ?_
 rintro ⟨w311,w412⟩ -
 dsimp only [aq,nq,cq]
 refine zq rfl rfl (.c rfl .n) ce52 (zHa (z:=0) (hz:=by first|rfl|assumption|omega|exact hok.d _ om|exact hok.w _ om)) (.n) ?_
 rintro ⟨w313,w414⟩ -
 dsimp only [aq,nq,cq]
 refine zq rfl rfl (.c rfl .n) ce52 (zHa (z:=0) (hz:=by first|rfl|assumption|omega|exact hok.d _ om|exact hok.w _ om)) (.n) ?_
 rintro ⟨w315,w416⟩ -
 dsimp only [aq,nq,cq]
 refine e_p (zVa zr38 rfl ye sz32 (.c rfl (.c rfl (.c rfl .n))) (.c rfl rfl rfl (.t4 .nil) (.c rfl rfl rfl (.s4 (.t4 .nil)) (.c rfl rfl rfl (.s8 (.t4 .nil)) .n))))<|zD rfl rfl (zo zr38 rfl) (fun b17=> ?_)
 refine zk 0 rfl rfl rfl rfl rfl sz38 rfl (.t8 (.t4 .nil)) .z<|zf<|zc<|ze<|ze<|zOd (fun w mm=>mm.boxQ3 0 2 1 0 rfl rfl rfl rfl) ?_
 dsimp only [List.set]
 have e18:([((0:Int):Rat),((0:Int):Rat),((0:Int):Rat)]:List Rat)=(Td.rR l W 0 0):=by exact Td.rR_0
 rw [e18]
 refine za<|e_mv rfl<|e_p (zG yh rfl)<|e_mv rfl<|zf<|zc<|zw<|zha (X:=Nat) (fun x:Nat=>x≤nL) (fun x=>[(69,.int .i64 ((x:Nat):Int)),(68,.int .i64 ((nL:Nat):Int)),(67,.slice p nL cap),(10,.pointer (some ⟨b17,0,none⟩)),(8,.slice p37 3 c38),(6,.int .i64 0),(5,.pointer (some ⟨b2,0,none⟩)),(4,.pointer (some ⟨b1,0,none⟩)),(0,.slice p nL cap),(1,.slice pW nL cW)]) (fun x=>[rowA 38 rQ (some ⟨b17,0,none⟩) 3 (Td.rR l W x 0),rowA 62 rV p37 c38 (oh hs9 3),rowsM 32 rQ hs9 (Td.nM l W x 0),boxA b2 32 (cw [wz,wz]),boxA b1 38 (cw [wz,wz,wz,wz,wz,wz])]) (fun x=>[slF rRy p cap l,slF (rI .i64) pW cW W]) (fun x:Nat=>nL - x) 0 (show 0≤nL from by exact Nat.zero_le _) ((.e rfl cgs (.of rfl)):SubM _ _) (ho:=((.c (i:=0) rfl (.c (i:=0) rfl (.e (i:=0) rfl (by rfl) (.of [4,4] rfl)))):PickO _ _ _)) ((.of [7,8] rfl):SelR _ _ _) ?_
 rintro k hI
 replace hI:k≤nL:=hI
 try dsimp only [cw]
 refine ze<|za<|e_p (zV rfl rfl)<|zf<|zc<|ze<|zI rfl (fun h19=> ?_) (fun h19=> ?_)
 ·
  refine zx<|zc<|ze<|zw<|ze<|za<|e_mv rfl<|r_vl rfl rfl (zfa (x0:=(l.getD k (⟨0,0,0,0,0,0⟩:Td.Ry))) 0 k rfl yh sz40 rfl (by first|rfl|assumption|omega|exact Td.rR_len _ _|(rw [oh_len];exact hlen)|(show _<3;omega)) rfl rfl (gD (d:=(⟨0,0,0,0,0,0⟩:Td.Ry)) om)) ?_
  rintro ⟨b20,o21,w22,w23,w24,w25,w26,w27,w28,w29,w30,w31,w33,w34⟩ -
  dsimp only [aq,nq,cq]
  refine zLb open_rRy<|e_ru (zU (j:=0) 0 ty40 rfl rfl rfl (.t8 (.t8 (.t8 .nil))))<|zD rfl rfl (zo zr40 rfl) (fun b35=> ?_)
  refine e_p (zb rfl)<|zk 0 rfl rfl rfl rfl rfl sz40 rfl (.t8 (.t8 (.t8 .nil))) .z<|zf<|zc<|ze ?_
  obtain ⟨ry,hry⟩:∃z:Td.Ry,z=(l.getD k (⟨0,0,0,0,0,0⟩:Td.Ry)):=⟨_,rfl⟩
  rw [← hry]
  have hgr:ry=Td.gr l k:=hry
  obtain ⟨⟨hs0,hs1,hs2⟩,hs3,hs4,hs5⟩:Td.sml ry:=by rw [hgr];exact hok.b k om
  have hd:ry.a2≠0:=by rw [hgr];exact hok.d k om
  have hwq:=Td.w_hq (hok.w k om)
  have hlq:=Td.lg_hq hs3 hs4 hs5
  have hln:=Td.lg_ne hd
  refine zFa 0 rfl .z<|zfd (slF rQ (some ⟨b35,12,none⟩) 3 [ry.a0,ry.a1,ry.a2]) (fun g h=>sl3_at 0 5 6 7 rfl rfl rfl rfl rfl g h)<|zfd (slF rQ (some ⟨b35,0,none⟩) 3 [ry.o0,ry.o1,ry.o2]) (fun g h=>sl3_at 1 3 4 5 rfl rfl rfl rfl rfl g h)<|za<|e_mv rfl<|e_mv rfl<|zZ (x0:=(W.getD k 0)) 11 k rfl yd sz3 rfl rfl rfl (by first|rfl|assumption|omega|exact Td.rR_len _ _|(rw [oh_len];exact hlen)|(show _<3;omega)) rfl rfl (gD (d:=0) om) (fun b36 o37 hok38=> ?_)
  replace hok38:=zga.1 hok38
  refine e_ru (zi (j:=0) 0 ty3 rfl rfl rfl rfl)<|zq rfl rfl (.c rfl .n) ce52 (zHa (z:=(W.getD k 0)) (hz:=by first|rfl|assumption|omega|exact hok.d _ om|exact hok.w _ om)) (.n) ?_
  rintro ⟨w339,w440⟩ -
  dsimp only [aq,nq,cq]
  refine zD rfl rfl (zo zr32 rfl) (fun b41=> ?_)
  refine zk 0 rfl rfl rfl rfl rfl sz32 rfl (.t4 .nil) .z<|zf<|zc<|ze<|za<|e_p (zh yj rfl sz38 rfl rfl)<|e_ru (zU (j:=12) 4 ty38 rfl rfl rfl (.s8 (.s4 (.t8 (.t4 .nil)))))<|e_p (zh yj rfl sz38 rfl rfl)<|e_ru (zU (j:=12) 4 ty38 rfl rfl rfl (.s8 (.s4 (.t8 (.t4 .nil)))))<|zq rfl rfl (.c rfl (.c rfl .n)) ce53 (zGb (d1:=w28) (d2:=w29) (d3:=w30) (d4:=w31) (d5:=w33) (d6:=w34) (d7:=w28) (d8:=w29) (d9:=w30) (d10:=w31) (d11:=w33) (d12:=w34) (xa:=ry.a0) (xb:=ry.a1) (xc:=ry.a2) (ya:=ry.a0) (yb:=ry.a1) (yc:=ry.a2) (hbxa:=by first|rfl|assumption|omega|exact hok.d _ om|exact hok.w _ om) (hbxb:=by first|rfl|assumption|omega|exact hok.d _ om|exact hok.w _ om) (hbxc:=by first|rfl|assumption|omega|exact hok.d _ om|exact hok.w _ om) (hbya:=by first|rfl|assumption|omega|exact hok.d _ om|exact hok.w _ om) (hbyb:=by first|rfl|assumption|omega|exact hok.d _ om|exact hok.w _ om) (hbyc:=by first|rfl|assumption|omega|exact hok.d _ om|exact hok.w _ om)) (.c (j:=9) rfl (.c (j:=10) rfl (.c (j:=11) rfl (.c (j:=9) rfl (.c (j:=10) rfl (.c (j:=11) rfl .n)))))) ?_
  rintro ⟨w342,w443⟩ -
  dsimp only [aq,nq,cq]
  refine zD rfl rfl (zo zr32 rfl) (fun b44=> ?_)
  refine zk 0 rfl rfl rfl rfl rfl sz32 rfl (.t4 .nil) .z<|zf<|zc<|ze ?_
  have e45:(Td.dot ry.a0 ry.a1 ry.a2 ry.a0 ry.a1 ry.a2:Rat)=ry.lg:=by rfl
  rw [e45]
  have hai:=Td.b3 hs3 hs4 hs5 (Nat.le_refl _)
  refine za<|e_mv rfl<|zf<|zc<|zw<|zha (X:=Nat) (fun x:Nat=>x≤3) (fun x=>[(84,.int .i64 ((x:Nat):Int)),(14,.pointer (some ⟨b44,0,none⟩)),(13,.pointer (some ⟨b41,0,none⟩)),(12,.pointer (some ⟨b35,0,none⟩)),(69,.int .i64 ((k:Nat):Int)),(68,.int .i64 ((nL:Nat):Int)),(67,.slice p nL cap),(10,.pointer (some ⟨b17,0,none⟩)),(8,.slice p37 3 c38),(6,.int .i64 0),(5,.pointer (some ⟨b2,0,none⟩)),(4,.pointer (some ⟨b1,0,none⟩)),(0,.slice p nL cap),(1,.slice pW nL cW)]) (fun x=>[boxA b44 32 (cw [w342,w443]),boxA b41 32 (cw [w339,w440]),rowA 38 rQ (some ⟨b17,0,none⟩) 3 (Td.rR l W k (3*x)),rowA 62 rV p37 c38 (oh hs9 3),rowsM 32 rQ hs9 (Td.nM l W k (3*x)),boxA b2 32 (cw [wz,wz]),boxA b1 38 (cw [wz,wz,wz,wz,wz,wz])]) (fun x=>[qF true w342 w443 (ry.lg),qF true w339 w440 (((W.getD k 0):Int):Rat),slF rQ (some ⟨b35,0,none⟩) 3 ([ry.o0,ry.o1,ry.o2]),slF rQ (some ⟨b35,12,none⟩) 3 ([ry.a0,ry.a1,ry.a2]),atF b35 0 [w22.b,w22.l,w23.b,w23.l,w24.b,w24.l,w25.b,w25.l,w26.b,w26.l,w27.b,w27.l,w28.b,w28.l,w29.b,w29.l,w30.b,w30.l,w31.b,w31.l,w33.b,w33.l,w34.b,w34.l],qF true w22 w23 (ry.o0),qF true w24 w25 (ry.o1),qF true w26 w27 (ry.o2),qF true w28 w29 (ry.a0),qF true w30 w31 (ry.a1),qF true w33 w34 (ry.a2),slF rRy p cap l,slF (rI .i64) pW cW W]) (fun x:Nat=>3 - x) 0 (show 0≤3 from by exact Nat.zero_le _) ((.e rfl cgs (.of rfl)):SubM _ _) (ho:=((.c (i:=0) rfl (.c (i:=0) rfl (.e (i:=1) rfl (by rfl) (.c (i:=1) rfl (.e (i:=1) rfl (by rfl) (.of [1,1] rfl)))))):PickO _ _ _)) ((.of [0,1,3,4,5,7,8,9,10,11,12,13,14] rfl):SelR _ _ _) ?_
  rintro i hIi
  replace hIi:i≤3:=hIi
  try dsimp only [cw]
  refine ze<|za<|e_p (zV rfl rfl)<|zf<|zc<|ze<|zI rfl (fun h46=> ?_) (fun h46=> ?_)
  ·
   refine zx<|zc<|ze<|zw<|ze<|za<|e_mv rfl<|e_p (zb rfl)<|zf<|zc<|ze<|za<|e_mv rfl<|zf<|zc<|zw<|zha (X:=Nat) (fun x:Nat=>x≤3) (fun x=>[(87,.int .i64 ((x:Nat):Int)),(15,.int .i64 ((i:Nat):Int)),(84,.int .i64 ((i:Nat):Int)),(14,.pointer (some ⟨b44,0,none⟩)),(13,.pointer (some ⟨b41,0,none⟩)),(12,.pointer (some ⟨b35,0,none⟩)),(69,.int .i64 ((k:Nat):Int)),(68,.int .i64 ((nL:Nat):Int)),(67,.slice p nL cap),(10,.pointer (some ⟨b17,0,none⟩)),(8,.slice p37 3 c38),(6,.int .i64 0),(5,.pointer (some ⟨b2,0,none⟩)),(4,.pointer (some ⟨b1,0,none⟩)),(0,.slice p nL cap),(1,.slice pW nL cW)]) (fun x=>[boxA b44 32 (cw [w342,w443]),boxA b41 32 (cw [w339,w440]),rowA 38 rQ (some ⟨b17,0,none⟩) 3 (Td.rR l W k (3*i+x)),rowA 62 rV p37 c38 (oh hs9 3),rowsM 32 rQ hs9 (Td.nM l W k (3*i+x)),boxA b2 32 (cw [wz,wz]),boxA b1 38 (cw [wz,wz,wz,wz,wz,wz])]) (fun x=>[qF true w342 w443 (ry.lg),qF true w339 w440 (((W.getD k 0):Int):Rat),slF rQ (some ⟨b35,0,none⟩) 3 ([ry.o0,ry.o1,ry.o2]),slF rQ (some ⟨b35,12,none⟩) 3 ([ry.a0,ry.a1,ry.a2]),atF b35 0 [w22.b,w22.l,w23.b,w23.l,w24.b,w24.l,w25.b,w25.l,w26.b,w26.l,w27.b,w27.l,w28.b,w28.l,w29.b,w29.l,w30.b,w30.l,w31.b,w31.l,w33.b,w33.l,w34.b,w34.l],qF true w22 w23 (ry.o0),qF true w24 w25 (ry.o1),qF true w26 w27 (ry.o2),qF true w28 w29 (ry.a0),qF true w30 w31 (ry.a1),qF true w33 w34 (ry.a2),slF rRy p cap l,slF (rI .i64) pW cW W]) (fun x:Nat=>3 - x) 0 (show 0≤3 from by exact Nat.zero_le _) ((.e rfl cgs (.of rfl)):SubM _ _) (ho:=((.c (i:=0) rfl (.c (i:=0) rfl (.e (i:=0) rfl (by rfl) (.c (i:=0) rfl (.e (i:=0) rfl (by rfl) (.of [0,0] rfl)))))):PickO _ _ _)) ((.of [0,1,2,3,4,5,6,7,8,9,10,11,12] rfl):SelR _ _ _) ?_
   rintro j hIj
   replace hIj:j≤3:=hIj
   try dsimp only [cw]
   refine ze<|za<|e_p (zV rfl rfl)<|zf<|zc<|ze<|zI rfl (fun h47=> ?_) (fun h47=> ?_)
   ·
    refine zx<|zc<|ze<|zw<|ze<|za<|e_mv rfl<|e_p (zb rfl)<|zf<|zc<|ze ?_
    have hai1:=hai i
    have hai2:=hai j
    have ham:=yq ([ry.a0,ry.a1,ry.a2].getD i 0) ([ry.a0,ry.a1,ry.a2].getD j 0)
    have had:=Big.hq_div ([ry.a0,ry.a1,ry.a2].getD i 0*[ry.a0,ry.a1,ry.a2].getD j 0) hln
    have han:=Big.hq_neg ([ry.a0,ry.a1,ry.a2].getD i 0*[ry.a0,ry.a1,ry.a2].getD j 0 / ry.lg)
    have h1q:yk ((1:Int):Rat)=1:=Big.hq_one
    have hzq:=Td.zz_hq hs3 hs4 hs5 hd i j
    refine zW (OW:=[]) (O:=[boxA b44 32 (cw [w342,w443]),boxA b41 32 (cw [w339,w440]),rowA 38 rQ (some ⟨b17,0,none⟩) 3 (Td.rR l W k (3*i+j)),rowA 62 rV p37 c38 (oh hs9 3),rowsM 32 rQ hs9 (Td.nM l W k (3*i+j)),boxA b2 32 (cw [wz,wz]),boxA b1 38 (cw [wz,wz,wz,wz,wz,wz])]) 13 mixed (.then (.block (.then (.then (.block (.block (.then (.then (.block (.block (.then (.then (.block (.then .ret)))))))))))))) kr<|e_dm 0 rfl rfl rfl<|e_pv 1 rfl rfl (zh yj rfl sz38 rfl rfl)<|d_vl 2 rfl rfl kr kr rfl rfl (zMb (x0:=(([ry.a0,ry.a1,ry.a2]).getD i (0:Rat))) (j:=i) 3 rfl ye sz32 rfl rfl rfl om (gD (d:=(0:Rat)) (by first|rfl|assumption|omega|exact Td.rR_len _ _|(rw [oh_len];exact hlen)|(show _<3;omega)))) ?_
    rintro ⟨b50,o51,w48,w49⟩ -
    dsimp only [aq,nq,cq]
    refine zxb open_rQ<|e_u 3 rfl rfl (zU (j:=0) 0 ty32 rfl rfl rfl (.t4 .nil))<|e_dm 4 rfl rfl rfl<|e_pv 5 rfl rfl (zh yj rfl sz38 rfl rfl)<|d_vl 6 rfl rfl kr kr rfl rfl (zMb (x0:=(([ry.a0,ry.a1,ry.a2]).getD j (0:Rat))) (j:=j) 5 rfl ye sz32 rfl rfl rfl om (gD (d:=(0:Rat)) (by first|rfl|assumption|omega|exact Td.rR_len _ _|(rw [oh_len];exact hlen)|(show _<3;omega)))) ?_
    rintro ⟨b54,o55,w52,w53⟩ -
    dsimp only [aq,nq,cq]
    refine zxb open_rQ<|e_u 7 rfl rfl (zU (j:=0) 0 ty32 rfl rfl rfl (.t4 .nil))<|e_u 9 rfl rfl (zd 0 ty32 rfl rfl (.t4 .nil))<|zya (m':=[(99,.agg (cw [w342,w443]).toArray),(97,.agg (cw [w52,w53]).toArray),(93,.agg (cw [w48,w49]).toArray),(16,.int .i64 ((j:Nat):Int)),(87,.int .i64 ((j:Nat):Int)),(15,.int .i64 ((i:Nat):Int)),(84,.int .i64 ((i:Nat):Int)),(14,.pointer (some ⟨b44,0,none⟩)),(13,.pointer (some ⟨b41,0,none⟩)),(12,.pointer (some ⟨b35,0,none⟩)),(69,.int .i64 ((k:Nat):Int)),(68,.int .i64 ((nL:Nat):Int)),(67,.slice p nL cap),(10,.pointer (some ⟨b17,0,none⟩)),(8,.slice p37 3 c38),(6,.int .i64 0),(5,.pointer (some ⟨b2,0,none⟩)),(4,.pointer (some ⟨b1,0,none⟩)),(0,.slice p nL cap),(1,.slice pW nL cW)]) (R':=[qF true w52 w53 (([ry.a0,ry.a1,ry.a2]).getD j (0:Rat)),qF true w48 w49 (([ry.a0,ry.a1,ry.a2]).getD i (0:Rat)),qF true w342 w443 (ry.lg),qF true w339 w440 (((W.getD k 0):Int):Rat),slF rQ (some ⟨b35,0,none⟩) 3 ([ry.o0,ry.o1,ry.o2]),slF rQ (some ⟨b35,12,none⟩) 3 ([ry.a0,ry.a1,ry.a2]),atF b35 0 [w22.b,w22.l,w23.b,w23.l,w24.b,w24.l,w25.b,w25.l,w26.b,w26.l,w27.b,w27.l,w28.b,w28.l,w29.b,w29.l,w30.b,w30.l,w31.b,w31.l,w33.b,w33.l,w34.b,w34.l],qF true w22 w23 (ry.o0),qF true w24 w25 (ry.o1),qF true w26 w27 (ry.o2),qF true w28 w29 (ry.a0),qF true w30 w31 (ry.a1),qF true w33 w34 (ry.a2),slF rRy p cap l,slF (rI .i64) pW cW W]) (mR rfl) (List.Perm.refl _) (List.Perm.refl _) ((.of [1,3,4,5,6,7,8,9,10,11,12,13,14,15,16] rfl):SelR _ _ _)<|a_start<|a_step 8 rfl (X:=Wd×Wd) (fun x=> .agg #[x.1.b,x.1.l,x.2.b,x.2.l]) (fun x=>[]) (fun x=>[qF true x.1 x.2 ((([ry.a0,ry.a1,ry.a2]).getD i (0:Rat))*(([ry.a0,ry.a1,ry.a2]).getD j (0:Rat)))]) [] kr rfl kr kr kr (fun _=> ?_) ?_
    ·
     refine zya (m':=[(97,.agg (cw [w52,w53]).toArray),(93,.agg (cw [w48,w49]).toArray)]) (R':=[qF true w52 w53 (([ry.a0,ry.a1,ry.a2]).getD j (0:Rat)),qF true w48 w49 (([ry.a0,ry.a1,ry.a2]).getD i (0:Rat))]) ((.c rfl (.c rfl .n)):SubM _ _) (List.Perm.refl _) (List.Perm.refl _) ((.of [0,1] rfl):SelR _ _ _)<|e_one 0 (zv rfl rfl rfl rfl (.c rfl (.c rfl .n)) ce56 (zrb (k1:=true) (u1:=w48) (v1:=w49) (q1:=(([ry.a0,ry.a1,ry.a2]).getD i (0:Rat))) (k2:=true) (u2:=w52) (v2:=w53) (q2:=(([ry.a0,ry.a1,ry.a2]).getD j (0:Rat))) (hl:=by first|rfl|assumption|omega|exact hok.d _ om|exact hok.w _ om)) (.c (j:=1) rfl (.c (j:=0) rfl .n)) ?_)
     rintro ⟨u8_1,u8_2⟩ -
     dsimp only [aq,nq,cq]
     refine zN kr ?_
     exact zka (u8_1,u8_2) trivial ((.c rfl .n):SubM _ _) (ho:=oN) (s0 rfl)
    refine a_step 10 rfl (X:=Wd×Wd) (fun x=> .agg #[x.1.b,x.1.l,x.2.b,x.2.l]) (fun x=>[]) (fun x=>[qF true x.1 x.2 (((([ry.a0,ry.a1,ry.a2]).getD i (0:Rat))*(([ry.a0,ry.a1,ry.a2]).getD j (0:Rat))) / (ry.lg))]) [0] kr rfl kr kr kr (fun _=> ?_) ?_
    ·
     rintro ⟨g8_0,g8_1⟩
     refine zya (m':=[(98,.agg (cw [g8_0,g8_1]).toArray),(99,.agg (cw [w342,w443]).toArray)]) (R':=[qF true g8_0 g8_1 ((([ry.a0,ry.a1,ry.a2]).getD i (0:Rat))*(([ry.a0,ry.a1,ry.a2]).getD j (0:Rat))),qF true w342 w443 (ry.lg)]) ((.c rfl (.c rfl .n)):SubM _ _) (List.Perm.refl _) (List.Perm.refl _) ((.of [0,3] rfl):SelR _ _ _)<|e_one 0 (zv rfl rfl rfl rfl (.c rfl (.c rfl .n)) ce55 (zhe (u1:=g8_0) (v1:=g8_1) (q1:=(([ry.a0,ry.a1,ry.a2]).getD i (0:Rat))*(([ry.a0,ry.a1,ry.a2]).getD j (0:Rat))) (u2:=w342) (v2:=w443) (q2:=(ry.lg)) (hl:=by first|rfl|assumption|omega|exact hok.d _ om|exact hok.w _ om) (h0:=by first|rfl|assumption|omega|exact hok.d _ om|exact hok.w _ om)) (.c (j:=0) rfl (.c (j:=1) rfl .n)) ?_)
     rintro ⟨u10_1,u10_2⟩ -
     dsimp only [aq,nq,cq]
     refine zN kr ?_
     exact zka (u10_1,u10_2) trivial ((.c rfl .n):SubM _ _) (ho:=oN) (s0 rfl)
    refine a_step 11 rfl (X:=Wd×Wd) (fun x=> .agg #[x.1.b,x.1.l,x.2.b,x.2.l]) (fun x=>[]) (fun x=>[qF true x.1 x.2 (- (((([ry.a0,ry.a1,ry.a2]).getD i (0:Rat))*(([ry.a0,ry.a1,ry.a2]).getD j (0:Rat))) / (ry.lg)))]) [0] kr rfl kr kr kr (fun _=> ?_) ?_
    ·
     rintro ⟨g10_0,g10_1⟩
     refine zya (m':=[(100,.agg (cw [g10_0,g10_1]).toArray)]) (R':=[qF true g10_0 g10_1 (((([ry.a0,ry.a1,ry.a2]).getD i (0:Rat))*(([ry.a0,ry.a1,ry.a2]).getD j (0:Rat))) / (ry.lg))]) ((.c rfl .n):SubM _ _) (List.Perm.refl _) (List.Perm.refl _) (s0 rfl)<|e_one 0 (zv rfl rfl rfl rfl (.c rfl .n) ce54 (zLe (k1:=true) (u1:=g10_0) (v1:=g10_1) (q1:=(((([ry.a0,ry.a1,ry.a2]).getD i (0:Rat))*(([ry.a0,ry.a1,ry.a2]).getD j (0:Rat))) / (ry.lg))) (hl:=by first|rfl|assumption|omega|exact hok.d _ om|exact hok.w _ om)) (.c (j:=0) rfl .n) ?_)
     rintro ⟨u11_1,u11_2⟩ -
     dsimp only [aq,nq,cq]
     refine zN kr ?_
     exact zka (u11_1,u11_2) trivial ((.c rfl .n):SubM _ _) (ho:=oN) (s0 rfl)
    refine a_step 12 rfl (X:=Nat) (fun x=> .pointer (some ⟨x,0,none⟩)) (fun x=>[boxA x 32 [.bool false,.slice none 0 0,.bool false,.slice none 0 0]]) (fun x=>[]) [] kr rfl kr kr kr (fun _=> ?_) ?_
    ·
     refine zya (m':=[]) (R':=[]) (.n:SubM _ _) (List.Perm.refl _) (List.Perm.refl _) sN<|e_one 0 (zwb rfl rfl rfl rfl (zo zr32 rfl) (fun u12_1 _=> ?_))
     refine zN kr ?_
     exact zka u12_1 trivial ((.c rfl .n):SubM _ _) (ho:=(o0 rfl)) sN
    refine a_fin (k':=1) (L':=(lb 14 8191)) kr kr kr kr kr kr kr ?_
    rintro g12_0 ⟨g11_0,g11_1⟩ _ _
    refine zya (m':=[(17,.pointer (some ⟨g12_0,0,none⟩)),(101,.agg (cw [g11_0,g11_1]).toArray),(99,.agg (cw [w342,w443]).toArray),(97,.agg (cw [w52,w53]).toArray),(93,.agg (cw [w48,w49]).toArray),(16,.int .i64 ((j:Nat):Int)),(87,.int .i64 ((j:Nat):Int)),(15,.int .i64 ((i:Nat):Int)),(84,.int .i64 ((i:Nat):Int)),(14,.pointer (some ⟨b44,0,none⟩)),(13,.pointer (some ⟨b41,0,none⟩)),(12,.pointer (some ⟨b35,0,none⟩)),(69,.int .i64 ((k:Nat):Int)),(68,.int .i64 ((nL:Nat):Int)),(67,.slice p nL cap),(10,.pointer (some ⟨b17,0,none⟩)),(8,.slice p37 3 c38),(6,.int .i64 0),(5,.pointer (some ⟨b2,0,none⟩)),(4,.pointer (some ⟨b1,0,none⟩)),(0,.slice p nL cap),(1,.slice pW nL cW)]) (OW':=[boxA g12_0 32 (cw [wz,wz])]) (R':=[qF true g11_0 g11_1 (- (((([ry.a0,ry.a1,ry.a2]).getD i (0:Rat))*(([ry.a0,ry.a1,ry.a2]).getD j (0:Rat))) / (ry.lg))),qF true w52 w53 (([ry.a0,ry.a1,ry.a2]).getD j (0:Rat)),qF true w48 w49 (([ry.a0,ry.a1,ry.a2]).getD i (0:Rat)),qF true w342 w443 (ry.lg),qF true w339 w440 (((W.getD k 0):Int):Rat),slF rQ (some ⟨b35,0,none⟩) 3 ([ry.o0,ry.o1,ry.o2]),slF rQ (some ⟨b35,12,none⟩) 3 ([ry.a0,ry.a1,ry.a2]),atF b35 0 [w22.b,w22.l,w23.b,w23.l,w24.b,w24.l,w25.b,w25.l,w26.b,w26.l,w27.b,w27.l,w28.b,w28.l,w29.b,w29.l,w30.b,w30.l,w31.b,w31.l,w33.b,w33.l,w34.b,w34.l],qF true w22 w23 (ry.o0),qF true w24 w25 (ry.o1),qF true w26 w27 (ry.o2),qF true w28 w29 (ry.a0),qF true w30 w31 (ry.a1),qF true w33 w34 (ry.a2),slF rRy p cap l,slF (rI .i64) pW cW W]) (mR rfl) (List.Perm.refl _) (List.Perm.refl _) ((.of [0,3,4,5,6,7,8,9,10,11,12,13,14,15,16,17] rfl):SelR _ _ _)<|e_one 13 (zr kr rfl rfl rfl rfl rfl sz32 rfl (.t4 .nil) ?_)
    refine zN kr<|zc<|zib (X:=Wd×Wd) (fun x=>True) (fun x=>[(17,.pointer (some ⟨g12_0,0,none⟩)),(16,.int .i64 ((j:Nat):Int)),(87,.int .i64 ((j:Nat):Int)),(15,.int .i64 ((i:Nat):Int)),(84,.int .i64 ((i:Nat):Int)),(14,.pointer (some ⟨b44,0,none⟩)),(13,.pointer (some ⟨b41,0,none⟩)),(12,.pointer (some ⟨b35,0,none⟩)),(69,.int .i64 ((k:Nat):Int)),(68,.int .i64 ((nL:Nat):Int)),(67,.slice p nL cap),(10,.pointer (some ⟨b17,0,none⟩)),(8,.slice p37 3 c38),(6,.int .i64 0),(5,.pointer (some ⟨b2,0,none⟩)),(4,.pointer (some ⟨b1,0,none⟩)),(0,.slice p nL cap),(1,.slice pW nL cW)]) (fun x=>[boxA g12_0 32 (cw [x.1,x.2]),boxA b44 32 (cw [w342,w443]),boxA b41 32 (cw [w339,w440]),rowA 38 rQ (some ⟨b17,0,none⟩) 3 (Td.rR l W k (3*i+j)),rowA 62 rV p37 c38 (oh hs9 3),rowsM 32 rQ hs9 (Td.nM l W k (3*i+j)),boxA b2 32 (cw [wz,wz]),boxA b1 38 (cw [wz,wz,wz,wz,wz,wz])]) (fun x=>[qF true x.1 x.2 (Td.zz [ry.a0,ry.a1,ry.a2] ry.lg i j),qF true g11_0 g11_1 (- (((([ry.a0,ry.a1,ry.a2]).getD i (0:Rat))*(([ry.a0,ry.a1,ry.a2]).getD j (0:Rat))) / (ry.lg))),qF true w52 w53 (([ry.a0,ry.a1,ry.a2]).getD j (0:Rat)),qF true w48 w49 (([ry.a0,ry.a1,ry.a2]).getD i (0:Rat)),qF true w342 w443 (ry.lg),qF true w339 w440 (((W.getD k 0):Int):Rat),slF rQ (some ⟨b35,0,none⟩) 3 ([ry.o0,ry.o1,ry.o2]),slF rQ (some ⟨b35,12,none⟩) 3 ([ry.a0,ry.a1,ry.a2]),atF b35 0 [w22.b,w22.l,w23.b,w23.l,w24.b,w24.l,w25.b,w25.l,w26.b,w26.l,w27.b,w27.l,w28.b,w28.l,w29.b,w29.l,w30.b,w30.l,w31.b,w31.l,w33.b,w33.l,w34.b,w34.l],qF true w22 w23 (ry.o0),qF true w24 w25 (ry.o1),qF true w26 w27 (ry.o2),qF true w28 w29 (ry.a0),qF true w30 w31 (ry.a1),qF true w33 w34 (ry.a2),slF rRy p cap l,slF (rI .i64) pW cW W]) ?_ ?_
    ·
     refine ze<|za<|e_mv rfl<|e_mv rfl<|e_p (zxa rfl rfl)<|zf<|zc<|zI rfl (fun h104=> ?_) (fun h104=> ?_)
     ·
      refine zW (OW:=[boxA g12_0 32 (cw [g11_0,g11_1])]) (O:=[boxA b44 32 (cw [w342,w443]),boxA b41 32 (cw [w339,w440]),rowA 38 rQ (some ⟨b17,0,none⟩) 3 (Td.rR l W k (3*i+j)),rowA 62 rV p37 c38 (oh hs9 3),rowsM 32 rQ hs9 (Td.nM l W k (3*i+j)),boxA b2 32 (cw [wz,wz]),boxA b1 38 (cw [wz,wz,wz,wz,wz,wz])]) 3 mixed (.then (.block (.then (.then (.block (.block (.then (.then (.block (.block (.then (.then (.block (.then .ret)))))))))))))) kr<|e_uw 0 rfl rfl (zd 0 ty32 rfl rfl (.t4 .nil))<|e_one 1 (zv rfl rfl rfl rfl (.c rfl .n) ce52 (zHa (z:=1) (hz:=by first|rfl|assumption|omega|exact hok.d _ om|exact hok.w _ om)) (.n) ?_)
      rintro ⟨w356,w457⟩ -
      dsimp only [aq,nq,cq]
      refine e_one 2 (zv rfl rfl rfl rfl (.c rfl (.c rfl .n)) ce57 (zEb (k1:=true) (u1:=g11_0) (v1:=g11_1) (q1:= - (((([ry.a0,ry.a1,ry.a2]).getD i (0:Rat))*(([ry.a0,ry.a1,ry.a2]).getD j (0:Rat))) / (ry.lg))) (k2:=true) (u2:=w356) (v2:=w457) (q2:=((1:Int):Rat)) (hl:=by first|rfl|assumption|omega|exact hok.d _ om|exact hok.w _ om)) (.c (j:=1) rfl (.c (j:=0) rfl .n)) ?_)
      rintro ⟨w358,w459⟩ -
      dsimp only [aq,nq,cq]
      refine e_one 3 (zr kr rfl rfl rfl rfl rfl sz32 rfl (.t4 .nil) ?_)
      refine zN kr ?_
      exact zka (w358,w459) tt9 (mR rfl) (ho:=((.of [0,0,0,0,0,0,0,0] rfl):PickO _ _ _)) ((.e (j:=0) rfl (by rw [Td.zz_y om]) (.of [2,3,4,5,6,7,8,9,10,11,12,13,14,15,16,17] rfl)):SelR _ _ _)
     ·
      refine zx ?_
      exact zka (g11_0,g11_1) tt9 (mR rfl) (ho:=((.of [0,0,0,0,0,0,0,0] rfl):PickO _ _ _)) ((.e (j:=0) rfl (by rw [Td.zz_n om]) (.of [0,1,2,3,4,5,6,7,8,9,10,11,12,13,14,15] rfl)):SelR _ _ _)
    ·
     rintro ⟨wc,vc⟩ -
     try dsimp only [cw]
     refine ze<|za<|e_ru (zd 2 ty32 rfl rfl (.t4 .nil))<|e_ru (zd 0 ty32 rfl rfl (.t4 .nil))<|zq rfl rfl (.c rfl (.c rfl .n)) ce56 (zrb (k1:=true) (u1:=w339) (v1:=w440) (q1:=(((W.getD k 0):Int):Rat)) (k2:=true) (u2:=wc) (v2:=vc) (q2:=(Td.zz [ry.a0,ry.a1,ry.a2] ry.lg i j)) (hl:=by first|rfl|assumption|omega|exact hok.d _ om|exact hok.w _ om)) (.c (j:=5) rfl (.c (j:=0) rfl .n)) ?_
     rintro ⟨w360,w461⟩ -
     dsimp only [aq,nq,cq]
     refine zk 0 rfl rfl rfl rfl rfl sz32 rfl (.t4 .nil) .z<|zf<|zc<|ze ?_
     obtain ⟨xv,hxv⟩:∃z:Rat,z=(((W.getD k 0):Int):Rat)*(Td.zz [ry.a0,ry.a1,ry.a2] ry.lg i j):=⟨_,rfl⟩
     rw [← hxv]
     have hxv2:xv=Td.xx l W k i j:=by rw [hxv,hgr];rfl
     have hxq:yk xv≤15:=by rw [hxv2];exact hok.xx om i j
     refine zoa (.c (i:=5) rfl (.c (i:=0) rfl (.c (i:=0) rfl (.c (i:=0) rfl (.c (i:=0) rfl (.c (i:=0) rfl (.c (i:=0) rfl (.c (i:=0) rfl .n))))))))<|zW (OW:=[rowsM 32 rQ hs9 (Td.nM l W k (3*i+j))]) (O:=[boxA g12_0 32 (cw [w360,w461]),boxA b44 32 (cw [w342,w443]),boxA b41 32 (cw [w339,w440]),rowA 38 rQ (some ⟨b17,0,none⟩) 3 (Td.rR l W k (3*i+j)),rowA 62 rV p37 c38 (oh hs9 3),boxA b2 32 (cw [wz,wz]),boxA b1 38 (cw [wz,wz,wz,wz,wz,wz])]) 15 mixed (.then (.block (.then (.then (.block (.block (.then (.then (.block (.block (.then (.then (.block (.then .ret)))))))))))))) kr<|e_dm 0 rfl rfl rfl<|e_dm 1 rfl rfl rfl<|e_uw 2 rfl rfl (zY 5 i rfl yf sz62 rfl (by first|rfl|assumption|omega|exact Td.rR_len _ _|(rw [oh_len];exact hlen)|(show _<3;omega)) rfl rfl om)<|zvb 3 rfl rfl kr kr kr rfl rfl (zL (x0:=((rp hs9 i),3,(rc hs9 i))) (v:= .slice (rp hs9 i) 3 (rc hs9 i)) 5 i rfl ty62 rfl rfl (oh_get ((Td.nM_sm (l:=l) (W:=W) (k:=k) (s:=(3*i+j)) hlen).hk om)) rfl) (fun _ hok62=> ?_)
     refine e_dm 4 rfl rfl rfl<|e_dm 5 rfl rfl rfl<|e_dm 6 rfl rfl rfl<|e_uw 7 rfl rfl (zY 5 i rfl yf sz62 rfl (by first|rfl|assumption|omega|exact Td.rR_len _ _|(rw [oh_len];exact hlen)|(show _<3;omega)) rfl rfl om)<|zvb 8 rfl rfl kr kr kr rfl rfl (zL (x0:=((rp hs9 i),3,(rc hs9 i))) (v:= .slice (rp hs9 i) 3 (rc hs9 i)) 5 i rfl ty62 rfl rfl (oh_get ((Td.nM_sm (l:=l) (W:=W) (k:=k) (s:=(3*i+j)) hlen).hk om)) rfl) (fun _ hok63=> ?_)
     refine e_dm 9 rfl rfl rfl<|e_uw 10 rfl rfl (zwa 0 i j rfl ((Td.nM_sm (l:=l) (W:=W) (k:=k) (s:=(3*i+j)) hlen).hk om) ((Td.nM_sm (l:=l) (W:=W) (k:=k) (s:=(3*i+j)) hlen).mk' om) ((Td.nM_sm (l:=l) (W:=W) (k:=k) (s:=(3*i+j)) hlen).row om) yg sz32 rfl rfl rfl om) ?_
     have hne:yk (Mx.e (Td.nM l W k (3*i+j)) i j)≤60:=by rw [Td.nM_e om om];exact hok.ne (.inl om) i j
     refine zvb 11 rfl rfl kr kr kr rfl rfl (zRa (x0:=(Mx.e (Td.nM l W k (3*i+j)) i j)) 0 i j rfl ((Td.nM_sm (l:=l) (W:=W) (k:=k) (s:=(3*i+j)) hlen).hk om) ((Td.nM_sm (l:=l) (W:=W) (k:=k) (s:=(3*i+j)) hlen).mk' om) ty32 rfl rfl (gD (d:=(0:Rat)) (by rw [(Td.nM_sm (l:=l) (W:=W) (k:=k) (s:=(3*i+j)) hlen).row om];omega))) ?_
     rintro ⟨w65,w66⟩ -
     dsimp only [aq,nq,cq]
     refine zxb open1_rQ<|e_uw 12 rfl rfl (zd 1 ty32 rfl rfl (.t4 .nil))<|e_one 13 (zv rfl rfl rfl rfl (.c rfl (.c rfl .n)) ce57 (zEb (k1:=true) (u1:=w65) (v1:=w66) (q1:=(Mx.e (Td.nM l W k (3*i+j)) i j)) (k2:=true) (u2:=w360) (v2:=w461) (q2:=xv) (hl:=by first|rfl|assumption|omega|exact hok.d _ om|exact hok.w _ om)) (.c (j:=0) rfl (.c (j:=1) rfl .n)) ?_)
     rintro ⟨w367,w468⟩ -
     dsimp only [aq,nq,cq]
     refine e_uw 14 rfl rfl (zwa 0 i j rfl ((Td.nM_sm (l:=l) (W:=W) (k:=k) (s:=(3*i+j)) hlen).hk om) ((Td.nM_sm (l:=l) (W:=W) (k:=k) (s:=(3*i+j)) hlen).mk' om) ((Td.nM_sm (l:=l) (W:=W) (k:=k) (s:=(3*i+j)) hlen).row om) yg sz32 rfl rfl rfl om)<|e_one 15 (zcc (A':=fun _=>rowsM 32 rQ hs9 ((Td.nM l W k (3*i+j)).set i (((Td.nM l W k (3*i+j)).getD i []).set j ((Mx.e (Td.nM l W k (3*i+j)) i j)+xv)))) kr rfl rfl rfl (zXb (r:=rQ) (k:=i) (j:=j) (x0:=((Mx.e (Td.nM l W k (3*i+j)) i j)+xv)) (γ0:=(w367,w468)) ((Td.nM_sm (l:=l) (W:=W) (k:=k) (s:=(3*i+j)) hlen).hk om) ((Td.nM_sm (l:=l) (W:=W) (k:=k) (s:=(3*i+j)) hlen).mk' om) rfl rfl (by rw [(Td.nM_sm (l:=l) (W:=W) (k:=k) (s:=(3*i+j)) hlen).row om];omega) rfl rfl sz32 (fun g hr=>Holds.get 0 rfl hr)) (fun _ _=> ?_))
     refine zN kr<|zc ?_
     have hrl:(Td.rR l W k (3*i+j)).length=3:=Td.rR_len _ _
     have hrq:yk ((Td.rR l W k (3*i+j)).getD i 0)≤200:=by rw [Td.rR_get om];exact hok.rE (.inl om) i
     have hov:[ry.o0,ry.o1,ry.o2].getD j 0=(Td.gr l k).o j:=by rw [hgr];rfl
     refine zoa (.c (i:=4) rfl (.c (i:=0) rfl (.c (i:=0) rfl (.c (i:=0) rfl (.c (i:=0) rfl (.c (i:=0) rfl (.c (i:=0) rfl (.c (i:=0) rfl .n))))))))<|zW (OW:=[rowA 38 rQ (some ⟨b17,0,none⟩) 3 (Td.rR l W k (3*i+j))]) (O:=[rowsM 32 rQ hs9 ((Td.nM l W k (3*i+j)).set i (((Td.nM l W k (3*i+j)).getD i []).set j ((Mx.e (Td.nM l W k (3*i+j)) i j)+xv))),boxA g12_0 32 (cw [w360,w461]),boxA b44 32 (cw [w342,w443]),boxA b41 32 (cw [w339,w440]),rowA 62 rV p37 c38 (oh hs9 3),boxA b2 32 (cw [wz,wz]),boxA b1 38 (cw [wz,wz,wz,wz,wz,wz])]) 12 mixed (.block (.then (.then (.block (.block (.then (.then (.block (.block (.then (.then (.block (.then .ret))))))))))))) kr<|e_dm 0 rfl rfl rfl<|e_dm 1 rfl rfl rfl<|e_pv 2 rfl rfl (zEc (j:=i) ye sz32 rfl rfl rfl om)<|zvb 3 rfl rfl kr kr kr rfl rfl (zud (x0:=((Td.rR l W k (3*i+j)).getD i (0:Rat))) 0 i rfl ty32 rfl rfl (gD (d:=(0:Rat)) om)) ?_
     rintro ⟨w70,w71⟩ -
     dsimp only [aq,nq,cq]
     refine zxb open1_rQ<|e_uw 4 rfl rfl (zd 2 ty32 rfl rfl (.t4 .nil))<|e_dm 5 rfl rfl rfl<|e_pv 6 rfl rfl (zh yj rfl sz38 rfl rfl)<|d_vl 7 rfl rfl kr kr rfl rfl (zMb (x0:=(([ry.o0,ry.o1,ry.o2]).getD j (0:Rat))) (j:=j) 10 rfl ye sz32 rfl rfl rfl om (gD (d:=(0:Rat)) (by first|rfl|assumption|omega|exact Td.rR_len _ _|(rw [oh_len];exact hlen)|(show _<3;omega)))) ?_
     rintro ⟨b74,o75,w72,w73⟩ -
     dsimp only [aq,nq,cq]
     refine zxb open_rQ<|e_u 8 rfl rfl (zU (j:=0) 0 ty32 rfl rfl rfl (.t4 .nil)) ?_
     have hoq:=Td.b3 hs0 hs1 hs2 (Nat.le_refl _) j
     have hmo:=yq xv ([ry.o0,ry.o1,ry.o2].getD j 0)
     refine e_one 9 (zv rfl rfl rfl rfl (.c rfl (.c rfl .n)) ce56 (zrb (k1:=true) (u1:=w360) (v1:=w461) (q1:=xv) (k2:=true) (u2:=w72) (v2:=w73) (q2:=(([ry.o0,ry.o1,ry.o2]).getD j (0:Rat))) (hl:=by first|rfl|assumption|omega|exact hok.d _ om|exact hok.w _ om)) (.c (j:=5) rfl (.c (j:=1) rfl .n)) ?_)
     rintro ⟨w376,w477⟩ -
     dsimp only [aq,nq,cq]
     refine e_one 10 (zv rfl rfl rfl rfl (.c rfl (.c rfl .n)) ce57 (zEb (k1:=true) (u1:=w70) (v1:=w71) (q1:=((Td.rR l W k (3*i+j)).getD i (0:Rat))) (k2:=true) (u2:=w376) (v2:=w477) (q2:=xv*(([ry.o0,ry.o1,ry.o2]).getD j (0:Rat))) (hl:=by first|rfl|assumption|omega|exact hok.d _ om|exact hok.w _ om)) (.c (j:=3) rfl (.c (j:=0) rfl .n)) ?_)
     rintro ⟨w378,w479⟩ -
     dsimp only [aq,nq,cq]
     refine e_pv 11 rfl rfl (zEc (j:=i) ye sz32 rfl rfl rfl om)<|e_one 12 (zcc (A':=fun _=>rowA 38 rQ (some ⟨b17,0,none⟩) 3 ((Td.rR l W k (3*i+j)).set i (((Td.rR l W k (3*i+j)).getD i (0:Rat))+(xv*(([ry.o0,ry.o1,ry.o2]).getD j (0:Rat)))))) kr rfl rfl rfl (zO (r:=rQ) (j:=i) (x0:=(((Td.rR l W k (3*i+j)).getD i (0:Rat))+(xv*(([ry.o0,ry.o1,ry.o2]).getD j (0:Rat))))) (γ0:=(w378,w479)) rfl rfl (by first|omega|(rw [List.length_map];omega)|(simp only [List.length_set];omega)|(simp;done)|(simp;omega)) rfl rfl sz32 (fun g hr=>Holds.get 0 rfl hr)) (fun _ _=> ?_))
     refine zN kr<|zQ<|zc<|za<|e_p (zK (z:=(((j+1):Nat):Int)) rfl rfl (w64 om))<|e_mv rfl<|zf<|zca (j+1) (show (j+1)≤3 from by show j+1≤3;omega) (by show 3 - (j+1)<3 - j;omega) (mR rfl) (ho:=((.c (i:=3) rfl (.c (i:=3) rfl (.e (i:=0) rfl (by first|rfl|(rw [Td.nM_step om om hxv2])|(rw [Td.rR_step om om hxv2 hov])) (.c (i:=2) rfl (.e (i:=0) rfl (by first|rfl|(rw [Td.nM_step om om hxv2])|(rw [Td.rR_step om om hxv2 hov])) (.of [1,1] rfl)))))):PickO _ _ _)) ((.of [12,13,14,15,16,17,18,19,20,21,22,23,24] rfl):SelR _ _ _)
   ·
    refine zda<|zj<|zj<|zu<|zQ<|zc<|za<|e_p (zK (z:=(((i+1):Nat):Int)) rfl rfl (w64 om))<|e_mv rfl<|zf<|zca (i+1) (show (i+1)≤3 from by show i+1≤3;omega) (by show 3 - (i+1)<3 - i;omega) (mR rfl) (ho:=((.c (i:=0) rfl (.c (i:=0) rfl (.e (i:=0) rfl (by first|rfl|(rw [show 3*(i+1)=3*i+j by omega])) (.c (i:=0) rfl (.e (i:=0) rfl (by first|rfl|(rw [show 3*(i+1)=3*i+j by omega])) (.of [0,0] rfl)))))):PickO _ _ _)) ((.of [0,1,2,3,4,5,6,7,8,9,10,11,12] rfl):SelR _ _ _)
  ·
   refine zda<|zj<|zj<|zu<|zQ<|zc<|za<|e_p (zK (z:=(((k+1):Nat):Int)) rfl rfl (w64 om))<|e_mv rfl<|zf<|zca (k+1) (show (k+1)≤nL from by show k+1≤nL;omega) (by show nL - (k+1)<nL - k;omega) (mR rfl) (ho:=((.e (i:=2) rfl (by first|rfl|(rw [show 3*i=9 by omega,Td.nM_next])|(rw [show 3*i=9 by omega,Td.rR_next])) (.c (i:=2) rfl (.e (i:=2) rfl (by first|rfl|(rw [show 3*i=9 by omega,Td.nM_next])|(rw [show 3*i=9 by omega,Td.rR_next])) (.of [2,2] rfl)))):PickO _ _ _)) ((.of [11,12] rfl):SelR _ _ _)
 ·
  refine zda<|zj<|zj<|zu<|zc<|ze ?_
  have e80:(Td.nM l W k 0)=(Td.nM l W nL 0):=by rw [show k=nL by omega]
  rw [e80]
  have e81:(Td.rR l W k 0)=(Td.rR l W nL 0):=by rw [show k=nL by omega]
  rw [e81]
  refine zOd (fun w mm=>mm.rmFreeze 1 2 rfl rfl ((Td.nM_sm (l:=l) (W:=W) (k:=nL) (s:=0) hlen).hl) ((Td.nM_sm (l:=l) (W:=W) (k:=nL) (s:=0) hlen).rl)) ?_
  try dsimp only [List.set]
  refine zEe 0 rfl .z<|c_more (at3_more 0 rfl (by exact Nat.le_of_eq (Td.rR_len _ _).symm)) ?_
  rintro ⟨w82,w83,w84,w85,w86,w87⟩ -
  dsimp only [aq,nq,cq]
  refine za<|e_mv rfl<|zq rfl rfl (.c rfl .n) ce58 (zge (pM:=p37) (nM:=3) (cM:=c38) (M:=(Td.nM l W nL 0)) (b:=60) (hnM:=by exact Td.nM_len _ _) (hM1:=dd) (hK:=dd) (hrM:=by exact fun i hi=>Td.nM_row hi) (hb1:=dd) (hbM:=by exact hok.bd) (hH:=dd) (hnul:=by exact hnul)) (.c (j:=5) rfl .n) ?_
  rintro ⟨p388,c389,B5⟩ hinv
  dsimp only [aq,nq,cq]
  replace hinv:Td.Inv (Td.nM l W nL 0) B5 3 (Mx.H 60 3):=hinv
  refine e_mv rfl<|e_p (zm rfl rfl)<|e_p (zm rfl rfl)<|e_p (zb rfl)<|e_p (zb rfl)<|zf<|zc<|ze<|ze<|za<|e_mv rfl<|e_p (zsa rfl rfl)<|zf<|zc<|zaa rfl rfl<|zx<|zc<|ze ?_
  have hBl:=hinv.l
  have hB0:=hinv.r 0 dd
  have hB1:=hinv.r 1 dd
  have hB2:=hinv.r 2 dd
  have hb00:yk ((B5.getD 0 []).getD 0 0)≤100000:=Nat.le_trans (hinv.b 0 0) dd
  have hb01:yk ((B5.getD 0 []).getD 1 0)≤100000:=Nat.le_trans (hinv.b 0 1) dd
  have hb02:yk ((B5.getD 0 []).getD 2 0)≤100000:=Nat.le_trans (hinv.b 0 2) dd
  have hb10:yk ((B5.getD 1 []).getD 0 0)≤100000:=Nat.le_trans (hinv.b 1 0) dd
  have hb11:yk ((B5.getD 1 []).getD 1 0)≤100000:=Nat.le_trans (hinv.b 1 1) dd
  have hb12:yk ((B5.getD 1 []).getD 2 0)≤100000:=Nat.le_trans (hinv.b 1 2) dd
  have hb20:yk ((B5.getD 2 []).getD 0 0)≤100000:=Nat.le_trans (hinv.b 2 0) dd
  have hb21:yk ((B5.getD 2 []).getD 1 0)≤100000:=Nat.le_trans (hinv.b 2 1) dd
  have hb22:yk ((B5.getD 2 []).getD 2 0)≤100000:=Nat.le_trans (hinv.b 2 2) dd
  have hr0:yk ((Td.rR l W nL 0).getD 0 0)≤100000:=by rw [Td.rR_get dd];exact Nat.le_trans (hok.rE (.inr ⟨rfl,rfl⟩) 0) dd
  have hr1:yk ((Td.rR l W nL 0).getD 1 0)≤100000:=by rw [Td.rR_get dd];exact Nat.le_trans (hok.rE (.inr ⟨rfl,rfl⟩) 1) dd
  have hr2:yk ((Td.rR l W nL 0).getD 2 0)≤100000:=by rw [Td.rR_get dd];exact Nat.le_trans (hok.rE (.inr ⟨rfl,rfl⟩) 2) dd
  refine zW (OW:=[]) (O:=[emA,emA,emA,boxA b2 32 (cw [wz,wz]),boxA b1 38 (cw [wz,wz,wz,wz,wz,wz])]) 23 mixed (.then .ret) kr<|e_dm 0 rfl rfl rfl<|d_vl 1 rfl rfl kr kr rfl rfl (zfa (x0:=(B5.getD 0 [])) 0 0 rfl yf sz62 rfl (by first|rfl|assumption|omega|exact Td.rR_len _ _|(rw [oh_len];exact hlen)|(show _<3;omega)) rfl rfl (gD (d:=[]) om)) ?_
  rintro ⟨b90,o91,p92,c93⟩ -
  dsimp only [aq,nq,cq]
  refine e_u 2 rfl rfl (zi (j:=0) 0 ty62 rfl rfl rfl rfl)<|d_vl 3 rfl rfl kr kr rfl rfl (zxc 1 rfl ye rfl (by first|rfl|assumption|omega|exact Td.rR_len _ _|(rw [oh_len];exact hlen)|(show _<3;omega)) om) ?_
  rintro ⟨b100,o101,w94,w95,w96,w97,w98,w99⟩ -
  dsimp only [aq,nq,cq]
  refine e_u 4 rfl rfl (zU (j:=0) 0 ty38 rfl rfl rfl (.t8 (.t4 .nil)))<|e_u 5 rfl rfl (zU (j:=0) 7 ty38 rfl rfl rfl (.t8 (.t4 .nil)))<|e_dm 7 rfl rfl rfl<|d_vl 8 rfl rfl kr kr rfl rfl (zfa (x0:=(B5.getD 1 [])) 6 1 rfl yf sz62 rfl (by first|rfl|assumption|omega|exact Td.rR_len _ _|(rw [oh_len];exact hlen)|(show _<3;omega)) rfl rfl (gD (d:=[]) om)) ?_
  rintro ⟨b102,o103,p104,c105⟩ -
  dsimp only [aq,nq,cq]
  refine e_u 9 rfl rfl (zi (j:=0) 0 ty62 rfl rfl rfl rfl)<|d_vl 10 rfl rfl kr kr rfl rfl (zxc 1 rfl ye rfl (by first|rfl|assumption|omega|exact Td.rR_len _ _|(rw [oh_len];exact hlen)|(show _<3;omega)) om) ?_
  rintro ⟨b112,o113,w106,w107,w108,w109,w110,w111⟩ -
  dsimp only [aq,nq,cq]
  refine e_u 11 rfl rfl (zU (j:=0) 0 ty38 rfl rfl rfl (.t8 (.t4 .nil)))<|e_u 12 rfl rfl (zU (j:=0) 13 ty38 rfl rfl rfl (.t8 (.t4 .nil)))<|e_dm 14 rfl rfl rfl<|d_vl 15 rfl rfl kr kr rfl rfl (zfa (x0:=(B5.getD 2 [])) 12 2 rfl yf sz62 rfl (by first|rfl|assumption|omega|exact Td.rR_len _ _|(rw [oh_len];exact hlen)|(show _<3;omega)) rfl rfl (gD (d:=[]) om)) ?_
  rintro ⟨b114,o115,p116,c117⟩ -
  dsimp only [aq,nq,cq]
  refine e_u 16 rfl rfl (zi (j:=0) 0 ty62 rfl rfl rfl rfl)<|d_vl 17 rfl rfl kr kr rfl rfl (zxc 1 rfl ye rfl (by first|rfl|assumption|omega|exact Td.rR_len _ _|(rw [oh_len];exact hlen)|(show _<3;omega)) om) ?_
  rintro ⟨b124,o125,w118,w119,w120,w121,w122,w123⟩ -
  dsimp only [aq,nq,cq]
  refine e_u 18 rfl rfl (zU (j:=0) 0 ty38 rfl rfl rfl (.t8 (.t4 .nil)))<|e_u 19 rfl rfl (zU (j:=0) 19 ty38 rfl rfl rfl (.t8 (.t4 .nil)))<|zya (m':=[(169,.agg (cw [w82,w83,w84,w85,w86,w87]).toArray),(168,.agg (cw [w118,w119,w120,w121,w122,w123]).toArray),(162,.agg (cw [w82,w83,w84,w85,w86,w87]).toArray),(161,.agg (cw [w106,w107,w108,w109,w110,w111]).toArray),(155,.agg (cw [w82,w83,w84,w85,w86,w87]).toArray),(154,.agg (cw [w94,w95,w96,w97,w98,w99]).toArray),(6,.int .i64 0),(5,.pointer (some ⟨b2,0,none⟩)),(4,.pointer (some ⟨b1,0,none⟩)),(0,.slice p nL cap),(1,.slice pW nL cW)]) (R':=[qF true w118 w119 ((B5.getD 2 []).getD 0 0),qF true w120 w121 ((B5.getD 2 []).getD 1 0),qF true w122 w123 ((B5.getD 2 []).getD 2 0),qF true w106 w107 ((B5.getD 1 []).getD 0 0),qF true w108 w109 ((B5.getD 1 []).getD 1 0),qF true w110 w111 ((B5.getD 1 []).getD 2 0),qF true w94 w95 ((B5.getD 0 []).getD 0 0),qF true w96 w97 ((B5.getD 0 []).getD 1 0),qF true w98 w99 ((B5.getD 0 []).getD 2 0),qF true w82 w83 ((Td.rR l W nL 0).getD 0 0),qF true w84 w85 ((Td.rR l W nL 0).getD 1 0),qF true w86 w87 ((Td.rR l W nL 0).getD 2 0),slF rRy p cap l,slF (rI .i64) pW cW W]) (mR rfl) (List.Perm.refl _) (List.Perm.refl _) ((.of [1,2,3,7,8,9,13,14,15,20,21,22,25,26] rfl):SelR _ _ _)<|a_start<|a_step 6 rfl (X:=Wd×Wd) (fun x=> .agg #[x.1.b,x.1.l,x.2.b,x.2.l]) (fun x=>[]) (fun x=>[qF true x.1 x.2 (Td.dot ((B5.getD 0 []).getD 0 0) ((B5.getD 0 []).getD 1 0) ((B5.getD 0 []).getD 2 0) ((Td.rR l W nL 0).getD 0 0) ((Td.rR l W nL 0).getD 1 0) ((Td.rR l W nL 0).getD 2 0))]) [] kr rfl kr kr kr (fun _=> ?_) ?_
  ·
   refine zya (m':=[(155,.agg (cw [w82,w83,w84,w85,w86,w87]).toArray),(154,.agg (cw [w94,w95,w96,w97,w98,w99]).toArray)]) (R':=[qF true w94 w95 ((B5.getD 0 []).getD 0 0),qF true w96 w97 ((B5.getD 0 []).getD 1 0),qF true w98 w99 ((B5.getD 0 []).getD 2 0),qF true w82 w83 ((Td.rR l W nL 0).getD 0 0),qF true w84 w85 ((Td.rR l W nL 0).getD 1 0),qF true w86 w87 ((Td.rR l W nL 0).getD 2 0)]) ((.c rfl (.c rfl .n)):SubM _ _) (List.Perm.refl _) (List.Perm.refl _) ((.of [6,7,8,9,10,11] rfl):SelR _ _ _)<|e_one 0 (zv rfl rfl rfl rfl (.c rfl (.c rfl .n)) ce53 (zGb (d1:=w94) (d2:=w95) (d3:=w96) (d4:=w97) (d5:=w98) (d6:=w99) (d7:=w82) (d8:=w83) (d9:=w84) (d10:=w85) (d11:=w86) (d12:=w87) (xa:=((B5.getD 0 []).getD 0 0)) (xb:=((B5.getD 0 []).getD 1 0)) (xc:=((B5.getD 0 []).getD 2 0)) (ya:=((Td.rR l W nL 0).getD 0 0)) (yb:=((Td.rR l W nL 0).getD 1 0)) (yc:=((Td.rR l W nL 0).getD 2 0)) (hbxa:=by first|rfl|assumption|omega|exact hok.d _ om|exact hok.w _ om) (hbxb:=by first|rfl|assumption|omega|exact hok.d _ om|exact hok.w _ om) (hbxc:=by first|rfl|assumption|omega|exact hok.d _ om|exact hok.w _ om) (hbya:=by first|rfl|assumption|omega|exact hok.d _ om|exact hok.w _ om) (hbyb:=by first|rfl|assumption|omega|exact hok.d _ om|exact hok.w _ om) (hbyc:=by first|rfl|assumption|omega|exact hok.d _ om|exact hok.w _ om)) (.c (j:=0) rfl (.c (j:=1) rfl (.c (j:=2) rfl (.c (j:=3) rfl (.c (j:=4) rfl (.c (j:=5) rfl .n)))))) ?_)
   rintro ⟨u6_1r2,u6_2r2⟩ -
   dsimp only [aq,nq,cq]
   refine zN kr ?_
   exact zka (u6_1r2,u6_2r2) trivial ((.c rfl .n):SubM _ _) (ho:=oN) (s0 rfl)
  refine a_step 13 rfl (X:=Wd×Wd) (fun x=> .agg #[x.1.b,x.1.l,x.2.b,x.2.l]) (fun x=>[]) (fun x=>[qF true x.1 x.2 (Td.dot ((B5.getD 1 []).getD 0 0) ((B5.getD 1 []).getD 1 0) ((B5.getD 1 []).getD 2 0) ((Td.rR l W nL 0).getD 0 0) ((Td.rR l W nL 0).getD 1 0) ((Td.rR l W nL 0).getD 2 0))]) [] kr rfl kr kr kr (fun _=> ?_) ?_
  ·
   refine zya (m':=[(162,.agg (cw [w82,w83,w84,w85,w86,w87]).toArray),(161,.agg (cw [w106,w107,w108,w109,w110,w111]).toArray)]) (R':=[qF true w106 w107 ((B5.getD 1 []).getD 0 0),qF true w108 w109 ((B5.getD 1 []).getD 1 0),qF true w110 w111 ((B5.getD 1 []).getD 2 0),qF true w82 w83 ((Td.rR l W nL 0).getD 0 0),qF true w84 w85 ((Td.rR l W nL 0).getD 1 0),qF true w86 w87 ((Td.rR l W nL 0).getD 2 0)]) ((.c rfl (.c rfl .n)):SubM _ _) (List.Perm.refl _) (List.Perm.refl _) ((.of [3,4,5,9,10,11] rfl):SelR _ _ _)<|e_one 0 (zv rfl rfl rfl rfl (.c rfl (.c rfl .n)) ce53 (zGb (d1:=w106) (d2:=w107) (d3:=w108) (d4:=w109) (d5:=w110) (d6:=w111) (d7:=w82) (d8:=w83) (d9:=w84) (d10:=w85) (d11:=w86) (d12:=w87) (xa:=((B5.getD 1 []).getD 0 0)) (xb:=((B5.getD 1 []).getD 1 0)) (xc:=((B5.getD 1 []).getD 2 0)) (ya:=((Td.rR l W nL 0).getD 0 0)) (yb:=((Td.rR l W nL 0).getD 1 0)) (yc:=((Td.rR l W nL 0).getD 2 0)) (hbxa:=by first|rfl|assumption|omega|exact hok.d _ om|exact hok.w _ om) (hbxb:=by first|rfl|assumption|omega|exact hok.d _ om|exact hok.w _ om) (hbxc:=by first|rfl|assumption|omega|exact hok.d _ om|exact hok.w _ om) (hbya:=by first|rfl|assumption|omega|exact hok.d _ om|exact hok.w _ om) (hbyb:=by first|rfl|assumption|omega|exact hok.d _ om|exact hok.w _ om) (hbyc:=by first|rfl|assumption|omega|exact hok.d _ om|exact hok.w _ om)) (.c (j:=0) rfl (.c (j:=1) rfl (.c (j:=2) rfl (.c (j:=3) rfl (.c (j:=4) rfl (.c (j:=5) rfl .n)))))) ?_)
   rintro ⟨u13_1r2,u13_2r2⟩ -
   dsimp only [aq,nq,cq]
   refine zN kr ?_
   exact zka (u13_1r2,u13_2r2) trivial ((.c rfl .n):SubM _ _) (ho:=oN) (s0 rfl)
  refine a_step 20 rfl (X:=Wd×Wd) (fun x=> .agg #[x.1.b,x.1.l,x.2.b,x.2.l]) (fun x=>[]) (fun x=>[qF true x.1 x.2 (Td.dot ((B5.getD 2 []).getD 0 0) ((B5.getD 2 []).getD 1 0) ((B5.getD 2 []).getD 2 0) ((Td.rR l W nL 0).getD 0 0) ((Td.rR l W nL 0).getD 1 0) ((Td.rR l W nL 0).getD 2 0))]) [] kr rfl kr kr kr (fun _=> ?_) ?_
  ·
   refine zya (m':=[(169,.agg (cw [w82,w83,w84,w85,w86,w87]).toArray),(168,.agg (cw [w118,w119,w120,w121,w122,w123]).toArray)]) (R':=[qF true w118 w119 ((B5.getD 2 []).getD 0 0),qF true w120 w121 ((B5.getD 2 []).getD 1 0),qF true w122 w123 ((B5.getD 2 []).getD 2 0),qF true w82 w83 ((Td.rR l W nL 0).getD 0 0),qF true w84 w85 ((Td.rR l W nL 0).getD 1 0),qF true w86 w87 ((Td.rR l W nL 0).getD 2 0)]) ((.c rfl (.c rfl .n)):SubM _ _) (List.Perm.refl _) (List.Perm.refl _) ((.of [0,1,2,9,10,11] rfl):SelR _ _ _)<|e_one 0 (zv rfl rfl rfl rfl (.c rfl (.c rfl .n)) ce53 (zGb (d1:=w118) (d2:=w119) (d3:=w120) (d4:=w121) (d5:=w122) (d6:=w123) (d7:=w82) (d8:=w83) (d9:=w84) (d10:=w85) (d11:=w86) (d12:=w87) (xa:=((B5.getD 2 []).getD 0 0)) (xb:=((B5.getD 2 []).getD 1 0)) (xc:=((B5.getD 2 []).getD 2 0)) (ya:=((Td.rR l W nL 0).getD 0 0)) (yb:=((Td.rR l W nL 0).getD 1 0)) (yc:=((Td.rR l W nL 0).getD 2 0)) (hbxa:=by first|rfl|assumption|omega|exact hok.d _ om|exact hok.w _ om) (hbxb:=by first|rfl|assumption|omega|exact hok.d _ om|exact hok.w _ om) (hbxc:=by first|rfl|assumption|omega|exact hok.d _ om|exact hok.w _ om) (hbya:=by first|rfl|assumption|omega|exact hok.d _ om|exact hok.w _ om) (hbyb:=by first|rfl|assumption|omega|exact hok.d _ om|exact hok.w _ om) (hbyc:=by first|rfl|assumption|omega|exact hok.d _ om|exact hok.w _ om)) (.c (j:=0) rfl (.c (j:=1) rfl (.c (j:=2) rfl (.c (j:=3) rfl (.c (j:=4) rfl (.c (j:=5) rfl .n)))))) ?_)
   rintro ⟨u20_1r2,u20_2r2⟩ -
   dsimp only [aq,nq,cq]
   refine zN kr ?_
   exact zka (u20_1r2,u20_2r2) trivial ((.c rfl .n):SubM _ _) (ho:=oN) (s0 rfl)
  refine a_step 21 rfl (X:=Wd×Wd×Wd×Wd×Wd×Wd) (fun x=> .agg #[x.2.2.2.2.1.b,x.2.2.2.2.1.l,x.2.2.2.2.2.b,x.2.2.2.2.2.l,x.2.2.1.b,x.2.2.1.l,x.2.2.2.1.b,x.2.2.2.1.l,x.1.b,x.1.l,x.2.1.b,x.2.1.l]) (fun x=>[]) (fun x=>[qF true x.1 x.2.1 (Td.dot ((B5.getD 2 []).getD 0 0) ((B5.getD 2 []).getD 1 0) ((B5.getD 2 []).getD 2 0) ((Td.rR l W nL 0).getD 0 0) ((Td.rR l W nL 0).getD 1 0) ((Td.rR l W nL 0).getD 2 0)),qF true x.2.2.1 x.2.2.2.1 (Td.dot ((B5.getD 1 []).getD 0 0) ((B5.getD 1 []).getD 1 0) ((B5.getD 1 []).getD 2 0) ((Td.rR l W nL 0).getD 0 0) ((Td.rR l W nL 0).getD 1 0) ((Td.rR l W nL 0).getD 2 0)),qF true x.2.2.2.2.1 x.2.2.2.2.2 (Td.dot ((B5.getD 0 []).getD 0 0) ((B5.getD 0 []).getD 1 0) ((B5.getD 0 []).getD 2 0) ((Td.rR l W nL 0).getD 0 0) ((Td.rR l W nL 0).getD 1 0) ((Td.rR l W nL 0).getD 2 0))]) [0,1,2] kr rfl kr kr kr (fun _=> ?_) ?_
  ·
   rintro ⟨g20_0r2,g20_1r2⟩
   rintro ⟨g13_0r2,g13_1r2⟩
   rintro ⟨g6_0r2,g6_1r2⟩
   refine zya (m':=[(170,.agg (cw [g20_0r2,g20_1r2]).toArray),(163,.agg (cw [g13_0r2,g13_1r2]).toArray),(156,.agg (cw [g6_0r2,g6_1r2]).toArray)]) (R':=[qF true g20_0r2 g20_1r2 (Td.dot ((B5.getD 2 []).getD 0 0) ((B5.getD 2 []).getD 1 0) ((B5.getD 2 []).getD 2 0) ((Td.rR l W nL 0).getD 0 0) ((Td.rR l W nL 0).getD 1 0) ((Td.rR l W nL 0).getD 2 0)),qF true g13_0r2 g13_1r2 (Td.dot ((B5.getD 1 []).getD 0 0) ((B5.getD 1 []).getD 1 0) ((B5.getD 1 []).getD 2 0) ((Td.rR l W nL 0).getD 0 0) ((Td.rR l W nL 0).getD 1 0) ((Td.rR l W nL 0).getD 2 0)),qF true g6_0r2 g6_1r2 (Td.dot ((B5.getD 0 []).getD 0 0) ((B5.getD 0 []).getD 1 0) ((B5.getD 0 []).getD 2 0) ((Td.rR l W nL 0).getD 0 0) ((Td.rR l W nL 0).getD 1 0) ((Td.rR l W nL 0).getD 2 0))]) (mR rfl) (List.Perm.refl _) (List.Perm.refl _) ((.of [0,1,2] rfl):SelR _ _ _)<|e_pv 0 rfl rfl (zVa zr38 rfl ye sz32 (.c rfl (.c rfl (.c rfl .n))) (.c rfl rfl rfl (.t4 .nil) (.c rfl rfl rfl (.s4 (.t4 .nil)) (.c rfl rfl rfl (.s8 (.t4 .nil)) .n))))<|zN kr ?_
   exact zka (g20_0r2,g20_1r2,g13_0r2,g13_1r2,g6_0r2,g6_1r2) trivial ((.c rfl .n):SubM _ _) (ho:=oN) ((.of [0,1,2] rfl):SelR _ _ _)
  refine a_step 22 rfl (X:=Nat) (fun x=> .pointer (some ⟨x,0,none⟩)) (fun x=>[boxA x 38 [.bool false,.slice none 0 0,.bool false,.slice none 0 0,.bool false,.slice none 0 0,.bool false,.slice none 0 0,.bool false,.slice none 0 0,.bool false,.slice none 0 0]]) (fun x=>[]) [] kr rfl kr kr kr (fun _=> ?_) ?_
  ·
   refine zya (m':=[]) (R':=[]) (.n:SubM _ _) (List.Perm.refl _) (List.Perm.refl _) sN<|e_one 0 (zwb rfl rfl rfl rfl (zo zr38 rfl) (fun u22_1r2 _=> ?_))
   refine zN kr ?_
   exact zka u22_1r2 trivial ((.c rfl .n):SubM _ _) (ho:=(o0 rfl)) sN
  refine a_fin (k':=1) (L':=(lb 24 8388607)) kr kr kr kr kr kr kr ?_
  rintro g22_0r2 ⟨g21_0r2,g21_1r2,g21_2r2,g21_3r2,g21_4r2,g21_5r2⟩ _ _ _
  refine zya (m':=[(20,.pointer (some ⟨g22_0r2,0,none⟩)),(171,.agg (cw [g21_4r2,g21_5r2,g21_2r2,g21_3r2,g21_0r2,g21_1r2]).toArray),(169,.agg (cw [w82,w83,w84,w85,w86,w87]).toArray),(168,.agg (cw [w118,w119,w120,w121,w122,w123]).toArray),(162,.agg (cw [w82,w83,w84,w85,w86,w87]).toArray),(161,.agg (cw [w106,w107,w108,w109,w110,w111]).toArray),(155,.agg (cw [w82,w83,w84,w85,w86,w87]).toArray),(154,.agg (cw [w94,w95,w96,w97,w98,w99]).toArray),(6,.int .i64 0),(5,.pointer (some ⟨b2,0,none⟩)),(4,.pointer (some ⟨b1,0,none⟩)),(0,.slice p nL cap),(1,.slice pW nL cW)]) (OW':=[boxA g22_0r2 38 (cw [wz,wz,wz,wz,wz,wz])]) (R':=[qF true g21_0r2 g21_1r2 (Td.dot ((B5.getD 2 []).getD 0 0) ((B5.getD 2 []).getD 1 0) ((B5.getD 2 []).getD 2 0) ((Td.rR l W nL 0).getD 0 0) ((Td.rR l W nL 0).getD 1 0) ((Td.rR l W nL 0).getD 2 0)),qF true g21_2r2 g21_3r2 (Td.dot ((B5.getD 1 []).getD 0 0) ((B5.getD 1 []).getD 1 0) ((B5.getD 1 []).getD 2 0) ((Td.rR l W nL 0).getD 0 0) ((Td.rR l W nL 0).getD 1 0) ((Td.rR l W nL 0).getD 2 0)),qF true g21_4r2 g21_5r2 (Td.dot ((B5.getD 0 []).getD 0 0) ((B5.getD 0 []).getD 1 0) ((B5.getD 0 []).getD 2 0) ((Td.rR l W nL 0).getD 0 0) ((Td.rR l W nL 0).getD 1 0) ((Td.rR l W nL 0).getD 2 0)),qF true w118 w119 ((B5.getD 2 []).getD 0 0),qF true w120 w121 ((B5.getD 2 []).getD 1 0),qF true w122 w123 ((B5.getD 2 []).getD 2 0),qF true w106 w107 ((B5.getD 1 []).getD 0 0),qF true w108 w109 ((B5.getD 1 []).getD 1 0),qF true w110 w111 ((B5.getD 1 []).getD 2 0),qF true w94 w95 ((B5.getD 0 []).getD 0 0),qF true w96 w97 ((B5.getD 0 []).getD 1 0),qF true w98 w99 ((B5.getD 0 []).getD 2 0),qF true w82 w83 ((Td.rR l W nL 0).getD 0 0),qF true w84 w85 ((Td.rR l W nL 0).getD 1 0),qF true w86 w87 ((Td.rR l W nL 0).getD 2 0),slF rRy p cap l,slF (rI .i64) pW cW W]) (mR rfl) (List.Perm.refl _) (List.Perm.refl _) ((.of [0,1,2,6,7,8,9,10,11,12,13,14,15,16,17,18,19] rfl):SelR _ _ _)<|e_one 23 (zr kr rfl rfl rfl rfl rfl sz38 rfl (.t8 (.t4 .nil)) ?_)
  refine zN kr<|zc<|ze ?_
  have e126:(Td.dot ((B5.getD 0 []).getD 0 0) ((B5.getD 0 []).getD 1 0) ((B5.getD 0 []).getD 2 0) ((Td.rR l W nL 0).getD 0 0) ((Td.rR l W nL 0).getD 1 0) ((Td.rR l W nL 0).getD 2 0):Rat)=pa:=by exact Td.row_sol hinv hsol (i:=0) dd
  rw [e126]
  have e127:(Td.dot ((B5.getD 1 []).getD 0 0) ((B5.getD 1 []).getD 1 0) ((B5.getD 1 []).getD 2 0) ((Td.rR l W nL 0).getD 0 0) ((Td.rR l W nL 0).getD 1 0) ((Td.rR l W nL 0).getD 2 0):Rat)=pb:=by exact Td.row_sol hinv hsol (i:=1) dd
  rw [e127]
  have e128:(Td.dot ((B5.getD 2 []).getD 0 0) ((B5.getD 2 []).getD 1 0) ((B5.getD 2 []).getD 2 0) ((Td.rR l W nL 0).getD 0 0) ((Td.rR l W nL 0).getD 1 0) ((Td.rR l W nL 0).getD 2 0):Rat)=pc:=by exact Td.row_sol hinv hsol (i:=2) dd
  rw [e128]
  refine za<|zq rfl rfl (.c rfl .n) ce52 (zHa (z:=0) (hz:=by first|rfl|assumption|omega|exact hok.d _ om|exact hok.w _ om)) (.n) ?_
  rintro ⟨w3129,w4130⟩ -
  dsimp only [aq,nq,cq]
  refine zD rfl rfl (zo zr32 rfl) (fun b131=> ?_)
  refine zk 0 rfl rfl rfl rfl rfl sz32 rfl (.t4 .nil) .z<|zf<|zc<|ze<|ze<|za<|e_mv rfl<|e_p (zG yh rfl)<|e_mv rfl<|zf<|zc<|zw<|zha (X:=Nat×Wd×Wd) (fun x:Nat×Wd×Wd=>x.1≤nL) (fun x=>[(175,.int .i64 ((x.1:Nat):Int)),(174,.int .i64 ((nL:Nat):Int)),(173,.slice p nL cap),(21,.pointer (some ⟨b131,0,none⟩)),(20,.pointer (some ⟨g22_0r2,0,none⟩)),(6,.int .i64 0),(5,.pointer (some ⟨b2,0,none⟩)),(4,.pointer (some ⟨b1,0,none⟩)),(1,.slice pW nL cW)]) (fun x=>[boxA b131 32 (cw [x.2.1,x.2.2]),boxA g22_0r2 38 (cw [g21_4r2,g21_5r2,g21_2r2,g21_3r2,g21_0r2,g21_1r2]),boxA b2 32 (cw [wz,wz]),boxA b1 38 (cw [wz,wz,wz,wz,wz,wz])]) (fun x=>[qF true x.2.1 x.2.2 (Td.ss l W pa pb pc x.1),qF true g21_0r2 g21_1r2 pc,qF true g21_2r2 g21_3r2 pb,qF true g21_4r2 g21_5r2 pa,slF rRy p cap l,slF (rI .i64) pW cW W]) (fun x:Nat×Wd×Wd=>nL - x.1) (0,w3129,w4130) (show 0≤nL from by exact Nat.zero_le _) ((.e rfl cgs (.of rfl)):SubM _ _) (ho:=((.of [0,0,3,3] rfl):PickO _ _ _)) ((.e (j:=0) rfl (by rfl) (.of [1,2,3,16,17] rfl)):SelR _ _ _) ?_
  rintro ⟨k,wa,wb⟩ hI
  replace hI:k≤nL:=hI
  try dsimp only [cw]
  refine ze<|za<|e_p (zV rfl rfl)<|zf<|zc<|ze<|zI rfl (fun h132=> ?_) (fun h132=> ?_)
  ·
   refine zx<|zc<|ze<|zw<|ze<|za<|e_mv rfl<|r_vl rfl rfl (zfa (x0:=(l.getD k (⟨0,0,0,0,0,0⟩:Td.Ry))) 4 k rfl yh sz40 rfl (by first|rfl|assumption|omega|exact Td.rR_len _ _|(rw [oh_len];exact hlen)|(show _<3;omega)) rfl rfl (gD (d:=(⟨0,0,0,0,0,0⟩:Td.Ry)) om)) ?_
   rintro ⟨b133,o134,w135,w136,w137,w138,w139,w140,w141,w142,w143,w144,w145,w146⟩ -
   dsimp only [aq,nq,cq]
   refine zLb open_rRy<|e_ru (zU (j:=0) 0 ty40 rfl rfl rfl (.t8 (.t8 (.t8 .nil))))<|zD rfl rfl (zo zr40 rfl) (fun b147=> ?_)
   refine e_p (zb rfl)<|zk 0 rfl rfl rfl rfl rfl sz40 rfl (.t8 (.t8 (.t8 .nil))) .z<|zf<|zc ?_
   obtain ⟨ry2,hry2⟩:∃z:Td.Ry,z=(l.getD k (⟨0,0,0,0,0,0⟩:Td.Ry)):=⟨_,rfl⟩
   rw [← hry2]
   have hgr:ry2=Td.gr l k:=hry2
   obtain ⟨⟨hs0,hs1,hs2⟩,hs3,hs4,hs5⟩:Td.sml ry2:=by rw [hgr];exact hok.b k om
   have hd:ry2.a2≠0:=by rw [hgr];exact hok.d k om
   have hwq:=Td.w_hq (hok.w k om)
   have hlq:=Td.lg_hq hs3 hs4 hs5
   have hln:=Td.lg_ne hd
   have hsm:Td.sml ry2:=⟨⟨hs0,hs1,hs2⟩,hs3,hs4,hs5⟩
   have hmq:=Td.miss_hq hsm hd hbpa hbpb hbpc
   have hsq:=hok.ss hbpa hbpb hbpc k om
   have hk2:k*2002≤2*2002:=Nat.mul_le_mul_right _ om
   have hmw:=yq ((W.getD k 0:Int):Rat) (Td.miss ry2 pa pb pc)
   refine zoa (.c (i:=1) rfl (.c (i:=0) rfl (.c (i:=0) rfl (.c (i:=0) rfl (.c (i:=0) rfl .n)))))<|zW (OW:=[boxA b131 32 (cw [wa,wb])]) (O:=[boxA b147 40 (cw [w135,w136,w137,w138,w139,w140,w141,w142,w143,w144,w145,w146]),boxA g22_0r2 38 (cw [g21_4r2,g21_5r2,g21_2r2,g21_3r2,g21_0r2,g21_1r2]),boxA b2 32 (cw [wz,wz]),boxA b1 38 (cw [wz,wz,wz,wz,wz,wz])]) 11 mixed (.block (.then (.then (.block (.then .ret))))) kr<|e_uw 0 rfl rfl (zd 0 ty32 rfl rfl (.t4 .nil))<|e_dm 1 rfl rfl rfl<|e_dm 2 rfl rfl rfl<|zra (x0:=(W.getD k 0)) 3 rfl rfl kr kr 12 k rfl yd sz3 rfl rfl rfl (by first|rfl|assumption|omega|exact Td.rR_len _ _|(rw [oh_len];exact hlen)|(show _<3;omega)) rfl rfl (gD (d:=0) om) (fun b148 o149 hok150=> ?_)
   replace hok150:=zga.1 hok150
   refine e_u 4 rfl rfl (zi (j:=0) 0 ty3 rfl rfl rfl rfl)<|e_uw 6 rfl rfl (zd 1 ty40 rfl rfl (.t8 (.t8 (.t8 .nil))))<|e_uw 7 rfl rfl (zd 2 ty38 rfl rfl (.t8 (.t4 .nil)))<|e_one 5 (zv rfl rfl rfl rfl (.c rfl .n) ce52 (zHa (z:=(W.getD k 0)) (hz:=by first|rfl|assumption|omega|exact hok.d _ om|exact hok.w _ om)) (.n) ?_)
   rintro ⟨w3151,w4152⟩ -
   dsimp only [aq,nq,cq]
   refine e_one 8 (zv rfl rfl rfl rfl (.c rfl (.c rfl .n)) ce59 (zag (u1:=w135) (u2:=w136) (u3:=w137) (u4:=w138) (u5:=w139) (u6:=w140) (u7:=w141) (u8:=w142) (u9:=w143) (u10:=w144) (u11:=w145) (u12:=w146) (ry:=ry2) (v1:=g21_4r2) (v2:=g21_5r2) (v3:=g21_2r2) (v4:=g21_3r2) (v5:=g21_0r2) (v6:=g21_1r2) (pa:=pa) (pb:=pb) (pc:=pc) (hbr:=by first|rfl|assumption|omega|exact hok.d _ om|exact hok.w _ om) (hd:=by first|rfl|assumption|omega|exact hok.d _ om|exact hok.w _ om) (hbpa:=ass) (hbpb:=ass) (hbpc:=ass)) (.c (j:=3) rfl (.c (j:=4) rfl (.c (j:=5) rfl (.c (j:=6) rfl (.c (j:=7) rfl (.c (j:=8) rfl (.c (j:=12) rfl (.c (j:=11) rfl (.c (j:=10) rfl .n))))))))) ?_)
   rintro ⟨w3153,w4154⟩ -
   dsimp only [aq,nq,cq]
   refine e_one 9 (zv rfl rfl rfl rfl (.c rfl (.c rfl .n)) ce56 (zrb (k1:=true) (u1:=w3151) (v1:=w4152) (q1:=(((W.getD k 0):Int):Rat)) (k2:=true) (u2:=w3153) (v2:=w4154) (q2:=(Td.miss ry2 pa pb pc)) (hl:=by first|rfl|assumption|omega|exact hok.d _ om|exact hok.w _ om)) (.c (j:=1) rfl (.c (j:=0) rfl .n)) ?_)
   rintro ⟨w3155,w4156⟩ -
   dsimp only [aq,nq,cq]
   refine e_one 10 (zv rfl rfl rfl rfl (.c rfl (.c rfl .n)) ce57 (zEb (k1:=true) (u1:=wa) (v1:=wb) (q1:=(Td.ss l W pa pb pc k)) (k2:=true) (u2:=w3155) (v2:=w4156) (q2:=(((W.getD k 0):Int):Rat)*(Td.miss ry2 pa pb pc)) (hl:=by first|rfl|assumption|omega|exact hok.d _ om|exact hok.w _ om)) (.c (j:=11) rfl (.c (j:=0) rfl .n)) ?_)
   rintro ⟨w3157,w4158⟩ -
   dsimp only [aq,nq,cq]
   refine e_one 11 (zr kr rfl rfl rfl rfl rfl sz32 rfl (.t4 .nil) ?_)
   refine zN kr<|zQ<|zc<|za<|e_p (zK (z:=(((k+1):Nat):Int)) rfl rfl (w64 om))<|e_mv rfl<|zf<|zca ((k+1),w3157,w4158) (show (k+1)≤nL from by show k+1≤nL;omega) (by show nL - (k+1)<nL - k;omega) (mR rfl) (ho:=((.of [0,1,1,1] rfl):PickO _ _ _)) ((.e (j:=0) rfl (by rw [show Td.ss l W pa pb pc (k+1)=Td.ss l W pa pb pc k+((W.getD k 0:Int):Rat)*Td.miss (Td.gr l k) pa pb pc from rfl,←hgr]) (.of [13,14,15,16,17] rfl)):SelR _ _ _)
  ·
   refine zda<|zj<|zj<|zu<|zc<|ze<|zoa (.c (i:=3) rfl (.c (i:=2) rfl (.c (i:=0) rfl (.c (i:=0) rfl .n))))<|zW (OW:=[boxA b1 38 (cw [wz,wz,wz,wz,wz,wz]),boxA b2 32 (cw [wz,wz])]) (O:=[boxA b131 32 (cw [wa,wb]),boxA g22_0r2 38 (cw [g21_4r2,g21_5r2,g21_2r2,g21_3r2,g21_0r2,g21_1r2])]) 2 mixed (.then .ret) kr<|e_uw 0 rfl rfl (zd 3 ty38 rfl rfl (.t8 (.t4 .nil)))<|e_u 1 rfl rfl (zd 0 ty32 rfl rfl (.t4 .nil))<|e_one 2 (zr kr rfl rfl rfl rfl rfl sz38 rfl (.t8 (.t4 .nil)) ?_)
   refine zDa (zba (i:=1) rfl)<|e_one 3 (zr kr rfl rfl rfl rfl rfl sz32 rfl (.t4 .nil) ?_)
   refine e_pv 4 rfl rfl (zb rfl)<|zN kr<|zc<|zE ?_
   exact zJc Tryz.results10 (g21_4r2,g21_5r2,g21_2r2,g21_3r2,g21_0r2,g21_1r2,wa,wb) trivial (zn 1 ty38 rfl rfl (.t8 (.t4 .nil))) (zn 0 ty32 rfl rfl (.t4 .nil)) (zp rfl) rfl (ho:=oN) ((.c (j:=3) rfl (.c (j:=2) rfl (.c (j:=1) rfl (.e (j:=0) rfl (by rw [show k=nL by omega]) .n)))):SelR _ _ _)
end Go.Proofs.YtpdbimfnhglhpaaGreat.Sp
namespace Go.Proofs.YtpdbimfnhglhpaaGreat.Sp
open Go
set_option linter.unusedVariables false
set_option maxRecDepth 100000
set_option maxHeartbeats 8000000
theorem zDd {f:Int} {b:Int} {p0:Int} {p1:Int} {d:Int} {s1:Int} {s2:Int} (hp0: -32768≤p0∧p0≤32767) (hp1: -32768≤p1∧p1≤32767) (hdr: -32768≤d∧d≤32767) (hs1: -128≤s1∧s1≤127) (hs2: -128≤s2∧s2≤127) (ho:(1≤f∧f≤0x100000∧1≤b∧b≤0x100000)) (hd:1≤d∧d≤0x10000):Con yi 3 [.agg #[.int .i64 f,.int .i64 b],.agg #[.int .i16 p0,.int .i16 p1,.int .i16 d],.agg #[.int .i8 s1,.int .i8 s2]] [] [] (Y:=Unit) (fun y=>True) (fun y=> .bool true) (fun y=>[]) (fun y=>[]):=by
 refine zl Tryz.func3 rfl rfl rfl (fun c=> ?_)
 show RunC _ _ _ _ _ [(0,.agg #[.int .i64 f,.int .i64 b]),(1,.agg #[.int .i16 p0,.int .i16 p1,.int .i16 d]),(2,.agg #[.int .i8 s1,.int .i8 s2])] [] []
 have hfb:=Td.mul20 ho
 have hd1:=Td.dep_hq ho hd
 have hd2:=Td.half_hq
 have ht1:=Td.tm8 s1
 have ht2:=Td.tm8 s2
 have hC:Td.Cam f b ((64*p0)+(2*0)) ((64*(p0 - d))+(2*0)) (64*p1):=⟨by omega,by omega,by omega,by omega,by omega,by omega⟩
 have hC2:Td.Cam f b ((64*p0)+(2*((s1).tmod 8))) ((64*(p0 - d))+(2*((s2).tmod 8))) (64*p1):=⟨by omega,by omega,by omega,by omega,by omega,by omega⟩
 have hz1:=hC.hqs.2.2
 have hz2:=hC2.hqs.2.2
 have h0q:yk ((0:Int):Rat)=1:=Td.hq00
 have hlq:=Td.low_hq ho hd
 have hhq:=Td.high_hq ho hd
 have hvq:yk (((([(min (Td.dep f b d) 0x100000)]:List Int).getD 0 0):Int):Rat)≤1:=Td.v_hq ho hd
 have hsq:=Big.hq_sub (((([(min (Td.dep f b d) 0x100000)]:List Int).getD 0 0):Int):Rat) (Rat.divInt (f*b) (64*d))
 have hoq:yk (Big.qabs ((((([(min (Td.dep f b d) 0x100000)]:List Int).getD 0 0):Int):Rat) - Rat.divInt (f*b) (64*d)))≤4:=Td.off_hq ho hd
 have h20q:yk ((0x100000:Int):Rat)≤1:=by decide
 refine ze<|za<|zD rfl rfl (zT rfl rfl) (fun b1=> ?_)
 refine zD rfl rfl (zT rfl rfl) (fun b2=> ?_)
 refine zD rfl rfl (zT rfl rfl) (fun b3=> ?_)
 refine e_p (zb rfl)<|zf<|zc<|ze<|ze<|za<|zJ rfl rfl (.n) ce6 (zwc) (.n)<|e_p (zcb rfl)<|zf<|zc<|zaa rfl rfl<|zx<|zc<|ze<|zW (OW:=[]) (O:=[boxA b3 26 [.int .i8 s1,.int .i8 s2],boxA b2 24 [.int .i16 p0,.int .i16 p1,.int .i16 d],boxA b1 22 [.int .i64 f,.int .i64 b]]) 8 mixed (.then .ret) kr<|e_pv 0 rfl rfl (zM (i:=0) Tryz.underlying22 sz3 rfl rfl dd rfl)<|e_u 1 rfl rfl (zg 2 ty3 rfl rfl rfl)<|e_pv 2 rfl rfl (zM (i:=1) Tryz.underlying22 sz3 rfl rfl dd rfl)<|e_u 3 rfl rfl (zg 2 ty3 rfl rfl rfl)<|e_pv 4 rfl rfl (zM (i:=2) yn sz23 rfl rfl dd rfl)<|e_u 5 rfl rfl (zg 1 ty23 rfl rfl rfl)<|e_pv 6 rfl rfl (zt (z:=d) rfl (by rw [yo];rfl) ym (w64 om))<|e_one 7 (zmb rfl rfl rfl rfl (zo zr3 rfl) (fun b4 _=> ?_))
 refine e_one 8 (zr kr rfl rfl rfl rfl rfl sz3 rfl (.take .nil) ?_)
 refine e_pv 9 rfl rfl (zb rfl)<|e_pv 10 rfl rfl (zb rfl)<|zN kr<|zc<|ze<|za<|e_ru (zg 0 ty3 rfl rfl rfl)<|e_mv rfl<|e_mv rfl<|zq rfl rfl (.c rfl (.c rfl (.c rfl .n))) ce7 (zBc (f:=f) (b:=b) (d:=d) (ho:=ass) (hd:=ass)) (.n) ?_
 rintro ⟨w35,w46,w57,w68⟩ -
 dsimp only [aq,nq,cq]
 refine e_mv rfl<|e_p (zm rfl rfl)<|e_p (zm rfl rfl)<|zD rfl rfl (zo zr34 rfl) (fun b9=> ?_)
 refine zk 0 rfl rfl rfl rfl rfl sz34 rfl (.t8 .nil) .z<|e_p (zb rfl)<|zf<|zc<|ze<|ze<|za<|e_mv rfl<|e_p (zsa rfl rfl)<|zf<|zc<|zaa rfl rfl<|zx<|zc<|ze<|zFa 3 rfl (.s (.s (.s .z)))<|zFa 1 rfl (.s .z)<|za<|e_p (zZa .n (.c rfl (.c rfl .n)))<|e_p (zb rfl)<|zf<|zc<|ze<|zW (OW:=[]) (O:=[boxA b9 34 (cw [w35,w46,w57,w68]),emA,boxA b3 26 [.int .i8 s1,.int .i8 s2],emA,boxA b1 22 [.int .i64 f,.int .i64 b]]) 15 mixed (.then .ret) kr<|e_dm 0 rfl rfl rfl<|e_pv 1 rfl rfl (zM (i:=0) yn sz23 rfl rfl dd rfl)<|e_u 2 rfl rfl (zi (j:=0) 1 ty23 rfl rfl rfl rfl)<|e_pv 3 rfl rfl (zt (z:=p0) rfl (by rw [yo];rfl) ym (w64 om))<|e_dm 5 rfl rfl rfl<|e_pv 6 rfl rfl (zM (i:=0) yn sz23 rfl rfl dd rfl)<|e_u 7 rfl rfl (zi (j:=0) 1 ty23 rfl rfl rfl rfl)<|e_pv 8 rfl rfl (zt (z:=p0) rfl (by rw [yo];rfl) ym (w64 om))<|e_dm 9 rfl rfl rfl<|e_pv 10 rfl rfl (zla (z:=(p0 - d)) rfl rfl (w64 om))<|e_dm 11 rfl rfl rfl<|zya (m':=[(82,.int .i64 b),(81,.int .i64 (p0 - d)),(76,.func (.func 8) #[] #[.pointer (some ⟨b2,0,none⟩),.pointer (some ⟨b4,0,none⟩)]),(74,.int .i64 p0),(71,.func (.func 8) #[] #[.pointer (some ⟨b2,0,none⟩),.pointer (some ⟨b4,0,none⟩)]),(12,.func (.func 8) #[] #[.pointer (some ⟨b2,0,none⟩),.pointer (some ⟨b4,0,none⟩)]),(11,.int .i64 0),(10,.pointer (some ⟨b9,0,none⟩)),(9,.int .i64 d),(8,.int .i64 b),(7,.pointer (some ⟨b4,0,none⟩)),(6,.bool false),(5,.pointer (some ⟨b3,0,none⟩)),(4,.pointer (some ⟨b2,0,none⟩))]) (R':=[atF b4 0 [.int .i64 f],atF b2 0 [.int .i16 p0,.int .i16 p1,.int .i16 d],qF true w35 w46 (Rat.divInt (f*b) (32*((2*d)+1))),qF true w57 w68 (Rat.divInt (f*b) (32*((2*d) - 1)))]) (mR rfl) (List.Perm.refl _) (List.Perm.refl _) ((.of [0,1,2,3] rfl):SelR _ _ _)<|a_start<|a_step 4 rfl (X:=Wd×Wd×Wd×Wd×Wd×Wd×Wd×Wd×Wd×Wd×Wd×Wd) (fun x=> .agg #[x.1.b,x.1.l,x.2.1.b,x.2.1.l,x.2.2.1.b,x.2.2.1.l,x.2.2.2.1.b,x.2.2.2.1.l,x.2.2.2.2.1.b,x.2.2.2.2.1.l,x.2.2.2.2.2.1.b,x.2.2.2.2.2.1.l,x.2.2.2.2.2.2.1.b,x.2.2.2.2.2.2.1.l,x.2.2.2.2.2.2.2.1.b,x.2.2.2.2.2.2.2.1.l,x.2.2.2.2.2.2.2.2.1.b,x.2.2.2.2.2.2.2.2.1.l,x.2.2.2.2.2.2.2.2.2.1.b,x.2.2.2.2.2.2.2.2.2.1.l,x.2.2.2.2.2.2.2.2.2.2.1.b,x.2.2.2.2.2.2.2.2.2.2.1.l,x.2.2.2.2.2.2.2.2.2.2.2.b,x.2.2.2.2.2.2.2.2.2.2.2.l]) (fun x=>[]) (fun x=>[qF true x.1 x.2.1 ((0:Int):Rat),qF true x.2.2.1 x.2.2.2.1 ((0:Int):Rat),qF true x.2.2.2.2.1 x.2.2.2.2.2.1 ((0:Int):Rat),qF true x.2.2.2.2.2.2.1 x.2.2.2.2.2.2.2.1 ((((64*p0)+(2*0)):Int):Rat),qF true x.2.2.2.2.2.2.2.2.1 x.2.2.2.2.2.2.2.2.2.1 (((64*p1):Int):Rat),qF true x.2.2.2.2.2.2.2.2.2.2.1 x.2.2.2.2.2.2.2.2.2.2.2 ((f:Int):Rat)]) [] kr rfl kr kr kr (fun _=> ?_) ?_
 ·
  refine zya (m':=[(74,.int .i64 p0),(71,.func (.func 8) #[] #[.pointer (some ⟨b2,0,none⟩),.pointer (some ⟨b4,0,none⟩)])]) (R':=[atF b4 0 [.int .i64 f],atF b2 0 [.int .i16 p0,.int .i16 p1,.int .i16 d]]) ((.c rfl (.c rfl .n)):SubM _ _) (List.Perm.refl _) (List.Perm.refl _) ((.of [0,1] rfl):SelR _ _ _)<|e_one 0 (zlb (first:=[]) (cap:=[.pointer (some ⟨b2,0,none⟩),.pointer (some ⟨b4,0,none⟩)]) rfl rfl rfl rfl rfl (.c rfl (.c rfl (.c rfl .n))) ce8 (zub (x9:=p0) (og:=0) (e9:=0) (bP:=b2) (bF:=b4) (p0:=p0) (p1:=p1) (d:=d) (f:=f) (hx:=by first|rfl|assumption|omega|decide) (he:=by first|rfl|assumption|omega|decide) (hp1:=ass) (hog:=by first|rfl|assumption|omega|decide) (hf:=by first|rfl|assumption|omega|decide)) (.c (j:=1) rfl (.c (j:=0) rfl .n)) ?_)
  rintro ⟨u4_1,u4_2,u4_3,u4_4,u4_5,u4_6,u4_7,u4_8,u4_9,u4_10,u4_11,u4_12⟩ -
  dsimp only [aq,nq,cq]
  refine zN kr ?_
  exact zka (u4_1,u4_2,u4_3,u4_4,u4_5,u4_6,u4_7,u4_8,u4_9,u4_10,u4_11,u4_12) trivial ((.c rfl .n):SubM _ _) (ho:=oN) ((.of [0,1,2,3,4,5] rfl):SelR _ _ _)
 refine a_step 12 rfl (X:=Wd×Wd×Wd×Wd×Wd×Wd×Wd×Wd×Wd×Wd×Wd×Wd) (fun x=> .agg #[x.1.b,x.1.l,x.2.1.b,x.2.1.l,x.2.2.1.b,x.2.2.1.l,x.2.2.2.1.b,x.2.2.2.1.l,x.2.2.2.2.1.b,x.2.2.2.2.1.l,x.2.2.2.2.2.1.b,x.2.2.2.2.2.1.l,x.2.2.2.2.2.2.1.b,x.2.2.2.2.2.2.1.l,x.2.2.2.2.2.2.2.1.b,x.2.2.2.2.2.2.2.1.l,x.2.2.2.2.2.2.2.2.1.b,x.2.2.2.2.2.2.2.2.1.l,x.2.2.2.2.2.2.2.2.2.1.b,x.2.2.2.2.2.2.2.2.2.1.l,x.2.2.2.2.2.2.2.2.2.2.1.b,x.2.2.2.2.2.2.2.2.2.2.1.l,x.2.2.2.2.2.2.2.2.2.2.2.b,x.2.2.2.2.2.2.2.2.2.2.2.l]) (fun x=>[]) (fun x=>[qF true x.1 x.2.1 ((b:Int):Rat),qF true x.2.2.1 x.2.2.2.1 ((0:Int):Rat),qF true x.2.2.2.2.1 x.2.2.2.2.2.1 ((0:Int):Rat),qF true x.2.2.2.2.2.2.1 x.2.2.2.2.2.2.2.1 ((((64*(p0 - d))+(2*0)):Int):Rat),qF true x.2.2.2.2.2.2.2.2.1 x.2.2.2.2.2.2.2.2.2.1 (((64*p1):Int):Rat),qF true x.2.2.2.2.2.2.2.2.2.2.1 x.2.2.2.2.2.2.2.2.2.2.2 ((f:Int):Rat)]) [] kr rfl kr kr kr (fun _=> ?_) ?_
 ·
  refine zya (m':=[(82,.int .i64 b),(81,.int .i64 (p0 - d)),(76,.func (.func 8) #[] #[.pointer (some ⟨b2,0,none⟩),.pointer (some ⟨b4,0,none⟩)])]) (R':=[atF b4 0 [.int .i64 f],atF b2 0 [.int .i16 p0,.int .i16 p1,.int .i16 d]]) (mR rfl) (List.Perm.refl _) (List.Perm.refl _) ((.of [0,1] rfl):SelR _ _ _)<|e_one 0 (zlb (first:=[]) (cap:=[.pointer (some ⟨b2,0,none⟩),.pointer (some ⟨b4,0,none⟩)]) rfl rfl rfl rfl rfl (.c rfl (.c rfl (.c rfl .n))) ce8 (zub (x9:=(p0 - d)) (og:=b) (e9:=0) (bP:=b2) (bF:=b4) (p0:=p0) (p1:=p1) (d:=d) (f:=f) (hx:=by first|rfl|assumption|omega|decide) (he:=by first|rfl|assumption|omega|decide) (hp1:=ass) (hog:=by first|rfl|assumption|omega|decide) (hf:=by first|rfl|assumption|omega|decide)) (.c (j:=1) rfl (.c (j:=0) rfl .n)) ?_)
  rintro ⟨u12_1,u12_2,u12_3,u12_4,u12_5,u12_6,u12_7,u12_8,u12_9,u12_10,u12_11,u12_12⟩ -
  dsimp only [aq,nq,cq]
  refine zN kr ?_
  exact zka (u12_1,u12_2,u12_3,u12_4,u12_5,u12_6,u12_7,u12_8,u12_9,u12_10,u12_11,u12_12) trivial ((.c rfl .n):SubM _ _) (ho:=oN) ((.of [0,1,2,3,4,5] rfl):SelR _ _ _)
 refine a_step 13 rfl (X:=Nat) (fun x=> .pointer (some ⟨x,0,none⟩)) (fun x=>[boxA x 40 [.bool false,.slice none 0 0,.bool false,.slice none 0 0,.bool false,.slice none 0 0,.bool false,.slice none 0 0,.bool false,.slice none 0 0,.bool false,.slice none 0 0,.bool false,.slice none 0 0,.bool false,.slice none 0 0,.bool false,.slice none 0 0,.bool false,.slice none 0 0,.bool false,.slice none 0 0,.bool false,.slice none 0 0]]) (fun x=>[]) [] kr rfl kr kr kr (fun _=> ?_) ?_
 ·
  refine zya (m':=[]) (R':=[]) (.n:SubM _ _) (List.Perm.refl _) (List.Perm.refl _) sN<|e_one 0 (zwb rfl rfl rfl rfl (zo zr40 rfl) (fun u13_1 _=> ?_))
  refine zN kr ?_
  exact zka u13_1 trivial ((.c rfl .n):SubM _ _) (ho:=(o0 rfl)) sN
 refine a_step 14 rfl (X:=Nat) (fun x=> .pointer (some ⟨x,0,none⟩)) (fun x=>[boxA x 40 [.bool false,.slice none 0 0,.bool false,.slice none 0 0,.bool false,.slice none 0 0,.bool false,.slice none 0 0,.bool false,.slice none 0 0,.bool false,.slice none 0 0,.bool false,.slice none 0 0,.bool false,.slice none 0 0,.bool false,.slice none 0 0,.bool false,.slice none 0 0,.bool false,.slice none 0 0,.bool false,.slice none 0 0]]) (fun x=>[]) [] kr rfl kr kr kr (fun _=> ?_) ?_
 ·
  refine zya (m':=[]) (R':=[]) (.n:SubM _ _) (List.Perm.refl _) (List.Perm.refl _) sN<|e_one 0 (zwb rfl rfl rfl rfl (zo zr40 rfl) (fun u14_1 _=> ?_))
  refine zN kr ?_
  exact zka u14_1 trivial ((.c rfl .n):SubM _ _) (ho:=(o0 rfl)) sN
 refine a_fin (k':=2) (L':=(lb 17 32767)) kr kr kr kr kr kr kr ?_
 rintro g14_0 g13_0 ⟨g12_0,g12_1,g12_2,g12_3,g12_4,g12_5,g12_6,g12_7,g12_8,g12_9,g12_10,g12_11⟩ ⟨g4_0,g4_1,g4_2,g4_3,g4_4,g4_5,g4_6,g4_7,g4_8,g4_9,g4_10,g4_11⟩
 refine zya (m':=[(14,.pointer (some ⟨g14_0,0,none⟩)),(13,.pointer (some ⟨g13_0,0,none⟩)),(83,.agg (cw [g12_0,g12_1,g12_2,g12_3,g12_4,g12_5,g12_6,g12_7,g12_8,g12_9,g12_10,g12_11]).toArray),(75,.agg (cw [g4_0,g4_1,g4_2,g4_3,g4_4,g4_5,g4_6,g4_7,g4_8,g4_9,g4_10,g4_11]).toArray),(82,.int .i64 b),(81,.int .i64 (p0 - d)),(76,.func (.func 8) #[] #[.pointer (some ⟨b2,0,none⟩),.pointer (some ⟨b4,0,none⟩)]),(74,.int .i64 p0),(71,.func (.func 8) #[] #[.pointer (some ⟨b2,0,none⟩),.pointer (some ⟨b4,0,none⟩)]),(12,.func (.func 8) #[] #[.pointer (some ⟨b2,0,none⟩),.pointer (some ⟨b4,0,none⟩)]),(11,.int .i64 0),(10,.pointer (some ⟨b9,0,none⟩)),(9,.int .i64 d),(8,.int .i64 b),(7,.pointer (some ⟨b4,0,none⟩)),(6,.bool false),(5,.pointer (some ⟨b3,0,none⟩)),(4,.pointer (some ⟨b2,0,none⟩))]) (OW':=[boxA g14_0 40 (cw [wz,wz,wz,wz,wz,wz,wz,wz,wz,wz,wz,wz]),boxA g13_0 40 (cw [wz,wz,wz,wz,wz,wz,wz,wz,wz,wz,wz,wz])]) (R':=[qF true g12_0 g12_1 ((b:Int):Rat),qF true g12_2 g12_3 ((0:Int):Rat),qF true g12_4 g12_5 ((0:Int):Rat),qF true g12_6 g12_7 ((((64*(p0 - d))+(2*0)):Int):Rat),qF true g12_8 g12_9 (((64*p1):Int):Rat),qF true g12_10 g12_11 ((f:Int):Rat),qF true g4_0 g4_1 ((0:Int):Rat),qF true g4_2 g4_3 ((0:Int):Rat),qF true g4_4 g4_5 ((0:Int):Rat),qF true g4_6 g4_7 ((((64*p0)+(2*0)):Int):Rat),qF true g4_8 g4_9 (((64*p1):Int):Rat),qF true g4_10 g4_11 ((f:Int):Rat),atF b4 0 [.int .i64 f],atF b2 0 [.int .i16 p0,.int .i16 p1,.int .i16 d],qF true w35 w46 (Rat.divInt (f*b) (32*((2*d)+1))),qF true w57 w68 (Rat.divInt (f*b) (32*((2*d) - 1)))]) (mR rfl) (List.Perm.refl _) (List.Perm.refl _) ((.of [0,1,2,3,4,5,6,7,8,9,10,11,12,13,14,15] rfl):SelR _ _ _)<|zDa (zba (i:=1) rfl)<|e_one 15 (zr kr rfl rfl rfl rfl rfl sz40 rfl (.t8 (.t8 (.t8 .nil))) ?_)
 refine zDa (zba (i:=1) rfl)<|e_one 16 (zr kr rfl rfl rfl rfl rfl sz40 rfl (.t8 (.t8 (.t8 .nil))) ?_)
 refine zN kr<|zc<|ze<|za<|e_ru (zd 1 ty40 rfl rfl (.t8 (.t8 (.t8 .nil))))<|e_ru (zd 0 ty40 rfl rfl (.t8 (.t8 (.t8 .nil))))<|zva rfl rfl (zGa (r:=rRy) (k:=2) yh inf40 rfl dd dd dd (.c (x:=(⟨((0:Int):Rat),((0:Int):Rat),((0:Int):Rat),((((64*p0)+(2*0)):Int):Rat),(((64*p1):Int):Rat),((f:Int):Rat)⟩:Td.Ry)) (cs:=[g4_0.b,g4_0.l,g4_1.b,g4_1.l,g4_2.b,g4_2.l,g4_3.b,g4_3.l,g4_4.b,g4_4.l,g4_5.b,g4_5.l,g4_6.b,g4_6.l,g4_7.b,g4_7.l,g4_8.b,g4_8.l,g4_9.b,g4_9.l,g4_10.b,g4_10.l,g4_11.b,g4_11.l]) (g4_0,g4_1,g4_2,g4_3,g4_4,g4_5,g4_6,g4_7,g4_8,g4_9,g4_10,g4_11) rfl rfl rfl (fun g hr=>⟨Holds.get 6 rfl hr,Holds.get 7 rfl hr,Holds.get 8 rfl hr,Holds.get 9 rfl hr,Holds.get 10 rfl hr,Holds.get 11 rfl hr⟩) (.c (x:=(⟨((b:Int):Rat),((0:Int):Rat),((0:Int):Rat),((((64*(p0 - d))+(2*0)):Int):Rat),(((64*p1):Int):Rat),((f:Int):Rat)⟩:Td.Ry)) (cs:=[g12_0.b,g12_0.l,g12_1.b,g12_1.l,g12_2.b,g12_2.l,g12_3.b,g12_3.l,g12_4.b,g12_4.l,g12_5.b,g12_5.l,g12_6.b,g12_6.l,g12_7.b,g12_7.l,g12_8.b,g12_8.l,g12_9.b,g12_9.l,g12_10.b,g12_10.l,g12_11.b,g12_11.l]) (g12_0,g12_1,g12_2,g12_3,g12_4,g12_5,g12_6,g12_7,g12_8,g12_9,g12_10,g12_11) rfl rfl rfl (fun g hr=>⟨Holds.get 0 rfl hr,Holds.get 1 rfl hr,Holds.get 2 rfl hr,Holds.get 3 rfl hr,Holds.get 4 rfl hr,Holds.get 5 rfl hr⟩) .n))) (fun b10 _=> ?_)
 refine zva rfl rfl (zH (enc:=fun z:Int=>[.int .i64 z]) (ok:=InK .i64) (h1:=fun _=>rfl) (h2:=fun _=>rfl) (k:=2) yd inf3 rfl dd dd dd (.c (x:=1) rfl rfl (fun _ _=>by exact zga.2 om) (.c (x:=1) rfl rfl (fun _ _=>by exact zga.2 om) .n))) (fun b11 _=> ?_)
 refine zea 1 rfl (.s .z)<|zea 0 rfl .z<|zq rfl rfl (.c rfl (.c rfl .n)) ce10 (zYc (p:=some ⟨b10,0,none⟩) (nL:=2) (cap:=2) (l:=[(⟨((0:Int):Rat),((0:Int):Rat),((0:Int):Rat),((((64*p0)+(2*0)):Int):Rat),(((64*p1):Int):Rat),((f:Int):Rat)⟩:Td.Ry),(⟨((b:Int):Rat),((0:Int):Rat),((0:Int):Rat),((((64*(p0 - d))+(2*0)):Int):Rat),(((64*p1):Int):Rat),((f:Int):Rat)⟩:Td.Ry)]) (pW:=some ⟨b11,0,none⟩) (cW:=2) (W:=[1,1]) (pa:=(Td.pX b ((64*p0)+(2*0)) ((64*(p0 - d))+(2*0)))) (pb:=(Td.pY b ((64*p0)+(2*0)) ((64*(p0 - d))+(2*0)) (64*p1))) (pc:=(Td.pZ f b ((64*p0)+(2*0)) ((64*(p0 - d))+(2*0)))) (hok:=by exact hC.ok) (hnul:=by exact hC.nul) (hsol:=by exact hC.sol) (hbpa:=by exact hC.hqs.1) (hbpb:=by exact hC.hqs.2.1) (hbpc:=by exact hC.hqs.2.2)) (.c (j:=1) rfl (.c (j:=0) rfl .n)) ?_
 rintro ⟨w312,w413,w514,w615,w716,w817,w918,w1019⟩ -
 dsimp only [aq,nq,cq]
 refine e_mv rfl<|e_p (zm rfl rfl)<|e_p (zm rfl rfl)<|e_p (zm rfl rfl)<|zD rfl rfl (zo zr38 rfl) (fun b20=> ?_)
 refine zD rfl rfl (zo zr32 rfl) (fun b21=> ?_)
 refine zk 1 rfl rfl rfl rfl rfl sz38 rfl (.t8 (.t4 .nil)) (.s .z)<|zk 0 rfl rfl rfl rfl rfl sz32 rfl (.t4 .nil) .z<|e_p (zb rfl)<|zf<|zc<|ze ?_
 have e22:((Td.ss ([(⟨((0:Int):Rat),((0:Int):Rat),((0:Int):Rat),((((64*p0)+(2*0)):Int):Rat),(((64*p1):Int):Rat),((f:Int):Rat)⟩:Td.Ry),(⟨((b:Int):Rat),((0:Int):Rat),((0:Int):Rat),((((64*(p0 - d))+(2*0)):Int):Rat),(((64*p1):Int):Rat),((f:Int):Rat)⟩:Td.Ry)]) ([1,1]) (Td.pX b ((64*p0)+(2*0)) ((64*(p0 - d))+(2*0))) (Td.pY b ((64*p0)+(2*0)) ((64*(p0 - d))+(2*0)) (64*p1)) (Td.pZ f b ((64*p0)+(2*0)) ((64*(p0 - d))+(2*0))) 2):Rat)=((0:Int):Rat):=by exact hC.ss
 rw [e22]
 refine za<|e_ru (zi (j:=0) 18 ty3 rfl rfl rfl rfl)<|e_mv rfl<|e_p (zua (z:=(f*b)) rfl rfl (w64 om))<|e_mv rfl<|e_p (zua (z:=(64*d)) rfl rfl (w64 om))<|zq rfl rfl (.c rfl (.c rfl .n)) ce11 (zod (z1:=(f*b)) (z2:=(64*d)) (hz1:=by first|rfl|assumption|omega|decide) (hz2:=by first|rfl|assumption|omega|decide) (hy:=by first|rfl|assumption|omega|decide)) (.n) ?_
 rintro ⟨w323,w424⟩ -
 dsimp only [aq,nq,cq]
 refine e_mv rfl<|e_p (zm rfl rfl)<|e_p (zm rfl rfl)<|zD rfl rfl (zo zr32 rfl) (fun b25=> ?_)
 refine zk 0 rfl rfl rfl rfl rfl sz32 rfl (.t4 .nil) .z<|e_p (zb rfl)<|zf<|zc<|ze<|ze<|za<|e_mv rfl<|e_p (zsa rfl rfl)<|e_mv rfl<|e_ru (zd 1 ty32 rfl rfl (.t4 .nil))<|zJ rfl rfl (.c rfl .n) ce12 (zQb (k1:=true) (u1:=w918) (v1:=w1019) (q1:=((0:Int):Rat)) (hl:=by first|rfl|assumption|omega|decide)) (.c (j:=4) rfl .n)<|e_p (zsa rfl rfl) ?_
 rw [show (decide (Big.sgq ((0:Int):Rat)≠0))=false from by exact decide_eq_false (fun h=>h rfl)]
 refine e_p (zC rfl rfl)<|e_mv rfl<|e_p (zM (i:=2) ye sz32 rfl rfl dd rfl)<|e_ru (zd 2 ty32 rfl rfl (.s8 (.t4 .nil)))<|e_ru (zd 0 ty32 rfl rfl (.t4 .nil))<|zJ rfl rfl (.c rfl (.c rfl .n)) ce13 (zpd (u1:=w716) (v1:=w817) (q1:=(Td.pZ f b ((64*p0)+(2*0)) ((64*(p0 - d))+(2*0)))) (u2:=w323) (v2:=w424) (q2:=Rat.divInt (f*b) (64*d)) (hl:=by first|rfl|assumption|omega|decide)) (.c (j:=3) rfl (.c (j:=0) rfl .n)) ?_
 rw [show (decide ((Td.pZ f b ((64*p0)+(2*0)) ((64*(p0 - d))+(2*0)))=(Rat.divInt (f*b) (64*d))))=true from by exact decide_eq_true (by unfold Td.pZ;rw [show ((64*p0)+(2*0)) - ((64*(p0 - d))+(2*0))=64*d by omega])]
 refine e_p (zcb rfl)<|e_p (zC rfl rfl)<|zf<|zc<|zaa rfl rfl<|zx<|zc<|ze<|zW (OW:=[]) (O:=[boxA b25 32 (cw [w323,w424]),boxA b21 32 (cw [w918,w1019]),boxA b20 38 (cw [w312,w413,w514,w615,w716,w817]),emA,emA,boxA g14_0 40 (cw [g12_0,g12_1,g12_2,g12_3,g12_4,g12_5,g12_6,g12_7,g12_8,g12_9,g12_10,g12_11]),boxA g13_0 40 (cw [g4_0,g4_1,g4_2,g4_3,g4_4,g4_5,g4_6,g4_7,g4_8,g4_9,g4_10,g4_11]),boxA b9 34 (cw [w35,w46,w57,w68]),emA,boxA b3 26 [.int .i8 s1,.int .i8 s2],emA,boxA b1 22 [.int .i64 f,.int .i64 b]]) 100000 mixed (.then .ret) kr<|e_pv 0 rfl rfl (zM (i:=0) Tryz.underlying26 sz25 rfl rfl dd rfl)<|e_u 1 rfl rfl (zg 9 ty25 rfl rfl rfl)<|e_pv 2 rfl rfl (zt (z:=s1) rfl (by rw [Tryz.underlying25];rfl) ym (w64 om))<|e_pv 3 rfl rfl (zbb (z:=(s1).tmod 8) rfl rfl om rfl)<|e_pv 4 rfl rfl (zM (i:=1) Tryz.underlying26 sz25 rfl rfl dd rfl)<|e_u 5 rfl rfl (zg 9 ty25 rfl rfl rfl)<|e_pv 6 rfl rfl (zt (z:=s2) rfl (by rw [Tryz.underlying25];rfl) ym (w64 om))<|e_pv 7 rfl rfl (zbb (z:=(s2).tmod 8) rfl rfl om rfl)<|e_pv 8 rfl rfl (zb rfl)<|e_pv 9 rfl rfl (zb rfl)<|zN kr<|zc<|ze<|zoa (.c (i:=1) rfl (.c (i:=0) rfl (.c (i:=0) rfl (.c (i:=0) rfl (.c (i:=0) rfl (.c (i:=0) rfl (.c (i:=0) rfl (.c (i:=0) rfl (.c (i:=0) rfl (.c (i:=0) rfl (.c (i:=0) rfl (.c (i:=0) rfl .n))))))))))))<|zW (OW:=[boxA b21 32 (cw [w918,w1019])]) (O:=[boxA b25 32 (cw [w323,w424]),boxA b20 38 (cw [w312,w413,w514,w615,w716,w817]),emA,emA,boxA g14_0 40 (cw [g12_0,g12_1,g12_2,g12_3,g12_4,g12_5,g12_6,g12_7,g12_8,g12_9,g12_10,g12_11]),boxA g13_0 40 (cw [g4_0,g4_1,g4_2,g4_3,g4_4,g4_5,g4_6,g4_7,g4_8,g4_9,g4_10,g4_11]),boxA b9 34 (cw [w35,w46,w57,w68]),emA,boxA b3 26 [.int .i8 s1,.int .i8 s2],emA,boxA b1 22 [.int .i64 f,.int .i64 b]]) 23 mixed (.then .ret) kr<|e_dm 0 rfl rfl rfl<|e_pv 1 rfl rfl (zM (i:=0) yn sz23 rfl rfl dd rfl)<|e_u 2 rfl rfl (zi (j:=0) 20 ty23 rfl rfl rfl rfl)<|e_pv 3 rfl rfl (zt (z:=p0) rfl (by rw [yo];rfl) ym (w64 om))<|e_dm 4 rfl rfl rfl<|e_dm 6 rfl rfl rfl<|e_pv 7 rfl rfl (zM (i:=0) yn sz23 rfl rfl dd rfl)<|e_u 8 rfl rfl (zi (j:=0) 20 ty23 rfl rfl rfl rfl)<|e_pv 9 rfl rfl (zt (z:=p0) rfl (by rw [yo];rfl) ym (w64 om))<|e_dm 10 rfl rfl rfl<|e_pv 11 rfl rfl (zla (z:=(p0 - d)) rfl rfl (w64 om))<|e_dm 12 rfl rfl rfl<|e_dm 13 rfl rfl rfl<|zya (m':=[(138,.int .i64 ((s2).tmod 8)),(137,.int .i64 b),(136,.int .i64 (p0 - d)),(131,.func (.func 8) #[] #[.pointer (some ⟨b2,0,none⟩),.pointer (some ⟨b4,0,none⟩)]),(129,.int .i64 ((s1).tmod 8)),(128,.int .i64 p0),(125,.func (.func 8) #[] #[.pointer (some ⟨b2,0,none⟩),.pointer (some ⟨b4,0,none⟩)]),(17,.pointer (some ⟨b25,0,none⟩)),(11,.int .i64 0),(16,.pointer (some ⟨b21,0,none⟩)),(10,.pointer (some ⟨b9,0,none⟩)),(9,.int .i64 d),(8,.int .i64 b),(7,.pointer (some ⟨b4,0,none⟩)),(6,.bool false)]) (R':=[qF true w323 w424 (Rat.divInt (f*b) (64*d)),qF true w312 w413 (Td.pX b ((64*p0)+(2*0)) ((64*(p0 - d))+(2*0))),qF true w514 w615 (Td.pY b ((64*p0)+(2*0)) ((64*(p0 - d))+(2*0)) (64*p1)),qF true w716 w817 (Td.pZ f b ((64*p0)+(2*0)) ((64*(p0 - d))+(2*0))),qF true w918 w1019 ((0:Int):Rat),slF (rI .i64) (some ⟨b11,0,none⟩) 2 ([1,1]),slF rRy (some ⟨b10,0,none⟩) 2 ([(⟨((0:Int):Rat),((0:Int):Rat),((0:Int):Rat),((((64*p0)+(2*0)):Int):Rat),(((64*p1):Int):Rat),((f:Int):Rat)⟩:Td.Ry),(⟨((b:Int):Rat),((0:Int):Rat),((0:Int):Rat),((((64*(p0 - d))+(2*0)):Int):Rat),(((64*p1):Int):Rat),((f:Int):Rat)⟩:Td.Ry)]),qF true g12_0 g12_1 ((b:Int):Rat),qF true g12_2 g12_3 ((0:Int):Rat),qF true g12_4 g12_5 ((0:Int):Rat),qF true g12_6 g12_7 ((((64*(p0 - d))+(2*0)):Int):Rat),qF true g12_8 g12_9 (((64*p1):Int):Rat),qF true g12_10 g12_11 ((f:Int):Rat),qF true g4_0 g4_1 ((0:Int):Rat),qF true g4_2 g4_3 ((0:Int):Rat),qF true g4_4 g4_5 ((0:Int):Rat),qF true g4_6 g4_7 ((((64*p0)+(2*0)):Int):Rat),qF true g4_8 g4_9 (((64*p1):Int):Rat),qF true g4_10 g4_11 ((f:Int):Rat),atF b4 0 [.int .i64 f],atF b2 0 [.int .i16 p0,.int .i16 p1,.int .i16 d],qF true w35 w46 (Rat.divInt (f*b) (32*((2*d)+1))),qF true w57 w68 (Rat.divInt (f*b) (32*((2*d) - 1)))]) (mR rfl) (List.Perm.refl _) (List.Perm.refl _) ((.of [0,1,2,3,4,5,6,7,8,9,10,11,12,13,14,15,16,17,18,19,20,21,22] rfl):SelR _ _ _) ?_
 refine zOa (X:=Nat×Nat×Wd×Wd×Wd×Wd×Wd×Wd×Wd×Wd×Nat) (k':=0) (L':=(lb 26 67108863)) (fun (u15_1r2,u16_1r2,u17_1r2,u17_2r2,u17_3r2,u17_4r2,u17_5r2,u17_6r2,u17_7r2,u17_8r2,u22_1r2)=>([(11,.int .i64 0),(21,.pointer (some ⟨u22_1r2,0,none⟩)),(17,.pointer (some ⟨b25,0,none⟩)),(16,.pointer (some ⟨b21,0,none⟩)),(10,.pointer (some ⟨b9,0,none⟩)),(9,.int .i64 d),(8,.int .i64 b),(7,.pointer (some ⟨b4,0,none⟩)),(6,.bool false)],[boxA b21 32 (cw [u17_7r2,u17_8r2]),boxA u22_1r2 38 (cw [u17_1r2,u17_2r2,u17_3r2,u17_4r2,u17_5r2,u17_6r2])],[emA,emA,boxA b25 32 (cw [w323,w424]),boxA b20 38 (cw [w312,w413,w514,w615,w716,w817]),emA,emA,boxA g14_0 40 (cw [g12_0,g12_1,g12_2,g12_3,g12_4,g12_5,g12_6,g12_7,g12_8,g12_9,g12_10,g12_11]),boxA g13_0 40 (cw [g4_0,g4_1,g4_2,g4_3,g4_4,g4_5,g4_6,g4_7,g4_8,g4_9,g4_10,g4_11]),boxA b9 34 (cw [w35,w46,w57,w68]),emA,boxA b3 26 [.int .i8 s1,.int .i8 s2],emA,boxA b1 22 [.int .i64 f,.int .i64 b]],[qF true u17_1r2 u17_2r2 (Td.pX b ((64*p0)+(2*((s1).tmod 8))) ((64*(p0 - d))+(2*((s2).tmod 8)))),qF true u17_3r2 u17_4r2 (Td.pY b ((64*p0)+(2*((s1).tmod 8))) ((64*(p0 - d))+(2*((s2).tmod 8))) (64*p1)),qF true u17_5r2 u17_6r2 (Td.pZ f b ((64*p0)+(2*((s1).tmod 8))) ((64*(p0 - d))+(2*((s2).tmod 8)))),qF true u17_7r2 u17_8r2 (Td.ss ([(⟨((0:Int):Rat),((0:Int):Rat),((0:Int):Rat),((((64*p0)+(2*((s1).tmod 8))):Int):Rat),(((64*p1):Int):Rat),((f:Int):Rat)⟩:Td.Ry),(⟨((b:Int):Rat),((0:Int):Rat),((0:Int):Rat),((((64*(p0 - d))+(2*((s2).tmod 8))):Int):Rat),(((64*p1):Int):Rat),((f:Int):Rat)⟩:Td.Ry)]) ([1,1]) (Td.pX b ((64*p0)+(2*((s1).tmod 8))) ((64*(p0 - d))+(2*((s2).tmod 8)))) (Td.pY b ((64*p0)+(2*((s1).tmod 8))) ((64*(p0 - d))+(2*((s2).tmod 8))) (64*p1)) (Td.pZ f b ((64*p0)+(2*((s1).tmod 8))) ((64*(p0 - d))+(2*((s2).tmod 8)))) 2),slF (rI .i64) (some ⟨u16_1r2,0,none⟩) 2 ([1,1]),slF rRy (some ⟨u15_1r2,0,none⟩) 2 ([(⟨((0:Int):Rat),((0:Int):Rat),((0:Int):Rat),((((64*p0)+(2*((s1).tmod 8))):Int):Rat),(((64*p1):Int):Rat),((f:Int):Rat)⟩:Td.Ry),(⟨((b:Int):Rat),((0:Int):Rat),((0:Int):Rat),((((64*(p0 - d))+(2*((s2).tmod 8))):Int):Rat),(((64*p1):Int):Rat),((f:Int):Rat)⟩:Td.Ry)]),qF true w323 w424 (Rat.divInt (f*b) (64*d)),qF true w312 w413 (Td.pX b ((64*p0)+(2*0)) ((64*(p0 - d))+(2*0))),qF true w514 w615 (Td.pY b ((64*p0)+(2*0)) ((64*(p0 - d))+(2*0)) (64*p1)),qF true w716 w817 (Td.pZ f b ((64*p0)+(2*0)) ((64*(p0 - d))+(2*0))),slF (rI .i64) (some ⟨b11,0,none⟩) 2 ([1,1]),slF rRy (some ⟨b10,0,none⟩) 2 ([(⟨((0:Int):Rat),((0:Int):Rat),((0:Int):Rat),((((64*p0)+(2*0)):Int):Rat),(((64*p1):Int):Rat),((f:Int):Rat)⟩:Td.Ry),(⟨((b:Int):Rat),((0:Int):Rat),((0:Int):Rat),((((64*(p0 - d))+(2*0)):Int):Rat),(((64*p1):Int):Rat),((f:Int):Rat)⟩:Td.Ry)]),qF true g12_0 g12_1 ((b:Int):Rat),qF true g12_2 g12_3 ((0:Int):Rat),qF true g12_4 g12_5 ((0:Int):Rat),qF true g12_6 g12_7 ((((64*(p0 - d))+(2*0)):Int):Rat),qF true g12_8 g12_9 (((64*p1):Int):Rat),qF true g12_10 g12_11 ((f:Int):Rat),qF true g4_0 g4_1 ((0:Int):Rat),qF true g4_2 g4_3 ((0:Int):Rat),qF true g4_4 g4_5 ((0:Int):Rat),qF true g4_6 g4_7 ((((64*p0)+(2*0)):Int):Rat),qF true g4_8 g4_9 (((64*p1):Int):Rat),qF true g4_10 g4_11 ((f:Int):Rat),atF b4 0 [.int .i64 f],atF b2 0 [.int .i16 p0,.int .i16 p1,.int .i16 d],qF true w35 w46 (Rat.divInt (f*b) (32*((2*d)+1))),qF true w57 w68 (Rat.divInt (f*b) (32*((2*d) - 1)))])) ?_ (fun hD0=> ?_)
 ·
  rintro ⟨u15_1r2,u16_1r2,u17_1r2,u17_2r2,u17_3r2,u17_4r2,u17_5r2,u17_6r2,u17_7r2,u17_8r2,u22_1r2⟩
  dsimp only [cw]
  refine zN kr<|zc<|ze<|ze ?_
  have e26:((Td.ss ([(⟨((0:Int):Rat),((0:Int):Rat),((0:Int):Rat),((((64*p0)+(2*((s1).tmod 8))):Int):Rat),(((64*p1):Int):Rat),((f:Int):Rat)⟩:Td.Ry),(⟨((b:Int):Rat),((0:Int):Rat),((0:Int):Rat),((((64*(p0 - d))+(2*((s2).tmod 8))):Int):Rat),(((64*p1):Int):Rat),((f:Int):Rat)⟩:Td.Ry)]) ([1,1]) (Td.pX b ((64*p0)+(2*((s1).tmod 8))) ((64*(p0 - d))+(2*((s2).tmod 8)))) (Td.pY b ((64*p0)+(2*((s1).tmod 8))) ((64*(p0 - d))+(2*((s2).tmod 8))) (64*p1)) (Td.pZ f b ((64*p0)+(2*((s1).tmod 8))) ((64*(p0 - d))+(2*((s2).tmod 8)))) 2):Rat)=((0:Int):Rat):=by exact hC2.ss
  rw [e26]
  refine za<|e_mv rfl<|e_p (zsa rfl rfl)<|e_mv rfl<|e_ru (zd 0 ty32 rfl rfl (.t4 .nil))<|zJ rfl rfl (.c rfl .n) ce12 (zQb (k1:=true) (u1:=u17_7r2) (v1:=u17_8r2) (q1:=((0:Int):Rat)) (hl:=by first|rfl|assumption|omega|decide)) (.c (j:=3) rfl .n)<|e_p (zsa rfl rfl) ?_
  rw [show (decide (Big.sgq ((0:Int):Rat)≠0))=false from by exact decide_eq_false (fun h=>h rfl)]
  refine e_p (zC rfl rfl)<|e_mv rfl<|e_p (zh Tryz.underlying34 rfl sz32 rfl rfl)<|e_ru (zd 10 ty32 rfl rfl (.t4 .nil))<|e_p (zM (i:=2) ye sz32 rfl rfl dd rfl)<|e_ru (zd 1 ty32 rfl rfl (.s8 (.t4 .nil)))<|zJ rfl rfl (.c rfl (.c rfl .n)) ce14 (zTa (k1:=true) (u1:=w35) (v1:=w46) (q1:=(Rat.divInt (f*b) (32*((2*d)+1)))) (k2:=true) (u2:=u17_5r2) (v2:=u17_6r2) (q2:=(Td.pZ f b ((64*p0)+(2*((s1).tmod 8))) ((64*(p0 - d))+(2*((s2).tmod 8))))) (hl:=by first|rfl|assumption|omega|decide)) (.c (j:=26) rfl (.c (j:=2) rfl .n))<|e_p (zpa rfl rfl) ?_
  rw [show (decide (0<Big.sgq ((Rat.divInt (f*b) (32*((2*d)+1))) - (Td.pZ f b ((64*p0)+(2*((s1).tmod 8))) ((64*(p0 - d))+(2*((s2).tmod 8)))))))=false from by exact decide_eq_false (Td.lo_le ho hC2.hd om)]
  refine e_p (zC rfl rfl)<|e_mv rfl<|e_p (zM (i:=2) ye sz32 rfl rfl dd rfl)<|e_ru (zd 1 ty32 rfl rfl (.s8 (.t4 .nil)))<|e_p (zh Tryz.underlying34 rfl sz32 rfl rfl)<|e_ru (zd 10 ty32 rfl rfl (.s4 (.t4 .nil)))<|zJ rfl rfl (.c rfl (.c rfl .n)) ce14 (zTa (k1:=true) (u1:=u17_5r2) (v1:=u17_6r2) (q1:=(Td.pZ f b ((64*p0)+(2*((s1).tmod 8))) ((64*(p0 - d))+(2*((s2).tmod 8))))) (k2:=true) (u2:=w57) (v2:=w68) (q2:=(Rat.divInt (f*b) (32*((2*d) - 1)))) (hl:=by first|rfl|assumption|omega|decide)) (.c (j:=2) rfl (.c (j:=27) rfl .n))<|e_p (zpa rfl rfl) ?_
  rw [show (decide (0<Big.sgq ((Td.pZ f b ((64*p0)+(2*((s1).tmod 8))) ((64*(p0 - d))+(2*((s2).tmod 8)))) - (Rat.divInt (f*b) (32*((2*d) - 1))))))=false from by exact decide_eq_false (Td.le_hi ho om om)]
  refine e_p (zC rfl rfl)<|zf<|zc<|zaa rfl rfl<|zx<|zc<|ze<|za<|e_mv rfl<|zva rfl rfl (zH (enc:=fun z:Int=>[.int .i64 z]) (ok:=InK .i64) (h1:=fun _=>rfl) (h2:=fun _=>rfl) (k:=1) yd inf3 rfl dd dd dd (.c (x:=d) rfl rfl (fun _ _=>by exact zga.2 om) .n)) (fun b27 _=> ?_)
  refine e_p (zR zr53 rfl yp (.c sz3 (.c sz3 (.c sz46 .n))) (.c rfl (.c rfl (.c rfl .n))) (.c rfl rfl rfl (.take .nil) (.c rfl rfl rfl (.skip (.take .nil)) (.c rfl rfl rfl (.s2 (.take .nil)) .n))))<|e_ru (zi (j:=0) 24 ty3 rfl rfl rfl rfl)<|e_mv rfl<|zea 0 rfl .z<|zq rfl rfl (.c rfl (.c rfl (.c rfl .n))) ce15 (zid (p:=some ⟨b27,0,none⟩) (cap:=1) (d:=d) (f:=f) (b:=b) (ho:=ass) (hd:=ass)) (.c (j:=0) rfl .n) ?_
  rintro ⟨p328,c329⟩ -
  dsimp only [aq,nq,cq]
  refine e_mv rfl<|e_p (zm rfl rfl)<|e_p (zm rfl rfl)<|zD rfl rfl (zo zr53 rfl) (fun b30=> ?_)
  refine zk 0 rfl rfl rfl rfl rfl sz53 rfl (.t2 (.take .nil)) .z<|e_p (zb rfl)<|zf<|zc<|ze<|ze<|za<|e_mv rfl<|e_p (zsa rfl rfl)<|e_mv rfl<|e_p (zh yp rfl sz46 rfl rfl)<|e_ru (zg 0 ty46 rfl rfl rfl)<|e_p (zG yd rfl)<|e_p (zsa rfl rfl)<|e_p (zC rfl rfl)<|zf<|zc<|zaa rfl rfl<|zx<|zc<|ze<|za<|zq rfl rfl (.c rfl (.c rfl .n)) ce11 (zod (z1:=1) (z2:=2) (hz1:=by first|rfl|assumption|omega|decide) (hz2:=by first|rfl|assumption|omega|decide) (hy:=by first|rfl|assumption|omega|decide)) (.n) ?_
  rintro ⟨w331,w432⟩ -
  dsimp only [aq,nq,cq]
  refine e_mv rfl<|e_p (zm rfl rfl)<|e_p (zm rfl rfl)<|zD rfl rfl (zo zr32 rfl) (fun b33=> ?_)
  refine zk 0 rfl rfl rfl rfl rfl sz32 rfl (.t4 .nil) .z<|e_p (zb rfl)<|zf<|zc<|ze<|zW (OW:=[]) (O:=[boxA b33 32 (cw [w331,w432]),boxA b30 53 [.int .i64 1,.int .i64 1,.slice p328 1 c329],emA,boxA b21 32 (cw [u17_7r2,u17_8r2]),boxA u22_1r2 38 (cw [u17_1r2,u17_2r2,u17_3r2,u17_4r2,u17_5r2,u17_6r2]),emA,emA,boxA b25 32 (cw [w323,w424]),boxA b20 38 (cw [w312,w413,w514,w615,w716,w817]),emA,emA,boxA g14_0 40 (cw [g12_0,g12_1,g12_2,g12_3,g12_4,g12_5,g12_6,g12_7,g12_8,g12_9,g12_10,g12_11]),boxA g13_0 40 (cw [g4_0,g4_1,g4_2,g4_3,g4_4,g4_5,g4_6,g4_7,g4_8,g4_9,g4_10,g4_11]),boxA b9 34 (cw [w35,w46,w57,w68]),emA,boxA b3 26 [.int .i8 s1,.int .i8 s2],emA,boxA b1 22 [.int .i64 f,.int .i64 b]]) 9 mixed (.then .ret) kr<|e_pv 0 rfl rfl (zh yp rfl sz46 rfl rfl)<|e_u 1 rfl rfl (zg 1 ty46 rfl rfl rfl)<|zra (x0:=(([(min (Td.dep f b d) 0x100000)]).getD 0 0)) 2 rfl rfl kr kr 1 0 rfl yd sz3 rfl rfl rfl (by first|exact rfl|omega) rfl rfl (gD (d:=0) (by first|omega|exact Nat.zero_lt_one)) (fun b34 o35 hok36=> ?_)
  replace hok36:=zga.1 hok36
  refine e_u 3 rfl rfl (zi (j:=0) 0 ty3 rfl rfl rfl rfl)<|e_u 5 rfl rfl (zd 7 ty32 rfl rfl (.t4 .nil))<|zya (m':=[(195,.agg (cw [w323,w424]).toArray),(193,.int .i64 (([(min (Td.dep f b d) 0x100000)]).getD 0 0)),(23,.pointer (some ⟨b33,0,none⟩)),(22,.pointer (some ⟨b30,0,none⟩)),(17,.pointer (some ⟨b25,0,none⟩)),(6,.bool false)]) (R':=[qF true w331 w432 (Rat.divInt 1 2),slF (rI .i64) p328 c329 ([(min (Td.dep f b d) 0x100000)]),qF true u17_1r2 u17_2r2 (Td.pX b ((64*p0)+(2*((s1).tmod 8))) ((64*(p0 - d))+(2*((s2).tmod 8)))),qF true u17_3r2 u17_4r2 (Td.pY b ((64*p0)+(2*((s1).tmod 8))) ((64*(p0 - d))+(2*((s2).tmod 8))) (64*p1)),qF true u17_5r2 u17_6r2 (Td.pZ f b ((64*p0)+(2*((s1).tmod 8))) ((64*(p0 - d))+(2*((s2).tmod 8)))),qF true u17_7r2 u17_8r2 ((0:Int):Rat),qF true w323 w424 (Rat.divInt (f*b) (64*d)),qF true w312 w413 (Td.pX b ((64*p0)+(2*0)) ((64*(p0 - d))+(2*0))),qF true w514 w615 (Td.pY b ((64*p0)+(2*0)) ((64*(p0 - d))+(2*0)) (64*p1)),qF true w716 w817 (Td.pZ f b ((64*p0)+(2*0)) ((64*(p0 - d))+(2*0))),qF true g12_0 g12_1 ((b:Int):Rat),qF true g12_2 g12_3 ((0:Int):Rat),qF true g12_4 g12_5 ((0:Int):Rat),qF true g12_6 g12_7 ((((64*(p0 - d))+(2*0)):Int):Rat),qF true g12_8 g12_9 (((64*p1):Int):Rat),qF true g12_10 g12_11 ((f:Int):Rat),qF true g4_0 g4_1 ((0:Int):Rat),qF true g4_2 g4_3 ((0:Int):Rat),qF true g4_4 g4_5 ((0:Int):Rat),qF true g4_6 g4_7 ((((64*p0)+(2*0)):Int):Rat),qF true g4_8 g4_9 (((64*p1):Int):Rat),qF true g4_10 g4_11 ((f:Int):Rat),qF true w35 w46 (Rat.divInt (f*b) (32*((2*d)+1))),qF true w57 w68 (Rat.divInt (f*b) (32*((2*d) - 1)))]) (mR rfl) (List.Perm.refl _) (List.Perm.refl _) ((.of [1,2,4,5,6,7,10,11,12,13,16,17,18,19,20,21,22,23,24,25,26,27,30,31] rfl):SelR _ _ _)<|a_start<|a_step 4 rfl (X:=Wd×Wd) (fun x=> .agg #[x.1.b,x.1.l,x.2.b,x.2.l]) (fun x=>[]) (fun x=>[qF true x.1 x.2 (((([(min (Td.dep f b d) 0x100000)]).getD 0 0):Int):Rat)]) [] kr rfl kr kr kr (fun _=> ?_) ?_
  ·
   refine zya (m':=[(193,.int .i64 (([(min (Td.dep f b d) 0x100000)]).getD 0 0))]) (R':=[]) ((.c rfl .n):SubM _ _) (List.Perm.refl _) (List.Perm.refl _) sN<|e_one 0 (zv rfl rfl rfl rfl (.c rfl .n) ce9 (zUa (z:=(([(min (Td.dep f b d) 0x100000)]).getD 0 0)) (hz:=by first|rfl|assumption|omega|decide)) (.n) ?_)
   rintro ⟨u4_1r3,u4_2r3⟩ -
   dsimp only [aq,nq,cq]
   refine zN kr ?_
   exact zka (u4_1r3,u4_2r3) trivial ((.c rfl .n):SubM _ _) (ho:=oN) (s0 rfl)
  refine a_step 6 rfl (X:=Wd×Wd) (fun x=> .agg #[x.1.b,x.1.l,x.2.b,x.2.l]) (fun x=>[]) (fun x=>[qF true x.1 x.2 ((((([(min (Td.dep f b d) 0x100000)]).getD 0 0):Int):Rat) - (Rat.divInt (f*b) (64*d)))]) [0] kr rfl kr kr kr (fun _=> ?_) ?_
  ·
   rintro ⟨g4_0r3,g4_1r3⟩
   refine zya (m':=[(194,.agg (cw [g4_0r3,g4_1r3]).toArray),(195,.agg (cw [w323,w424]).toArray)]) (R':=[qF true g4_0r3 g4_1r3 (((([(min (Td.dep f b d) 0x100000)]).getD 0 0):Int):Rat),qF true w323 w424 (Rat.divInt (f*b) (64*d))]) ((.c rfl (.c rfl .n)):SubM _ _) (List.Perm.refl _) (List.Perm.refl _) ((.of [0,7] rfl):SelR _ _ _)<|e_one 0 (zv rfl rfl rfl rfl (.c rfl (.c rfl .n)) ce17 (zce (k1:=true) (u1:=g4_0r3) (v1:=g4_1r3) (q1:=(((([(min (Td.dep f b d) 0x100000)]).getD 0 0):Int):Rat)) (k2:=true) (u2:=w323) (v2:=w424) (q2:=Rat.divInt (f*b) (64*d)) (hl:=by first|rfl|assumption|omega|decide)) (.c (j:=0) rfl (.c (j:=1) rfl .n)) ?_)
   rintro ⟨u6_1r3,u6_2r3⟩ -
   dsimp only [aq,nq,cq]
   refine zN kr ?_
   exact zka (u6_1r3,u6_2r3) trivial ((.c rfl .n):SubM _ _) (ho:=oN) (s0 rfl)
  refine a_step 7 rfl (X:=Wd×Wd) (fun x=> .agg #[x.1.b,x.1.l,x.2.b,x.2.l]) (fun x=>[]) (fun x=>[qF true x.1 x.2 (Big.qabs ((((([(min (Td.dep f b d) 0x100000)]).getD 0 0):Int):Rat) - (Rat.divInt (f*b) (64*d))))]) [0] kr rfl kr kr kr (fun _=> ?_) ?_
  ·
   rintro ⟨g6_0r3,g6_1r3⟩
   refine zya (m':=[(196,.agg (cw [g6_0r3,g6_1r3]).toArray)]) (R':=[qF true g6_0r3 g6_1r3 ((((([(min (Td.dep f b d) 0x100000)]).getD 0 0):Int):Rat) - (Rat.divInt (f*b) (64*d)))]) ((.c rfl .n):SubM _ _) (List.Perm.refl _) (List.Perm.refl _) (s0 rfl)<|e_one 0 (zv rfl rfl rfl rfl (.c rfl .n) ce16 (zTf (k1:=true) (u1:=g6_0r3) (v1:=g6_1r3) (q1:=(((([(min (Td.dep f b d) 0x100000)]).getD 0 0):Int):Rat) - (Rat.divInt (f*b) (64*d))) (hl:=by first|rfl|assumption|omega|decide)) (.c (j:=0) rfl .n) ?_)
   rintro ⟨u7_1r3,u7_2r3⟩ -
   dsimp only [aq,nq,cq]
   refine zN kr ?_
   exact zka (u7_1r3,u7_2r3) trivial ((.c rfl .n):SubM _ _) (ho:=oN) (s0 rfl)
  refine a_step 8 rfl (X:=Nat) (fun x=> .pointer (some ⟨x,0,none⟩)) (fun x=>[boxA x 32 [.bool false,.slice none 0 0,.bool false,.slice none 0 0]]) (fun x=>[]) [] kr rfl kr kr kr (fun _=> ?_) ?_
  ·
   refine zya (m':=[]) (R':=[]) (.n:SubM _ _) (List.Perm.refl _) (List.Perm.refl _) sN<|e_one 0 (zwb rfl rfl rfl rfl (zo zr32 rfl) (fun u8_1r3 _=> ?_))
   refine zN kr ?_
   exact zka u8_1r3 trivial ((.c rfl .n):SubM _ _) (ho:=(o0 rfl)) sN
  refine a_fin (k':=1) (L':=(lb 10 511)) kr kr kr kr kr kr kr ?_
  rintro g8_0r3 ⟨g7_0r3,g7_1r3⟩ _ _
  refine zya (m':=[(25,.pointer (some ⟨g8_0r3,0,none⟩)),(197,.agg (cw [g7_0r3,g7_1r3]).toArray),(195,.agg (cw [w323,w424]).toArray),(193,.int .i64 (([(min (Td.dep f b d) 0x100000)]).getD 0 0)),(23,.pointer (some ⟨b33,0,none⟩)),(22,.pointer (some ⟨b30,0,none⟩)),(17,.pointer (some ⟨b25,0,none⟩)),(6,.bool false)]) (OW':=[boxA g8_0r3 32 (cw [wz,wz])]) (R':=[qF true g7_0r3 g7_1r3 (Big.qabs ((((([(min (Td.dep f b d) 0x100000)]).getD 0 0):Int):Rat) - (Rat.divInt (f*b) (64*d)))),qF true w331 w432 (Rat.divInt 1 2),slF (rI .i64) p328 c329 ([(min (Td.dep f b d) 0x100000)]),qF true u17_1r2 u17_2r2 (Td.pX b ((64*p0)+(2*((s1).tmod 8))) ((64*(p0 - d))+(2*((s2).tmod 8)))),qF true u17_3r2 u17_4r2 (Td.pY b ((64*p0)+(2*((s1).tmod 8))) ((64*(p0 - d))+(2*((s2).tmod 8))) (64*p1)),qF true u17_5r2 u17_6r2 (Td.pZ f b ((64*p0)+(2*((s1).tmod 8))) ((64*(p0 - d))+(2*((s2).tmod 8)))),qF true u17_7r2 u17_8r2 ((0:Int):Rat),qF true w323 w424 (Rat.divInt (f*b) (64*d)),qF true w312 w413 (Td.pX b ((64*p0)+(2*0)) ((64*(p0 - d))+(2*0))),qF true w514 w615 (Td.pY b ((64*p0)+(2*0)) ((64*(p0 - d))+(2*0)) (64*p1)),qF true w716 w817 (Td.pZ f b ((64*p0)+(2*0)) ((64*(p0 - d))+(2*0))),qF true g12_0 g12_1 ((b:Int):Rat),qF true g12_2 g12_3 ((0:Int):Rat),qF true g12_4 g12_5 ((0:Int):Rat),qF true g12_6 g12_7 ((((64*(p0 - d))+(2*0)):Int):Rat),qF true g12_8 g12_9 (((64*p1):Int):Rat),qF true g12_10 g12_11 ((f:Int):Rat),qF true g4_0 g4_1 ((0:Int):Rat),qF true g4_2 g4_3 ((0:Int):Rat),qF true g4_4 g4_5 ((0:Int):Rat),qF true g4_6 g4_7 ((((64*p0)+(2*0)):Int):Rat),qF true g4_8 g4_9 (((64*p1):Int):Rat),qF true g4_10 g4_11 ((f:Int):Rat),qF true w35 w46 (Rat.divInt (f*b) (32*((2*d)+1))),qF true w57 w68 (Rat.divInt (f*b) (32*((2*d) - 1)))]) (mR rfl) (List.Perm.refl _) (List.Perm.refl _) ((.of [0,3,4,5,6,7,8,9,10,11,12,13,14,15,16,17,18,19,20,21,22,23,24,25,26] rfl):SelR _ _ _)<|e_one 9 (zr kr rfl rfl rfl rfl rfl sz32 rfl (.t4 .nil) ?_)
  refine zN kr<|zc<|ze<|zW (OW:=[]) (O:=[boxA g8_0r3 32 (cw [g7_0r3,g7_1r3]),boxA b33 32 (cw [w331,w432]),boxA b30 53 [.int .i64 1,.int .i64 1,.slice p328 1 c329],emA,boxA b21 32 (cw [u17_7r2,u17_8r2]),boxA u22_1r2 38 (cw [u17_1r2,u17_2r2,u17_3r2,u17_4r2,u17_5r2,u17_6r2]),emA,emA,boxA b25 32 (cw [w323,w424]),boxA b20 38 (cw [w312,w413,w514,w615,w716,w817]),emA,emA,boxA g14_0 40 (cw [g12_0,g12_1,g12_2,g12_3,g12_4,g12_5,g12_6,g12_7,g12_8,g12_9,g12_10,g12_11]),boxA g13_0 40 (cw [g4_0,g4_1,g4_2,g4_3,g4_4,g4_5,g4_6,g4_7,g4_8,g4_9,g4_10,g4_11]),boxA b9 34 (cw [w35,w46,w57,w68]),emA,boxA b3 26 [.int .i8 s1,.int .i8 s2],emA,boxA b1 22 [.int .i64 f,.int .i64 b]]) 100000 mixed (.then .ret) kr<|e_pv 0 rfl rfl (zh yp rfl sz46 rfl rfl)<|e_u 1 rfl rfl (zg 2 ty46 rfl rfl rfl)<|zra (x0:=(([(min (Td.dep f b d) 0x100000)]).getD 0 0)) 2 rfl rfl kr kr 2 0 rfl yd sz3 rfl rfl rfl (by first|exact rfl|omega) rfl rfl (gD (d:=0) (by first|omega|exact Nat.zero_lt_one)) (fun b37 o38 hok39=> ?_)
  replace hok39:=zga.1 hok39
  refine e_u 3 rfl rfl (zi (j:=0) 0 ty3 rfl rfl rfl rfl)<|e_pv 4 rfl rfl (zxa rfl rfl)<|zqd 5 rfl rfl kr kr rfl rfl (zna rfl) (fun h203=> ?_) (fun h203=> ?_)
  ·
   refine e_u 6 rfl rfl (zd 8 ty32 rfl rfl (.t4 .nil))<|e_one 7 (zv rfl rfl rfl rfl (.c rfl .n) ce9 (zUa (z:=0x100000) (hz:=by first|rfl|assumption|omega|decide)) (.n) ?_)
   rintro ⟨w340,w441⟩ -
   dsimp only [aq,nq,cq]
   refine e_one 8 (zAb rfl rfl rfl rfl (.c rfl (.c rfl .n)) ce14 (zTa (k1:=true) (u1:=w323) (v1:=w424) (q1:=Rat.divInt (f*b) (64*d)) (k2:=true) (u2:=w340) (v2:=w441) (q2:=((0x100000:Int):Rat)) (hl:=by first|rfl|assumption|omega|decide)) (.c (j:=9) rfl (.c (j:=0) rfl .n)) ?_)
   refine e_pv 9 rfl rfl (zMa rfl rfl)<|e_pv 10 rfl rfl (zC rfl rfl)<|zqd 11 rfl rfl kr kr rfl rfl (zna rfl) (fun h209=> ?_) (fun h209=> ?_)
   ·
    refine e_skip 12 rfl rfl<|e_skip 13 rfl rfl<|e_skip 14 rfl rfl<|e_skip 15 rfl rfl<|e_pv 16 rfl rfl (zC rfl rfl)<|e_pv 17 rfl rfl (zb rfl)<|zN kr<|zc<|zE ?_
    exact zy Tryz.results3 () trivial (zp rfl) (by first|rfl|exact congrArg Value.bool (decide_eq_true (Td.fin_or ho hd (fun h=>by first|exact absurd h.1 h203|exact absurd h.2 h209))).symm) (ho:=oN) sN
   ·
    refine e_u 12 rfl rfl (zd 0 ty32 rfl rfl (.t4 .nil))<|e_u 13 rfl rfl (zd 1 ty32 rfl rfl (.t4 .nil))<|e_one 14 (zAb rfl rfl rfl rfl (.c rfl (.c rfl .n)) ce14 (zTa (k1:=true) (u1:=g7_0r3) (v1:=g7_1r3) (q1:=(Big.qabs ((((([(min (Td.dep f b d) 0x100000)]).getD 0 0):Int):Rat) - (Rat.divInt (f*b) (64*d))))) (k2:=true) (u2:=w331) (v2:=w432) (q2:=Rat.divInt 1 2) (hl:=by first|rfl|assumption|omega|decide)) (.c (j:=2) rfl (.c (j:=3) rfl .n)) ?_)
    refine e_pv 15 rfl rfl (zId rfl rfl)<|e_pv 16 rfl rfl (zC rfl rfl)<|e_pv 17 rfl rfl (zb rfl)<|zN kr<|zc<|zE ?_
    exact zy Tryz.results3 () trivial (zp rfl) (by first|rfl|exact congrArg Value.bool (decide_eq_true (Td.fin_or ho hd (fun h=>by first|exact absurd h.1 h203|exact absurd h.2 h209))).symm) (ho:=oN) sN
  ·
   refine e_skip 6 rfl rfl<|e_skip 7 rfl rfl<|e_skip 8 rfl rfl<|e_skip 9 rfl rfl<|e_pv 10 rfl rfl (zC rfl rfl)<|e_dm 11 rfl rfl rfl<|e_u 12 rfl rfl (zd 0 ty32 rfl rfl (.t4 .nil))<|e_u 13 rfl rfl (zd 1 ty32 rfl rfl (.t4 .nil))<|e_one 14 (zAb rfl rfl rfl rfl (.c rfl (.c rfl .n)) ce14 (zTa (k1:=true) (u1:=g7_0r3) (v1:=g7_1r3) (q1:=(Big.qabs ((((([(min (Td.dep f b d) 0x100000)]).getD 0 0):Int):Rat) - (Rat.divInt (f*b) (64*d))))) (k2:=true) (u2:=w331) (v2:=w432) (q2:=Rat.divInt 1 2) (hl:=by first|rfl|assumption|omega|decide)) (.c (j:=1) rfl (.c (j:=2) rfl .n)) ?_)
   refine e_pv 15 rfl rfl (zId rfl rfl)<|e_pv 16 rfl rfl (zC rfl rfl)<|e_pv 17 rfl rfl (zb rfl)<|zN kr<|zc<|zE ?_
   exact zy Tryz.results3 () trivial (zp rfl) (by first|rfl|exact congrArg Value.bool (decide_eq_true (Td.fin_or ho hd (fun h=>by first|exact absurd h.1 h203|exact absurd h.2 h209))).symm) (ho:=oN) sN
 refine zOa (X:=Nat×Nat×Wd×Wd×Wd×Wd×Wd×Wd×Wd×Wd×Nat) (k':=2) (L':=(lb 26 16777215)) (fun (u15_1r2,u16_1r2,u17_1r2,u17_2r2,u17_3r2,u17_4r2,u17_5r2,u17_6r2,u17_7r2,u17_8r2,u22_1r2)=>([(21,.pointer (some ⟨u22_1r2,0,none⟩)),(145,.int .i64 0),(144,.agg (cw [u17_7r2,u17_8r2]).toArray),(17,.pointer (some ⟨b25,0,none⟩)),(11,.int .i64 0),(16,.pointer (some ⟨b21,0,none⟩)),(10,.pointer (some ⟨b9,0,none⟩)),(9,.int .i64 d),(8,.int .i64 b),(7,.pointer (some ⟨b4,0,none⟩)),(6,.bool false)],[boxA u22_1r2 38 (cw [u17_1r2,u17_2r2,u17_3r2,u17_4r2,u17_5r2,u17_6r2]),boxA b21 32 (cw [w918,w1019])],[emA,emA,boxA b25 32 (cw [w323,w424]),boxA b20 38 (cw [w312,w413,w514,w615,w716,w817]),emA,emA,boxA g14_0 40 (cw [g12_0,g12_1,g12_2,g12_3,g12_4,g12_5,g12_6,g12_7,g12_8,g12_9,g12_10,g12_11]),boxA g13_0 40 (cw [g4_0,g4_1,g4_2,g4_3,g4_4,g4_5,g4_6,g4_7,g4_8,g4_9,g4_10,g4_11]),boxA b9 34 (cw [w35,w46,w57,w68]),emA,boxA b3 26 [.int .i8 s1,.int .i8 s2],emA,boxA b1 22 [.int .i64 f,.int .i64 b]],[qF true u17_1r2 u17_2r2 (Td.pX b ((64*p0)+(2*((s1).tmod 8))) ((64*(p0 - d))+(2*((s2).tmod 8)))),qF true u17_3r2 u17_4r2 (Td.pY b ((64*p0)+(2*((s1).tmod 8))) ((64*(p0 - d))+(2*((s2).tmod 8))) (64*p1)),qF true u17_5r2 u17_6r2 (Td.pZ f b ((64*p0)+(2*((s1).tmod 8))) ((64*(p0 - d))+(2*((s2).tmod 8)))),qF true u17_7r2 u17_8r2 (Td.ss ([(⟨((0:Int):Rat),((0:Int):Rat),((0:Int):Rat),((((64*p0)+(2*((s1).tmod 8))):Int):Rat),(((64*p1):Int):Rat),((f:Int):Rat)⟩:Td.Ry),(⟨((b:Int):Rat),((0:Int):Rat),((0:Int):Rat),((((64*(p0 - d))+(2*((s2).tmod 8))):Int):Rat),(((64*p1):Int):Rat),((f:Int):Rat)⟩:Td.Ry)]) ([1,1]) (Td.pX b ((64*p0)+(2*((s1).tmod 8))) ((64*(p0 - d))+(2*((s2).tmod 8)))) (Td.pY b ((64*p0)+(2*((s1).tmod 8))) ((64*(p0 - d))+(2*((s2).tmod 8))) (64*p1)) (Td.pZ f b ((64*p0)+(2*((s1).tmod 8))) ((64*(p0 - d))+(2*((s2).tmod 8)))) 2),slF (rI .i64) (some ⟨u16_1r2,0,none⟩) 2 ([1,1]),slF rRy (some ⟨u15_1r2,0,none⟩) 2 ([(⟨((0:Int):Rat),((0:Int):Rat),((0:Int):Rat),((((64*p0)+(2*((s1).tmod 8))):Int):Rat),(((64*p1):Int):Rat),((f:Int):Rat)⟩:Td.Ry),(⟨((b:Int):Rat),((0:Int):Rat),((0:Int):Rat),((((64*(p0 - d))+(2*((s2).tmod 8))):Int):Rat),(((64*p1):Int):Rat),((f:Int):Rat)⟩:Td.Ry)]),qF true w323 w424 (Rat.divInt (f*b) (64*d)),qF true w312 w413 (Td.pX b ((64*p0)+(2*0)) ((64*(p0 - d))+(2*0))),qF true w514 w615 (Td.pY b ((64*p0)+(2*0)) ((64*(p0 - d))+(2*0)) (64*p1)),qF true w716 w817 (Td.pZ f b ((64*p0)+(2*0)) ((64*(p0 - d))+(2*0))),qF true w918 w1019 ((0:Int):Rat),slF (rI .i64) (some ⟨b11,0,none⟩) 2 ([1,1]),slF rRy (some ⟨b10,0,none⟩) 2 ([(⟨((0:Int):Rat),((0:Int):Rat),((0:Int):Rat),((((64*p0)+(2*0)):Int):Rat),(((64*p1):Int):Rat),((f:Int):Rat)⟩:Td.Ry),(⟨((b:Int):Rat),((0:Int):Rat),((0:Int):Rat),((((64*(p0 - d))+(2*0)):Int):Rat),(((64*p1):Int):Rat),((f:Int):Rat)⟩:Td.Ry)]),qF true g12_0 g12_1 ((b:Int):Rat),qF true g12_2 g12_3 ((0:Int):Rat),qF true g12_4 g12_5 ((0:Int):Rat),qF true g12_6 g12_7 ((((64*(p0 - d))+(2*0)):Int):Rat),qF true g12_8 g12_9 (((64*p1):Int):Rat),qF true g12_10 g12_11 ((f:Int):Rat),qF true g4_0 g4_1 ((0:Int):Rat),qF true g4_2 g4_3 ((0:Int):Rat),qF true g4_4 g4_5 ((0:Int):Rat),qF true g4_6 g4_7 ((((64*p0)+(2*0)):Int):Rat),qF true g4_8 g4_9 (((64*p1):Int):Rat),qF true g4_10 g4_11 ((f:Int):Rat),atF b4 0 [.int .i64 f],atF b2 0 [.int .i16 p0,.int .i16 p1,.int .i16 d],qF true w35 w46 (Rat.divInt (f*b) (32*((2*d)+1))),qF true w57 w68 (Rat.divInt (f*b) (32*((2*d) - 1)))])) ?_ (fun hD1=> ?_)
 ·
  rintro ⟨u15_1r2,u16_1r2,u17_1r2,u17_2r2,u17_3r2,u17_4r2,u17_5r2,u17_6r2,u17_7r2,u17_8r2,u22_1r2⟩
  dsimp only [cw]
  refine zFc 24 kr ?_
  ·
   refine zEg (zba (i:=1) rfl)<|zr kr rfl rfl rfl rfl rfl sz32 rfl (.t4 .nil)<|e_pv 25 rfl rfl (zb rfl) ?_
   exact zma (hD0 (u15_1r2,u16_1r2,u17_1r2,u17_2r2,u17_3r2,u17_4r2,u17_5r2,u17_6r2,u17_7r2,u17_8r2,u22_1r2)) kr (mR rfl) .rfl .rfl ((.of [0,1,2,3,4,5,6,7,8,9,11,12,13,14,15,16,17,18,19,20,21,22,23,24,25,26,27,28] rfl):SelR _ _ _)
 clear hD0
 refine zOa (X:=Nat×Nat×Wd×Wd×Wd×Wd×Wd×Wd×Wd×Wd×Nat) (k':=3) (L':=(lb 26 8388607)) (fun (u15_1r2,u16_1r2,u17_1r2,u17_2r2,u17_3r2,u17_4r2,u17_5r2,u17_6r2,u17_7r2,u17_8r2,u22_1r2)=>([(21,.pointer (some ⟨u22_1r2,0,none⟩)),(145,.int .i64 0),(144,.agg (cw [u17_7r2,u17_8r2]).toArray),(143,.agg (cw [u17_1r2,u17_2r2,u17_3r2,u17_4r2,u17_5r2,u17_6r2]).toArray),(17,.pointer (some ⟨b25,0,none⟩)),(11,.int .i64 0),(16,.pointer (some ⟨b21,0,none⟩)),(10,.pointer (some ⟨b9,0,none⟩)),(9,.int .i64 d),(8,.int .i64 b),(7,.pointer (some ⟨b4,0,none⟩)),(6,.bool false)],[boxA u22_1r2 38 (cw [wz,wz,wz,wz,wz,wz]),boxA b21 32 (cw [w918,w1019])],[emA,emA,boxA b25 32 (cw [w323,w424]),boxA b20 38 (cw [w312,w413,w514,w615,w716,w817]),emA,emA,boxA g14_0 40 (cw [g12_0,g12_1,g12_2,g12_3,g12_4,g12_5,g12_6,g12_7,g12_8,g12_9,g12_10,g12_11]),boxA g13_0 40 (cw [g4_0,g4_1,g4_2,g4_3,g4_4,g4_5,g4_6,g4_7,g4_8,g4_9,g4_10,g4_11]),boxA b9 34 (cw [w35,w46,w57,w68]),emA,boxA b3 26 [.int .i8 s1,.int .i8 s2],emA,boxA b1 22 [.int .i64 f,.int .i64 b]],[qF true u17_1r2 u17_2r2 (Td.pX b ((64*p0)+(2*((s1).tmod 8))) ((64*(p0 - d))+(2*((s2).tmod 8)))),qF true u17_3r2 u17_4r2 (Td.pY b ((64*p0)+(2*((s1).tmod 8))) ((64*(p0 - d))+(2*((s2).tmod 8))) (64*p1)),qF true u17_5r2 u17_6r2 (Td.pZ f b ((64*p0)+(2*((s1).tmod 8))) ((64*(p0 - d))+(2*((s2).tmod 8)))),qF true u17_7r2 u17_8r2 (Td.ss ([(⟨((0:Int):Rat),((0:Int):Rat),((0:Int):Rat),((((64*p0)+(2*((s1).tmod 8))):Int):Rat),(((64*p1):Int):Rat),((f:Int):Rat)⟩:Td.Ry),(⟨((b:Int):Rat),((0:Int):Rat),((0:Int):Rat),((((64*(p0 - d))+(2*((s2).tmod 8))):Int):Rat),(((64*p1):Int):Rat),((f:Int):Rat)⟩:Td.Ry)]) ([1,1]) (Td.pX b ((64*p0)+(2*((s1).tmod 8))) ((64*(p0 - d))+(2*((s2).tmod 8)))) (Td.pY b ((64*p0)+(2*((s1).tmod 8))) ((64*(p0 - d))+(2*((s2).tmod 8))) (64*p1)) (Td.pZ f b ((64*p0)+(2*((s1).tmod 8))) ((64*(p0 - d))+(2*((s2).tmod 8)))) 2),slF (rI .i64) (some ⟨u16_1r2,0,none⟩) 2 ([1,1]),slF rRy (some ⟨u15_1r2,0,none⟩) 2 ([(⟨((0:Int):Rat),((0:Int):Rat),((0:Int):Rat),((((64*p0)+(2*((s1).tmod 8))):Int):Rat),(((64*p1):Int):Rat),((f:Int):Rat)⟩:Td.Ry),(⟨((b:Int):Rat),((0:Int):Rat),((0:Int):Rat),((((64*(p0 - d))+(2*((s2).tmod 8))):Int):Rat),(((64*p1):Int):Rat),((f:Int):Rat)⟩:Td.Ry)]),qF true w323 w424 (Rat.divInt (f*b) (64*d)),qF true w312 w413 (Td.pX b ((64*p0)+(2*0)) ((64*(p0 - d))+(2*0))),qF true w514 w615 (Td.pY b ((64*p0)+(2*0)) ((64*(p0 - d))+(2*0)) (64*p1)),qF true w716 w817 (Td.pZ f b ((64*p0)+(2*0)) ((64*(p0 - d))+(2*0))),qF true w918 w1019 ((0:Int):Rat),slF (rI .i64) (some ⟨b11,0,none⟩) 2 ([1,1]),slF rRy (some ⟨b10,0,none⟩) 2 ([(⟨((0:Int):Rat),((0:Int):Rat),((0:Int):Rat),((((64*p0)+(2*0)):Int):Rat),(((64*p1):Int):Rat),((f:Int):Rat)⟩:Td.Ry),(⟨((b:Int):Rat),((0:Int):Rat),((0:Int):Rat),((((64*(p0 - d))+(2*0)):Int):Rat),(((64*p1):Int):Rat),((f:Int):Rat)⟩:Td.Ry)]),qF true g12_0 g12_1 ((b:Int):Rat),qF true g12_2 g12_3 ((0:Int):Rat),qF true g12_4 g12_5 ((0:Int):Rat),qF true g12_6 g12_7 ((((64*(p0 - d))+(2*0)):Int):Rat),qF true g12_8 g12_9 (((64*p1):Int):Rat),qF true g12_10 g12_11 ((f:Int):Rat),qF true g4_0 g4_1 ((0:Int):Rat),qF true g4_2 g4_3 ((0:Int):Rat),qF true g4_4 g4_5 ((0:Int):Rat),qF true g4_6 g4_7 ((((64*p0)+(2*0)):Int):Rat),qF true g4_8 g4_9 (((64*p1):Int):Rat),qF true g4_10 g4_11 ((f:Int):Rat),atF b4 0 [.int .i64 f],atF b2 0 [.int .i16 p0,.int .i16 p1,.int .i16 d],qF true w35 w46 (Rat.divInt (f*b) (32*((2*d)+1))),qF true w57 w68 (Rat.divInt (f*b) (32*((2*d) - 1)))])) ?_ (fun hD2=> ?_)
 ·
  rintro ⟨u15_1r2,u16_1r2,u17_1r2,u17_2r2,u17_3r2,u17_4r2,u17_5r2,u17_6r2,u17_7r2,u17_8r2,u22_1r2⟩
  dsimp only [cw]
  refine zFc 23 kr ?_
  ·
   refine zr kr rfl rfl rfl rfl rfl sz38 rfl (.t8 (.t4 .nil)) ?_
   exact zma (hD1 (u15_1r2,u16_1r2,u17_1r2,u17_2r2,u17_3r2,u17_4r2,u17_5r2,u17_6r2,u17_7r2,u17_8r2,u22_1r2)) kr (mR rfl) .rfl .rfl ((.of [0,1,2,3,4,5,6,7,8,9,10,11,12,13,14,15,16,17,18,19,20,21,22,23,24,25,26,27,28] rfl):SelR _ _ _)
 clear hD1
 refine zOa (X:=Nat×Nat×Wd×Wd×Wd×Wd×Wd×Wd×Wd×Wd) (k':=4) (L':=(lb 26 4194303)) (fun (u15_1r2,u16_1r2,u17_1r2,u17_2r2,u17_3r2,u17_4r2,u17_5r2,u17_6r2,u17_7r2,u17_8r2)=>([(145,.int .i64 0),(144,.agg (cw [u17_7r2,u17_8r2]).toArray),(143,.agg (cw [u17_1r2,u17_2r2,u17_3r2,u17_4r2,u17_5r2,u17_6r2]).toArray),(17,.pointer (some ⟨b25,0,none⟩)),(11,.int .i64 0),(16,.pointer (some ⟨b21,0,none⟩)),(10,.pointer (some ⟨b9,0,none⟩)),(9,.int .i64 d),(8,.int .i64 b),(7,.pointer (some ⟨b4,0,none⟩)),(6,.bool false)],[boxA b21 32 (cw [w918,w1019])],[emA,emA,boxA b25 32 (cw [w323,w424]),boxA b20 38 (cw [w312,w413,w514,w615,w716,w817]),emA,emA,boxA g14_0 40 (cw [g12_0,g12_1,g12_2,g12_3,g12_4,g12_5,g12_6,g12_7,g12_8,g12_9,g12_10,g12_11]),boxA g13_0 40 (cw [g4_0,g4_1,g4_2,g4_3,g4_4,g4_5,g4_6,g4_7,g4_8,g4_9,g4_10,g4_11]),boxA b9 34 (cw [w35,w46,w57,w68]),emA,boxA b3 26 [.int .i8 s1,.int .i8 s2],emA,boxA b1 22 [.int .i64 f,.int .i64 b]],[qF true u17_1r2 u17_2r2 (Td.pX b ((64*p0)+(2*((s1).tmod 8))) ((64*(p0 - d))+(2*((s2).tmod 8)))),qF true u17_3r2 u17_4r2 (Td.pY b ((64*p0)+(2*((s1).tmod 8))) ((64*(p0 - d))+(2*((s2).tmod 8))) (64*p1)),qF true u17_5r2 u17_6r2 (Td.pZ f b ((64*p0)+(2*((s1).tmod 8))) ((64*(p0 - d))+(2*((s2).tmod 8)))),qF true u17_7r2 u17_8r2 (Td.ss ([(⟨((0:Int):Rat),((0:Int):Rat),((0:Int):Rat),((((64*p0)+(2*((s1).tmod 8))):Int):Rat),(((64*p1):Int):Rat),((f:Int):Rat)⟩:Td.Ry),(⟨((b:Int):Rat),((0:Int):Rat),((0:Int):Rat),((((64*(p0 - d))+(2*((s2).tmod 8))):Int):Rat),(((64*p1):Int):Rat),((f:Int):Rat)⟩:Td.Ry)]) ([1,1]) (Td.pX b ((64*p0)+(2*((s1).tmod 8))) ((64*(p0 - d))+(2*((s2).tmod 8)))) (Td.pY b ((64*p0)+(2*((s1).tmod 8))) ((64*(p0 - d))+(2*((s2).tmod 8))) (64*p1)) (Td.pZ f b ((64*p0)+(2*((s1).tmod 8))) ((64*(p0 - d))+(2*((s2).tmod 8)))) 2),slF (rI .i64) (some ⟨u16_1r2,0,none⟩) 2 ([1,1]),slF rRy (some ⟨u15_1r2,0,none⟩) 2 ([(⟨((0:Int):Rat),((0:Int):Rat),((0:Int):Rat),((((64*p0)+(2*((s1).tmod 8))):Int):Rat),(((64*p1):Int):Rat),((f:Int):Rat)⟩:Td.Ry),(⟨((b:Int):Rat),((0:Int):Rat),((0:Int):Rat),((((64*(p0 - d))+(2*((s2).tmod 8))):Int):Rat),(((64*p1):Int):Rat),((f:Int):Rat)⟩:Td.Ry)]),qF true w323 w424 (Rat.divInt (f*b) (64*d)),qF true w312 w413 (Td.pX b ((64*p0)+(2*0)) ((64*(p0 - d))+(2*0))),qF true w514 w615 (Td.pY b ((64*p0)+(2*0)) ((64*(p0 - d))+(2*0)) (64*p1)),qF true w716 w817 (Td.pZ f b ((64*p0)+(2*0)) ((64*(p0 - d))+(2*0))),qF true w918 w1019 ((0:Int):Rat),slF (rI .i64) (some ⟨b11,0,none⟩) 2 ([1,1]),slF rRy (some ⟨b10,0,none⟩) 2 ([(⟨((0:Int):Rat),((0:Int):Rat),((0:Int):Rat),((((64*p0)+(2*0)):Int):Rat),(((64*p1):Int):Rat),((f:Int):Rat)⟩:Td.Ry),(⟨((b:Int):Rat),((0:Int):Rat),((0:Int):Rat),((((64*(p0 - d))+(2*0)):Int):Rat),(((64*p1):Int):Rat),((f:Int):Rat)⟩:Td.Ry)]),qF true g12_0 g12_1 ((b:Int):Rat),qF true g12_2 g12_3 ((0:Int):Rat),qF true g12_4 g12_5 ((0:Int):Rat),qF true g12_6 g12_7 ((((64*(p0 - d))+(2*0)):Int):Rat),qF true g12_8 g12_9 (((64*p1):Int):Rat),qF true g12_10 g12_11 ((f:Int):Rat),qF true g4_0 g4_1 ((0:Int):Rat),qF true g4_2 g4_3 ((0:Int):Rat),qF true g4_4 g4_5 ((0:Int):Rat),qF true g4_6 g4_7 ((((64*p0)+(2*0)):Int):Rat),qF true g4_8 g4_9 (((64*p1):Int):Rat),qF true g4_10 g4_11 ((f:Int):Rat),atF b4 0 [.int .i64 f],atF b2 0 [.int .i16 p0,.int .i16 p1,.int .i16 d],qF true w35 w46 (Rat.divInt (f*b) (32*((2*d)+1))),qF true w57 w68 (Rat.divInt (f*b) (32*((2*d) - 1)))])) ?_ (fun hD3=> ?_)
 ·
  rintro ⟨u15_1r2,u16_1r2,u17_1r2,u17_2r2,u17_3r2,u17_4r2,u17_5r2,u17_6r2,u17_7r2,u17_8r2⟩
  dsimp only [cw]
  refine zFc 22 kr ?_
  ·
   refine zmb rfl rfl rfl rfl (zo zr38 rfl) (fun u22_1r2 _=> ?_)
   exact zma (hD2 (u15_1r2,u16_1r2,u17_1r2,u17_2r2,u17_3r2,u17_4r2,u17_5r2,u17_6r2,u17_7r2,u17_8r2,u22_1r2)) kr (mR rfl) .rfl .rfl ((.of [0,1,2,3,4,5,6,7,8,9,10,11,12,13,14,15,16,17,18,19,20,21,22,23,24,25,26,27,28] rfl):SelR _ _ _)
 refine zOa (X:=Nat×Nat×Nat) (k':=8) (L':=(lb 26 4325375)) (fun (u15_1r2,u16_1r2,u22_1r2)=>([(21,.pointer (some ⟨u22_1r2,0,none⟩)),(141,.slice (some ⟨u16_1r2,0,none⟩) 2 2),(140,.slice (some ⟨u15_1r2,0,none⟩) 2 2),(17,.pointer (some ⟨b25,0,none⟩)),(11,.int .i64 0),(16,.pointer (some ⟨b21,0,none⟩)),(10,.pointer (some ⟨b9,0,none⟩)),(9,.int .i64 d),(8,.int .i64 b),(7,.pointer (some ⟨b4,0,none⟩)),(6,.bool false)],[boxA u22_1r2 38 (cw [wz,wz,wz,wz,wz,wz]),boxA b21 32 (cw [w918,w1019])],[emA,emA,boxA b25 32 (cw [w323,w424]),boxA b20 38 (cw [w312,w413,w514,w615,w716,w817]),emA,emA,boxA g14_0 40 (cw [g12_0,g12_1,g12_2,g12_3,g12_4,g12_5,g12_6,g12_7,g12_8,g12_9,g12_10,g12_11]),boxA g13_0 40 (cw [g4_0,g4_1,g4_2,g4_3,g4_4,g4_5,g4_6,g4_7,g4_8,g4_9,g4_10,g4_11]),boxA b9 34 (cw [w35,w46,w57,w68]),emA,boxA b3 26 [.int .i8 s1,.int .i8 s2],emA,boxA b1 22 [.int .i64 f,.int .i64 b]],[slF (rI .i64) (some ⟨u16_1r2,0,none⟩) 2 ([1,1]),slF rRy (some ⟨u15_1r2,0,none⟩) 2 ([(⟨((0:Int):Rat),((0:Int):Rat),((0:Int):Rat),((((64*p0)+(2*((s1).tmod 8))):Int):Rat),(((64*p1):Int):Rat),((f:Int):Rat)⟩:Td.Ry),(⟨((b:Int):Rat),((0:Int):Rat),((0:Int):Rat),((((64*(p0 - d))+(2*((s2).tmod 8))):Int):Rat),(((64*p1):Int):Rat),((f:Int):Rat)⟩:Td.Ry)]),qF true w323 w424 (Rat.divInt (f*b) (64*d)),qF true w312 w413 (Td.pX b ((64*p0)+(2*0)) ((64*(p0 - d))+(2*0))),qF true w514 w615 (Td.pY b ((64*p0)+(2*0)) ((64*(p0 - d))+(2*0)) (64*p1)),qF true w716 w817 (Td.pZ f b ((64*p0)+(2*0)) ((64*(p0 - d))+(2*0))),qF true w918 w1019 ((0:Int):Rat),slF (rI .i64) (some ⟨b11,0,none⟩) 2 ([1,1]),slF rRy (some ⟨b10,0,none⟩) 2 ([(⟨((0:Int):Rat),((0:Int):Rat),((0:Int):Rat),((((64*p0)+(2*0)):Int):Rat),(((64*p1):Int):Rat),((f:Int):Rat)⟩:Td.Ry),(⟨((b:Int):Rat),((0:Int):Rat),((0:Int):Rat),((((64*(p0 - d))+(2*0)):Int):Rat),(((64*p1):Int):Rat),((f:Int):Rat)⟩:Td.Ry)]),qF true g12_0 g12_1 ((b:Int):Rat),qF true g12_2 g12_3 ((0:Int):Rat),qF true g12_4 g12_5 ((0:Int):Rat),qF true g12_6 g12_7 ((((64*(p0 - d))+(2*0)):Int):Rat),qF true g12_8 g12_9 (((64*p1):Int):Rat),qF true g12_10 g12_11 ((f:Int):Rat),qF true g4_0 g4_1 ((0:Int):Rat),qF true g4_2 g4_3 ((0:Int):Rat),qF true g4_4 g4_5 ((0:Int):Rat),qF true g4_6 g4_7 ((((64*p0)+(2*0)):Int):Rat),qF true g4_8 g4_9 (((64*p1):Int):Rat),qF true g4_10 g4_11 ((f:Int):Rat),atF b4 0 [.int .i64 f],atF b2 0 [.int .i16 p0,.int .i16 p1,.int .i16 d],qF true w35 w46 (Rat.divInt (f*b) (32*((2*d)+1))),qF true w57 w68 (Rat.divInt (f*b) (32*((2*d) - 1)))])) ?_ (fun hD4=> ?_)
 ·
  rintro ⟨u15_1r2,u16_1r2,u22_1r2⟩
  dsimp only [cw]
  refine zFc 17 kr ?_
  ·
   refine zv rfl rfl rfl rfl (.c rfl (.c rfl .n)) ce10 (zYc (p:=some ⟨u15_1r2,0,none⟩) (nL:=2) (cap:=2) (l:=[(⟨((0:Int):Rat),((0:Int):Rat),((0:Int):Rat),((((64*p0)+(2*((s1).tmod 8))):Int):Rat),(((64*p1):Int):Rat),((f:Int):Rat)⟩:Td.Ry),(⟨((b:Int):Rat),((0:Int):Rat),((0:Int):Rat),((((64*(p0 - d))+(2*((s2).tmod 8))):Int):Rat),(((64*p1):Int):Rat),((f:Int):Rat)⟩:Td.Ry)]) (pW:=some ⟨u16_1r2,0,none⟩) (cW:=2) (W:=[1,1]) (pa:=(Td.pX b ((64*p0)+(2*((s1).tmod 8))) ((64*(p0 - d))+(2*((s2).tmod 8))))) (pb:=(Td.pY b ((64*p0)+(2*((s1).tmod 8))) ((64*(p0 - d))+(2*((s2).tmod 8))) (64*p1))) (pc:=(Td.pZ f b ((64*p0)+(2*((s1).tmod 8))) ((64*(p0 - d))+(2*((s2).tmod 8))))) (hok:=by exact hC2.ok) (hnul:=by exact hC2.nul) (hsol:=by exact hC2.sol) (hbpa:=by exact hC2.hqs.1) (hbpb:=by exact hC2.hqs.2.1) (hbpc:=by exact hC2.hqs.2.2)) (.c (j:=1) rfl (.c (j:=0) rfl .n)) ?_
   rintro ⟨u17_1r2,u17_2r2,u17_3r2,u17_4r2,u17_5r2,u17_6r2,u17_7r2,u17_8r2⟩ -
   dsimp only [aq,nq,cq]
   refine e_dm 18 rfl rfl rfl<|e_pv 19 rfl rfl (zm rfl rfl)<|e_pv 20 rfl rfl (zm rfl rfl)<|e_pv 21 rfl rfl (zm rfl rfl) ?_
   exact zma (hD2 (u15_1r2,u16_1r2,u17_1r2,u17_2r2,u17_3r2,u17_4r2,u17_5r2,u17_6r2,u17_7r2,u17_8r2,u22_1r2)) kr (mR rfl) .rfl .rfl ((.of [0,1,2,3,4,5,6,7,8,9,10,11,12,13,14,15,16,17,18,19,20,21,22,23,24,25,26,27,28] rfl):SelR _ _ _)
 clear hD2
 refine zOa (X:=Nat×Nat) (k':=9) (L':=(lb 26 131071)) (fun (u15_1r2,u16_1r2)=>([(141,.slice (some ⟨u16_1r2,0,none⟩) 2 2),(140,.slice (some ⟨u15_1r2,0,none⟩) 2 2),(17,.pointer (some ⟨b25,0,none⟩)),(11,.int .i64 0),(16,.pointer (some ⟨b21,0,none⟩)),(10,.pointer (some ⟨b9,0,none⟩)),(9,.int .i64 d),(8,.int .i64 b),(7,.pointer (some ⟨b4,0,none⟩)),(6,.bool false)],[boxA b21 32 (cw [w918,w1019])],[emA,emA,boxA b25 32 (cw [w323,w424]),boxA b20 38 (cw [w312,w413,w514,w615,w716,w817]),emA,emA,boxA g14_0 40 (cw [g12_0,g12_1,g12_2,g12_3,g12_4,g12_5,g12_6,g12_7,g12_8,g12_9,g12_10,g12_11]),boxA g13_0 40 (cw [g4_0,g4_1,g4_2,g4_3,g4_4,g4_5,g4_6,g4_7,g4_8,g4_9,g4_10,g4_11]),boxA b9 34 (cw [w35,w46,w57,w68]),emA,boxA b3 26 [.int .i8 s1,.int .i8 s2],emA,boxA b1 22 [.int .i64 f,.int .i64 b]],[slF (rI .i64) (some ⟨u16_1r2,0,none⟩) 2 ([1,1]),slF rRy (some ⟨u15_1r2,0,none⟩) 2 ([(⟨((0:Int):Rat),((0:Int):Rat),((0:Int):Rat),((((64*p0)+(2*((s1).tmod 8))):Int):Rat),(((64*p1):Int):Rat),((f:Int):Rat)⟩:Td.Ry),(⟨((b:Int):Rat),((0:Int):Rat),((0:Int):Rat),((((64*(p0 - d))+(2*((s2).tmod 8))):Int):Rat),(((64*p1):Int):Rat),((f:Int):Rat)⟩:Td.Ry)]),qF true w323 w424 (Rat.divInt (f*b) (64*d)),qF true w312 w413 (Td.pX b ((64*p0)+(2*0)) ((64*(p0 - d))+(2*0))),qF true w514 w615 (Td.pY b ((64*p0)+(2*0)) ((64*(p0 - d))+(2*0)) (64*p1)),qF true w716 w817 (Td.pZ f b ((64*p0)+(2*0)) ((64*(p0 - d))+(2*0))),qF true w918 w1019 ((0:Int):Rat),slF (rI .i64) (some ⟨b11,0,none⟩) 2 ([1,1]),slF rRy (some ⟨b10,0,none⟩) 2 ([(⟨((0:Int):Rat),((0:Int):Rat),((0:Int):Rat),((((64*p0)+(2*0)):Int):Rat),(((64*p1):Int):Rat),((f:Int):Rat)⟩:Td.Ry),(⟨((b:Int):Rat),((0:Int):Rat),((0:Int):Rat),((((64*(p0 - d))+(2*0)):Int):Rat),(((64*p1):Int):Rat),((f:Int):Rat)⟩:Td.Ry)]),qF true g12_0 g12_1 ((b:Int):Rat),qF true g12_2 g12_3 ((0:Int):Rat),qF true g12_4 g12_5 ((0:Int):Rat),qF true g12_6 g12_7 ((((64*(p0 - d))+(2*0)):Int):Rat),qF true g12_8 g12_9 (((64*p1):Int):Rat),qF true g12_10 g12_11 ((f:Int):Rat),qF true g4_0 g4_1 ((0:Int):Rat),qF true g4_2 g4_3 ((0:Int):Rat),qF true g4_4 g4_5 ((0:Int):Rat),qF true g4_6 g4_7 ((((64*p0)+(2*0)):Int):Rat),qF true g4_8 g4_9 (((64*p1):Int):Rat),qF true g4_10 g4_11 ((f:Int):Rat),atF b4 0 [.int .i64 f],atF b2 0 [.int .i16 p0,.int .i16 p1,.int .i16 d],qF true w35 w46 (Rat.divInt (f*b) (32*((2*d)+1))),qF true w57 w68 (Rat.divInt (f*b) (32*((2*d) - 1)))])) ?_ (fun hD5=> ?_)
 ·
  rintro ⟨u15_1r2,u16_1r2⟩
  dsimp only [cw]
  refine zrd 17 22 kr ?_ ?_
  ·
   refine zv rfl rfl rfl rfl (.c rfl (.c rfl .n)) ce10 (zYc (p:=some ⟨u15_1r2,0,none⟩) (nL:=2) (cap:=2) (l:=[(⟨((0:Int):Rat),((0:Int):Rat),((0:Int):Rat),((((64*p0)+(2*((s1).tmod 8))):Int):Rat),(((64*p1):Int):Rat),((f:Int):Rat)⟩:Td.Ry),(⟨((b:Int):Rat),((0:Int):Rat),((0:Int):Rat),((((64*(p0 - d))+(2*((s2).tmod 8))):Int):Rat),(((64*p1):Int):Rat),((f:Int):Rat)⟩:Td.Ry)]) (pW:=some ⟨u16_1r2,0,none⟩) (cW:=2) (W:=[1,1]) (pa:=(Td.pX b ((64*p0)+(2*((s1).tmod 8))) ((64*(p0 - d))+(2*((s2).tmod 8))))) (pb:=(Td.pY b ((64*p0)+(2*((s1).tmod 8))) ((64*(p0 - d))+(2*((s2).tmod 8))) (64*p1))) (pc:=(Td.pZ f b ((64*p0)+(2*((s1).tmod 8))) ((64*(p0 - d))+(2*((s2).tmod 8))))) (hok:=by exact hC2.ok) (hnul:=by exact hC2.nul) (hsol:=by exact hC2.sol) (hbpa:=by exact hC2.hqs.1) (hbpb:=by exact hC2.hqs.2.1) (hbpc:=by exact hC2.hqs.2.2)) (.c (j:=1) rfl (.c (j:=0) rfl .n)) ?_
   rintro ⟨u17_1r2,u17_2r2,u17_3r2,u17_4r2,u17_5r2,u17_6r2,u17_7r2,u17_8r2⟩ -
   dsimp only [aq,nq,cq]
   refine e_dm 18 rfl rfl rfl<|e_pv 19 rfl rfl (zm rfl rfl)<|e_pv 20 rfl rfl (zm rfl rfl)<|e_pv 21 rfl rfl (zm rfl rfl) ?_
   exact zma (hD3 (u15_1r2,u16_1r2,u17_1r2,u17_2r2,u17_3r2,u17_4r2,u17_5r2,u17_6r2,u17_7r2,u17_8r2)) kr (mR rfl) .rfl .rfl ((.of [0,1,2,3,4,5,6,7,8,9,10,11,12,13,14,15,16,17,18,19,20,21,22,23,24,25,26,27,28] rfl):SelR _ _ _)
  ·
   refine zmb rfl rfl rfl rfl (zo zr38 rfl) (fun u22_1r2 _=> ?_)
   exact zma (hD4 (u15_1r2,u16_1r2,u22_1r2)) kr (mR rfl) .rfl .rfl ((.of [0,1,2,3,4,5,6,7,8,9,10,11,12,13,14,15,16,17,18,19,20,21,22,23,24] rfl):SelR _ _ _)
 refine zOa (X:=Nat×Nat) (k':=9) (L':=(lb 26 4259839)) (fun (u15_1r2,u22_1r2)=>([(21,.pointer (some ⟨u22_1r2,0,none⟩)),(140,.slice (some ⟨u15_1r2,0,none⟩) 2 2),(17,.pointer (some ⟨b25,0,none⟩)),(11,.int .i64 0),(16,.pointer (some ⟨b21,0,none⟩)),(10,.pointer (some ⟨b9,0,none⟩)),(9,.int .i64 d),(8,.int .i64 b),(7,.pointer (some ⟨b4,0,none⟩)),(6,.bool false)],[boxA u22_1r2 38 (cw [wz,wz,wz,wz,wz,wz]),boxA b21 32 (cw [w918,w1019])],[emA,boxA b25 32 (cw [w323,w424]),boxA b20 38 (cw [w312,w413,w514,w615,w716,w817]),emA,emA,boxA g14_0 40 (cw [g12_0,g12_1,g12_2,g12_3,g12_4,g12_5,g12_6,g12_7,g12_8,g12_9,g12_10,g12_11]),boxA g13_0 40 (cw [g4_0,g4_1,g4_2,g4_3,g4_4,g4_5,g4_6,g4_7,g4_8,g4_9,g4_10,g4_11]),boxA b9 34 (cw [w35,w46,w57,w68]),emA,boxA b3 26 [.int .i8 s1,.int .i8 s2],emA,boxA b1 22 [.int .i64 f,.int .i64 b]],[slF rRy (some ⟨u15_1r2,0,none⟩) 2 ([(⟨((0:Int):Rat),((0:Int):Rat),((0:Int):Rat),((((64*p0)+(2*((s1).tmod 8))):Int):Rat),(((64*p1):Int):Rat),((f:Int):Rat)⟩:Td.Ry),(⟨((b:Int):Rat),((0:Int):Rat),((0:Int):Rat),((((64*(p0 - d))+(2*((s2).tmod 8))):Int):Rat),(((64*p1):Int):Rat),((f:Int):Rat)⟩:Td.Ry)]),qF true w323 w424 (Rat.divInt (f*b) (64*d)),qF true w312 w413 (Td.pX b ((64*p0)+(2*0)) ((64*(p0 - d))+(2*0))),qF true w514 w615 (Td.pY b ((64*p0)+(2*0)) ((64*(p0 - d))+(2*0)) (64*p1)),qF true w716 w817 (Td.pZ f b ((64*p0)+(2*0)) ((64*(p0 - d))+(2*0))),qF true w918 w1019 ((0:Int):Rat),slF (rI .i64) (some ⟨b11,0,none⟩) 2 ([1,1]),slF rRy (some ⟨b10,0,none⟩) 2 ([(⟨((0:Int):Rat),((0:Int):Rat),((0:Int):Rat),((((64*p0)+(2*0)):Int):Rat),(((64*p1):Int):Rat),((f:Int):Rat)⟩:Td.Ry),(⟨((b:Int):Rat),((0:Int):Rat),((0:Int):Rat),((((64*(p0 - d))+(2*0)):Int):Rat),(((64*p1):Int):Rat),((f:Int):Rat)⟩:Td.Ry)]),qF true g12_0 g12_1 ((b:Int):Rat),qF true g12_2 g12_3 ((0:Int):Rat),qF true g12_4 g12_5 ((0:Int):Rat),qF true g12_6 g12_7 ((((64*(p0 - d))+(2*0)):Int):Rat),qF true g12_8 g12_9 (((64*p1):Int):Rat),qF true g12_10 g12_11 ((f:Int):Rat),qF true g4_0 g4_1 ((0:Int):Rat),qF true g4_2 g4_3 ((0:Int):Rat),qF true g4_4 g4_5 ((0:Int):Rat),qF true g4_6 g4_7 ((((64*p0)+(2*0)):Int):Rat),qF true g4_8 g4_9 (((64*p1):Int):Rat),qF true g4_10 g4_11 ((f:Int):Rat),atF b4 0 [.int .i64 f],atF b2 0 [.int .i16 p0,.int .i16 p1,.int .i16 d],qF true w35 w46 (Rat.divInt (f*b) (32*((2*d)+1))),qF true w57 w68 (Rat.divInt (f*b) (32*((2*d) - 1)))])) ?_ (fun hD6=> ?_)
 ·
  rintro ⟨u15_1r2,u22_1r2⟩
  dsimp only [cw]
  refine zFc 16 kr ?_
  ·
   refine zwb rfl rfl rfl rfl (zH (enc:=fun z:Int=>[.int .i64 z]) (ok:=InK .i64) (h1:=fun _=>rfl) (h2:=fun _=>rfl) (k:=2) yd inf3 rfl dd dd dd (.c (x:=1) rfl rfl (fun _ _=>by exact zga.2 om) (.c (x:=1) rfl rfl (fun _ _=>by exact zga.2 om) .n))) (fun u16_1r2 _=> ?_)
   refine zLa 0 rfl .z ?_
   exact zma (hD4 (u15_1r2,u16_1r2,u22_1r2)) kr (mR rfl) .rfl .rfl ((.of [0,1,2,3,4,5,6,7,8,9,10,11,12,13,14,15,16,17,18,19,20,21,22,23,24] rfl):SelR _ _ _)
 refine zOa (X:=Wd×Wd×Wd×Wd×Wd×Wd×Wd×Wd×Wd×Wd×Wd×Wd×Wd×Wd×Wd×Wd×Wd×Wd×Wd×Wd×Wd×Wd×Wd×Wd×Nat×Nat) (k':=9) (L':=(lb 26 4292607)) (fun (u5_1r2,u5_2r2,u5_3r2,u5_4r2,u5_5r2,u5_6r2,u5_7r2,u5_8r2,u5_9r2,u5_10r2,u5_11r2,u5_12r2,u14_1r2,u14_2r2,u14_3r2,u14_4r2,u14_5r2,u14_6r2,u14_7r2,u14_8r2,u14_9r2,u14_10r2,u14_11r2,u14_12r2,u16_1r2,u22_1r2)=>([(21,.pointer (some ⟨u22_1r2,0,none⟩)),(141,.slice (some ⟨u16_1r2,0,none⟩) 2 2),(139,.agg (cw [u14_1r2,u14_2r2,u14_3r2,u14_4r2,u14_5r2,u14_6r2,u14_7r2,u14_8r2,u14_9r2,u14_10r2,u14_11r2,u14_12r2]).toArray),(130,.agg (cw [u5_1r2,u5_2r2,u5_3r2,u5_4r2,u5_5r2,u5_6r2,u5_7r2,u5_8r2,u5_9r2,u5_10r2,u5_11r2,u5_12r2]).toArray),(17,.pointer (some ⟨b25,0,none⟩)),(11,.int .i64 0),(16,.pointer (some ⟨b21,0,none⟩)),(10,.pointer (some ⟨b9,0,none⟩)),(9,.int .i64 d),(8,.int .i64 b),(7,.pointer (some ⟨b4,0,none⟩)),(6,.bool false)],[boxA u22_1r2 38 (cw [wz,wz,wz,wz,wz,wz]),boxA b21 32 (cw [w918,w1019])],[emA,boxA b25 32 (cw [w323,w424]),boxA b20 38 (cw [w312,w413,w514,w615,w716,w817]),emA,emA,boxA g14_0 40 (cw [g12_0,g12_1,g12_2,g12_3,g12_4,g12_5,g12_6,g12_7,g12_8,g12_9,g12_10,g12_11]),boxA g13_0 40 (cw [g4_0,g4_1,g4_2,g4_3,g4_4,g4_5,g4_6,g4_7,g4_8,g4_9,g4_10,g4_11]),boxA b9 34 (cw [w35,w46,w57,w68]),emA,boxA b3 26 [.int .i8 s1,.int .i8 s2],emA,boxA b1 22 [.int .i64 f,.int .i64 b]],[slF (rI .i64) (some ⟨u16_1r2,0,none⟩) 2 ([1,1]),qF true u14_1r2 u14_2r2 ((b:Int):Rat),qF true u14_3r2 u14_4r2 ((0:Int):Rat),qF true u14_5r2 u14_6r2 ((0:Int):Rat),qF true u14_7r2 u14_8r2 ((((64*(p0 - d))+(2*((s2).tmod 8))):Int):Rat),qF true u14_9r2 u14_10r2 (((64*p1):Int):Rat),qF true u14_11r2 u14_12r2 ((f:Int):Rat),qF true u5_1r2 u5_2r2 ((0:Int):Rat),qF true u5_3r2 u5_4r2 ((0:Int):Rat),qF true u5_5r2 u5_6r2 ((0:Int):Rat),qF true u5_7r2 u5_8r2 ((((64*p0)+(2*((s1).tmod 8))):Int):Rat),qF true u5_9r2 u5_10r2 (((64*p1):Int):Rat),qF true u5_11r2 u5_12r2 ((f:Int):Rat),qF true w323 w424 (Rat.divInt (f*b) (64*d)),qF true w312 w413 (Td.pX b ((64*p0)+(2*0)) ((64*(p0 - d))+(2*0))),qF true w514 w615 (Td.pY b ((64*p0)+(2*0)) ((64*(p0 - d))+(2*0)) (64*p1)),qF true w716 w817 (Td.pZ f b ((64*p0)+(2*0)) ((64*(p0 - d))+(2*0))),qF true w918 w1019 ((0:Int):Rat),slF (rI .i64) (some ⟨b11,0,none⟩) 2 ([1,1]),slF rRy (some ⟨b10,0,none⟩) 2 ([(⟨((0:Int):Rat),((0:Int):Rat),((0:Int):Rat),((((64*p0)+(2*0)):Int):Rat),(((64*p1):Int):Rat),((f:Int):Rat)⟩:Td.Ry),(⟨((b:Int):Rat),((0:Int):Rat),((0:Int):Rat),((((64*(p0 - d))+(2*0)):Int):Rat),(((64*p1):Int):Rat),((f:Int):Rat)⟩:Td.Ry)]),qF true g12_0 g12_1 ((b:Int):Rat),qF true g12_2 g12_3 ((0:Int):Rat),qF true g12_4 g12_5 ((0:Int):Rat),qF true g12_6 g12_7 ((((64*(p0 - d))+(2*0)):Int):Rat),qF true g12_8 g12_9 (((64*p1):Int):Rat),qF true g12_10 g12_11 ((f:Int):Rat),qF true g4_0 g4_1 ((0:Int):Rat),qF true g4_2 g4_3 ((0:Int):Rat),qF true g4_4 g4_5 ((0:Int):Rat),qF true g4_6 g4_7 ((((64*p0)+(2*0)):Int):Rat),qF true g4_8 g4_9 (((64*p1):Int):Rat),qF true g4_10 g4_11 ((f:Int):Rat),atF b4 0 [.int .i64 f],atF b2 0 [.int .i16 p0,.int .i16 p1,.int .i16 d],qF true w35 w46 (Rat.divInt (f*b) (32*((2*d)+1))),qF true w57 w68 (Rat.divInt (f*b) (32*((2*d) - 1)))])) ?_ (fun hD7=> ?_)
 ·
  rintro ⟨u5_1r2,u5_2r2,u5_3r2,u5_4r2,u5_5r2,u5_6r2,u5_7r2,u5_8r2,u5_9r2,u5_10r2,u5_11r2,u5_12r2,u14_1r2,u14_2r2,u14_3r2,u14_4r2,u14_5r2,u14_6r2,u14_7r2,u14_8r2,u14_9r2,u14_10r2,u14_11r2,u14_12r2,u16_1r2,u22_1r2⟩
  dsimp only [cw]
  refine zFc 15 kr ?_
  ·
   refine zwb rfl rfl rfl rfl (zGa (r:=rRy) (k:=2) yh inf40 rfl dd dd dd (.c (x:=(⟨((0:Int):Rat),((0:Int):Rat),((0:Int):Rat),((((64*p0)+(2*((s1).tmod 8))):Int):Rat),(((64*p1):Int):Rat),((f:Int):Rat)⟩:Td.Ry)) (cs:=[u5_1r2.b,u5_1r2.l,u5_2r2.b,u5_2r2.l,u5_3r2.b,u5_3r2.l,u5_4r2.b,u5_4r2.l,u5_5r2.b,u5_5r2.l,u5_6r2.b,u5_6r2.l,u5_7r2.b,u5_7r2.l,u5_8r2.b,u5_8r2.l,u5_9r2.b,u5_9r2.l,u5_10r2.b,u5_10r2.l,u5_11r2.b,u5_11r2.l,u5_12r2.b,u5_12r2.l]) (u5_1r2,u5_2r2,u5_3r2,u5_4r2,u5_5r2,u5_6r2,u5_7r2,u5_8r2,u5_9r2,u5_10r2,u5_11r2,u5_12r2) rfl rfl rfl (fun g hr=>⟨Holds.get 7 rfl hr,Holds.get 8 rfl hr,Holds.get 9 rfl hr,Holds.get 10 rfl hr,Holds.get 11 rfl hr,Holds.get 12 rfl hr⟩) (.c (x:=(⟨((b:Int):Rat),((0:Int):Rat),((0:Int):Rat),((((64*(p0 - d))+(2*((s2).tmod 8))):Int):Rat),(((64*p1):Int):Rat),((f:Int):Rat)⟩:Td.Ry)) (cs:=[u14_1r2.b,u14_1r2.l,u14_2r2.b,u14_2r2.l,u14_3r2.b,u14_3r2.l,u14_4r2.b,u14_4r2.l,u14_5r2.b,u14_5r2.l,u14_6r2.b,u14_6r2.l,u14_7r2.b,u14_7r2.l,u14_8r2.b,u14_8r2.l,u14_9r2.b,u14_9r2.l,u14_10r2.b,u14_10r2.l,u14_11r2.b,u14_11r2.l,u14_12r2.b,u14_12r2.l]) (u14_1r2,u14_2r2,u14_3r2,u14_4r2,u14_5r2,u14_6r2,u14_7r2,u14_8r2,u14_9r2,u14_10r2,u14_11r2,u14_12r2) rfl rfl rfl (fun g hr=>⟨Holds.get 1 rfl hr,Holds.get 2 rfl hr,Holds.get 3 rfl hr,Holds.get 4 rfl hr,Holds.get 5 rfl hr,Holds.get 6 rfl hr⟩) .n))) (fun u15_1r2 _=> ?_)
   refine zLa 0 rfl .z ?_
   exact zma (hD4 (u15_1r2,u16_1r2,u22_1r2)) kr (mR rfl) .rfl .rfl ((.of [1,0,14,15,16,17,18,19,20,21,22,23,24,25,26,27,28,29,30,31,32,33,34,35,36] rfl):SelR _ _ _)
 clear hD3 hD4
 refine zOa (X:=Nat) (k':=10) (L':=(lb 26 65535)) (fun u15_1r2=>([(140,.slice (some ⟨u15_1r2,0,none⟩) 2 2),(17,.pointer (some ⟨b25,0,none⟩)),(11,.int .i64 0),(16,.pointer (some ⟨b21,0,none⟩)),(10,.pointer (some ⟨b9,0,none⟩)),(9,.int .i64 d),(8,.int .i64 b),(7,.pointer (some ⟨b4,0,none⟩)),(6,.bool false)],[boxA b21 32 (cw [w918,w1019])],[emA,boxA b25 32 (cw [w323,w424]),boxA b20 38 (cw [w312,w413,w514,w615,w716,w817]),emA,emA,boxA g14_0 40 (cw [g12_0,g12_1,g12_2,g12_3,g12_4,g12_5,g12_6,g12_7,g12_8,g12_9,g12_10,g12_11]),boxA g13_0 40 (cw [g4_0,g4_1,g4_2,g4_3,g4_4,g4_5,g4_6,g4_7,g4_8,g4_9,g4_10,g4_11]),boxA b9 34 (cw [w35,w46,w57,w68]),emA,boxA b3 26 [.int .i8 s1,.int .i8 s2],emA,boxA b1 22 [.int .i64 f,.int .i64 b]],[slF rRy (some ⟨u15_1r2,0,none⟩) 2 ([(⟨((0:Int):Rat),((0:Int):Rat),((0:Int):Rat),((((64*p0)+(2*((s1).tmod 8))):Int):Rat),(((64*p1):Int):Rat),((f:Int):Rat)⟩:Td.Ry),(⟨((b:Int):Rat),((0:Int):Rat),((0:Int):Rat),((((64*(p0 - d))+(2*((s2).tmod 8))):Int):Rat),(((64*p1):Int):Rat),((f:Int):Rat)⟩:Td.Ry)]),qF true w323 w424 (Rat.divInt (f*b) (64*d)),qF true w312 w413 (Td.pX b ((64*p0)+(2*0)) ((64*(p0 - d))+(2*0))),qF true w514 w615 (Td.pY b ((64*p0)+(2*0)) ((64*(p0 - d))+(2*0)) (64*p1)),qF true w716 w817 (Td.pZ f b ((64*p0)+(2*0)) ((64*(p0 - d))+(2*0))),qF true w918 w1019 ((0:Int):Rat),slF (rI .i64) (some ⟨b11,0,none⟩) 2 ([1,1]),slF rRy (some ⟨b10,0,none⟩) 2 ([(⟨((0:Int):Rat),((0:Int):Rat),((0:Int):Rat),((((64*p0)+(2*0)):Int):Rat),(((64*p1):Int):Rat),((f:Int):Rat)⟩:Td.Ry),(⟨((b:Int):Rat),((0:Int):Rat),((0:Int):Rat),((((64*(p0 - d))+(2*0)):Int):Rat),(((64*p1):Int):Rat),((f:Int):Rat)⟩:Td.Ry)]),qF true g12_0 g12_1 ((b:Int):Rat),qF true g12_2 g12_3 ((0:Int):Rat),qF true g12_4 g12_5 ((0:Int):Rat),qF true g12_6 g12_7 ((((64*(p0 - d))+(2*0)):Int):Rat),qF true g12_8 g12_9 (((64*p1):Int):Rat),qF true g12_10 g12_11 ((f:Int):Rat),qF true g4_0 g4_1 ((0:Int):Rat),qF true g4_2 g4_3 ((0:Int):Rat),qF true g4_4 g4_5 ((0:Int):Rat),qF true g4_6 g4_7 ((((64*p0)+(2*0)):Int):Rat),qF true g4_8 g4_9 (((64*p1):Int):Rat),qF true g4_10 g4_11 ((f:Int):Rat),atF b4 0 [.int .i64 f],atF b2 0 [.int .i16 p0,.int .i16 p1,.int .i16 d],qF true w35 w46 (Rat.divInt (f*b) (32*((2*d)+1))),qF true w57 w68 (Rat.divInt (f*b) (32*((2*d) - 1)))])) ?_ (fun hD8=> ?_)
 ·
  rintro u15_1r2
  dsimp only [cw]
  refine zrd 16 22 kr ?_ ?_
  ·
   refine zwb rfl rfl rfl rfl (zH (enc:=fun z:Int=>[.int .i64 z]) (ok:=InK .i64) (h1:=fun _=>rfl) (h2:=fun _=>rfl) (k:=2) yd inf3 rfl dd dd dd (.c (x:=1) rfl rfl (fun _ _=>by exact zga.2 om) (.c (x:=1) rfl rfl (fun _ _=>by exact zga.2 om) .n))) (fun u16_1r2 _=> ?_)
   refine zLa 0 rfl .z ?_
   exact zma (hD5 (u15_1r2,u16_1r2)) kr (mR rfl) .rfl .rfl ((.of [0,1,2,3,4,5,6,7,8,9,10,11,12,13,14,15,16,17,18,19,20,21,22,23,24] rfl):SelR _ _ _)
  ·
   refine zmb rfl rfl rfl rfl (zo zr38 rfl) (fun u22_1r2 _=> ?_)
   exact zma (hD6 (u15_1r2,u22_1r2)) kr (mR rfl) .rfl .rfl ((.of [0,1,2,3,4,5,6,7,8,9,10,11,12,13,14,15,16,17,18,19,20,21,22,23] rfl):SelR _ _ _)
 refine zOa (X:=Wd×Wd×Wd×Wd×Wd×Wd×Wd×Wd×Wd×Wd×Wd×Wd×Wd×Wd×Wd×Wd×Wd×Wd×Wd×Wd×Wd×Wd×Wd×Wd×Nat) (k':=10) (L':=(lb 26 98303)) (fun (u5_1r2,u5_2r2,u5_3r2,u5_4r2,u5_5r2,u5_6r2,u5_7r2,u5_8r2,u5_9r2,u5_10r2,u5_11r2,u5_12r2,u14_1r2,u14_2r2,u14_3r2,u14_4r2,u14_5r2,u14_6r2,u14_7r2,u14_8r2,u14_9r2,u14_10r2,u14_11r2,u14_12r2,u16_1r2)=>([(141,.slice (some ⟨u16_1r2,0,none⟩) 2 2),(139,.agg (cw [u14_1r2,u14_2r2,u14_3r2,u14_4r2,u14_5r2,u14_6r2,u14_7r2,u14_8r2,u14_9r2,u14_10r2,u14_11r2,u14_12r2]).toArray),(130,.agg (cw [u5_1r2,u5_2r2,u5_3r2,u5_4r2,u5_5r2,u5_6r2,u5_7r2,u5_8r2,u5_9r2,u5_10r2,u5_11r2,u5_12r2]).toArray),(17,.pointer (some ⟨b25,0,none⟩)),(11,.int .i64 0),(16,.pointer (some ⟨b21,0,none⟩)),(10,.pointer (some ⟨b9,0,none⟩)),(9,.int .i64 d),(8,.int .i64 b),(7,.pointer (some ⟨b4,0,none⟩)),(6,.bool false)],[boxA b21 32 (cw [w918,w1019])],[emA,boxA b25 32 (cw [w323,w424]),boxA b20 38 (cw [w312,w413,w514,w615,w716,w817]),emA,emA,boxA g14_0 40 (cw [g12_0,g12_1,g12_2,g12_3,g12_4,g12_5,g12_6,g12_7,g12_8,g12_9,g12_10,g12_11]),boxA g13_0 40 (cw [g4_0,g4_1,g4_2,g4_3,g4_4,g4_5,g4_6,g4_7,g4_8,g4_9,g4_10,g4_11]),boxA b9 34 (cw [w35,w46,w57,w68]),emA,boxA b3 26 [.int .i8 s1,.int .i8 s2],emA,boxA b1 22 [.int .i64 f,.int .i64 b]],[slF (rI .i64) (some ⟨u16_1r2,0,none⟩) 2 ([1,1]),qF true u14_1r2 u14_2r2 ((b:Int):Rat),qF true u14_3r2 u14_4r2 ((0:Int):Rat),qF true u14_5r2 u14_6r2 ((0:Int):Rat),qF true u14_7r2 u14_8r2 ((((64*(p0 - d))+(2*((s2).tmod 8))):Int):Rat),qF true u14_9r2 u14_10r2 (((64*p1):Int):Rat),qF true u14_11r2 u14_12r2 ((f:Int):Rat),qF true u5_1r2 u5_2r2 ((0:Int):Rat),qF true u5_3r2 u5_4r2 ((0:Int):Rat),qF true u5_5r2 u5_6r2 ((0:Int):Rat),qF true u5_7r2 u5_8r2 ((((64*p0)+(2*((s1).tmod 8))):Int):Rat),qF true u5_9r2 u5_10r2 (((64*p1):Int):Rat),qF true u5_11r2 u5_12r2 ((f:Int):Rat),qF true w323 w424 (Rat.divInt (f*b) (64*d)),qF true w312 w413 (Td.pX b ((64*p0)+(2*0)) ((64*(p0 - d))+(2*0))),qF true w514 w615 (Td.pY b ((64*p0)+(2*0)) ((64*(p0 - d))+(2*0)) (64*p1)),qF true w716 w817 (Td.pZ f b ((64*p0)+(2*0)) ((64*(p0 - d))+(2*0))),qF true w918 w1019 ((0:Int):Rat),slF (rI .i64) (some ⟨b11,0,none⟩) 2 ([1,1]),slF rRy (some ⟨b10,0,none⟩) 2 ([(⟨((0:Int):Rat),((0:Int):Rat),((0:Int):Rat),((((64*p0)+(2*0)):Int):Rat),(((64*p1):Int):Rat),((f:Int):Rat)⟩:Td.Ry),(⟨((b:Int):Rat),((0:Int):Rat),((0:Int):Rat),((((64*(p0 - d))+(2*0)):Int):Rat),(((64*p1):Int):Rat),((f:Int):Rat)⟩:Td.Ry)]),qF true g12_0 g12_1 ((b:Int):Rat),qF true g12_2 g12_3 ((0:Int):Rat),qF true g12_4 g12_5 ((0:Int):Rat),qF true g12_6 g12_7 ((((64*(p0 - d))+(2*0)):Int):Rat),qF true g12_8 g12_9 (((64*p1):Int):Rat),qF true g12_10 g12_11 ((f:Int):Rat),qF true g4_0 g4_1 ((0:Int):Rat),qF true g4_2 g4_3 ((0:Int):Rat),qF true g4_4 g4_5 ((0:Int):Rat),qF true g4_6 g4_7 ((((64*p0)+(2*0)):Int):Rat),qF true g4_8 g4_9 (((64*p1):Int):Rat),qF true g4_10 g4_11 ((f:Int):Rat),atF b4 0 [.int .i64 f],atF b2 0 [.int .i16 p0,.int .i16 p1,.int .i16 d],qF true w35 w46 (Rat.divInt (f*b) (32*((2*d)+1))),qF true w57 w68 (Rat.divInt (f*b) (32*((2*d) - 1)))])) ?_ (fun hD9=> ?_)
 ·
  rintro ⟨u5_1r2,u5_2r2,u5_3r2,u5_4r2,u5_5r2,u5_6r2,u5_7r2,u5_8r2,u5_9r2,u5_10r2,u5_11r2,u5_12r2,u14_1r2,u14_2r2,u14_3r2,u14_4r2,u14_5r2,u14_6r2,u14_7r2,u14_8r2,u14_9r2,u14_10r2,u14_11r2,u14_12r2,u16_1r2⟩
  dsimp only [cw]
  refine zrd 15 22 kr ?_ ?_
  ·
   refine zwb rfl rfl rfl rfl (zGa (r:=rRy) (k:=2) yh inf40 rfl dd dd dd (.c (x:=(⟨((0:Int):Rat),((0:Int):Rat),((0:Int):Rat),((((64*p0)+(2*((s1).tmod 8))):Int):Rat),(((64*p1):Int):Rat),((f:Int):Rat)⟩:Td.Ry)) (cs:=[u5_1r2.b,u5_1r2.l,u5_2r2.b,u5_2r2.l,u5_3r2.b,u5_3r2.l,u5_4r2.b,u5_4r2.l,u5_5r2.b,u5_5r2.l,u5_6r2.b,u5_6r2.l,u5_7r2.b,u5_7r2.l,u5_8r2.b,u5_8r2.l,u5_9r2.b,u5_9r2.l,u5_10r2.b,u5_10r2.l,u5_11r2.b,u5_11r2.l,u5_12r2.b,u5_12r2.l]) (u5_1r2,u5_2r2,u5_3r2,u5_4r2,u5_5r2,u5_6r2,u5_7r2,u5_8r2,u5_9r2,u5_10r2,u5_11r2,u5_12r2) rfl rfl rfl (fun g hr=>⟨Holds.get 7 rfl hr,Holds.get 8 rfl hr,Holds.get 9 rfl hr,Holds.get 10 rfl hr,Holds.get 11 rfl hr,Holds.get 12 rfl hr⟩) (.c (x:=(⟨((b:Int):Rat),((0:Int):Rat),((0:Int):Rat),((((64*(p0 - d))+(2*((s2).tmod 8))):Int):Rat),(((64*p1):Int):Rat),((f:Int):Rat)⟩:Td.Ry)) (cs:=[u14_1r2.b,u14_1r2.l,u14_2r2.b,u14_2r2.l,u14_3r2.b,u14_3r2.l,u14_4r2.b,u14_4r2.l,u14_5r2.b,u14_5r2.l,u14_6r2.b,u14_6r2.l,u14_7r2.b,u14_7r2.l,u14_8r2.b,u14_8r2.l,u14_9r2.b,u14_9r2.l,u14_10r2.b,u14_10r2.l,u14_11r2.b,u14_11r2.l,u14_12r2.b,u14_12r2.l]) (u14_1r2,u14_2r2,u14_3r2,u14_4r2,u14_5r2,u14_6r2,u14_7r2,u14_8r2,u14_9r2,u14_10r2,u14_11r2,u14_12r2) rfl rfl rfl (fun g hr=>⟨Holds.get 1 rfl hr,Holds.get 2 rfl hr,Holds.get 3 rfl hr,Holds.get 4 rfl hr,Holds.get 5 rfl hr,Holds.get 6 rfl hr⟩) .n))) (fun u15_1r2 _=> ?_)
   refine zLa 0 rfl .z ?_
   exact zma (hD5 (u15_1r2,u16_1r2)) kr (mR rfl) .rfl .rfl ((.of [1,0,14,15,16,17,18,19,20,21,22,23,24,25,26,27,28,29,30,31,32,33,34,35,36] rfl):SelR _ _ _)
  ·
   refine zmb rfl rfl rfl rfl (zo zr38 rfl) (fun u22_1r2 _=> ?_)
   exact zma (hD7 (u5_1r2,u5_2r2,u5_3r2,u5_4r2,u5_5r2,u5_6r2,u5_7r2,u5_8r2,u5_9r2,u5_10r2,u5_11r2,u5_12r2,u14_1r2,u14_2r2,u14_3r2,u14_4r2,u14_5r2,u14_6r2,u14_7r2,u14_8r2,u14_9r2,u14_10r2,u14_11r2,u14_12r2,u16_1r2,u22_1r2)) kr (mR rfl) .rfl .rfl ((.of [0,1,2,3,4,5,6,7,8,9,10,11,12,13,14,15,16,17,18,19,20,21,22,23,24,25,26,27,28,29,30,31,32,33,34,35] rfl):SelR _ _ _)
 refine zOa (X:=Wd×Wd×Wd×Wd×Wd×Wd×Wd×Wd×Wd×Wd×Wd×Wd×Wd×Wd×Wd×Wd×Wd×Wd×Wd×Wd×Wd×Wd×Wd×Wd×Nat) (k':=10) (L':=(lb 26 4227071)) (fun (u5_1r2,u5_2r2,u5_3r2,u5_4r2,u5_5r2,u5_6r2,u5_7r2,u5_8r2,u5_9r2,u5_10r2,u5_11r2,u5_12r2,u14_1r2,u14_2r2,u14_3r2,u14_4r2,u14_5r2,u14_6r2,u14_7r2,u14_8r2,u14_9r2,u14_10r2,u14_11r2,u14_12r2,u22_1r2)=>([(21,.pointer (some ⟨u22_1r2,0,none⟩)),(139,.agg (cw [u14_1r2,u14_2r2,u14_3r2,u14_4r2,u14_5r2,u14_6r2,u14_7r2,u14_8r2,u14_9r2,u14_10r2,u14_11r2,u14_12r2]).toArray),(130,.agg (cw [u5_1r2,u5_2r2,u5_3r2,u5_4r2,u5_5r2,u5_6r2,u5_7r2,u5_8r2,u5_9r2,u5_10r2,u5_11r2,u5_12r2]).toArray),(17,.pointer (some ⟨b25,0,none⟩)),(11,.int .i64 0),(16,.pointer (some ⟨b21,0,none⟩)),(10,.pointer (some ⟨b9,0,none⟩)),(9,.int .i64 d),(8,.int .i64 b),(7,.pointer (some ⟨b4,0,none⟩)),(6,.bool false)],[boxA u22_1r2 38 (cw [wz,wz,wz,wz,wz,wz]),boxA b21 32 (cw [w918,w1019])],[boxA b25 32 (cw [w323,w424]),boxA b20 38 (cw [w312,w413,w514,w615,w716,w817]),emA,emA,boxA g14_0 40 (cw [g12_0,g12_1,g12_2,g12_3,g12_4,g12_5,g12_6,g12_7,g12_8,g12_9,g12_10,g12_11]),boxA g13_0 40 (cw [g4_0,g4_1,g4_2,g4_3,g4_4,g4_5,g4_6,g4_7,g4_8,g4_9,g4_10,g4_11]),boxA b9 34 (cw [w35,w46,w57,w68]),emA,boxA b3 26 [.int .i8 s1,.int .i8 s2],emA,boxA b1 22 [.int .i64 f,.int .i64 b]],[qF true u14_1r2 u14_2r2 ((b:Int):Rat),qF true u14_3r2 u14_4r2 ((0:Int):Rat),qF true u14_5r2 u14_6r2 ((0:Int):Rat),qF true u14_7r2 u14_8r2 ((((64*(p0 - d))+(2*((s2).tmod 8))):Int):Rat),qF true u14_9r2 u14_10r2 (((64*p1):Int):Rat),qF true u14_11r2 u14_12r2 ((f:Int):Rat),qF true u5_1r2 u5_2r2 ((0:Int):Rat),qF true u5_3r2 u5_4r2 ((0:Int):Rat),qF true u5_5r2 u5_6r2 ((0:Int):Rat),qF true u5_7r2 u5_8r2 ((((64*p0)+(2*((s1).tmod 8))):Int):Rat),qF true u5_9r2 u5_10r2 (((64*p1):Int):Rat),qF true u5_11r2 u5_12r2 ((f:Int):Rat),qF true w323 w424 (Rat.divInt (f*b) (64*d)),qF true w312 w413 (Td.pX b ((64*p0)+(2*0)) ((64*(p0 - d))+(2*0))),qF true w514 w615 (Td.pY b ((64*p0)+(2*0)) ((64*(p0 - d))+(2*0)) (64*p1)),qF true w716 w817 (Td.pZ f b ((64*p0)+(2*0)) ((64*(p0 - d))+(2*0))),qF true w918 w1019 ((0:Int):Rat),slF (rI .i64) (some ⟨b11,0,none⟩) 2 ([1,1]),slF rRy (some ⟨b10,0,none⟩) 2 ([(⟨((0:Int):Rat),((0:Int):Rat),((0:Int):Rat),((((64*p0)+(2*0)):Int):Rat),(((64*p1):Int):Rat),((f:Int):Rat)⟩:Td.Ry),(⟨((b:Int):Rat),((0:Int):Rat),((0:Int):Rat),((((64*(p0 - d))+(2*0)):Int):Rat),(((64*p1):Int):Rat),((f:Int):Rat)⟩:Td.Ry)]),qF true g12_0 g12_1 ((b:Int):Rat),qF true g12_2 g12_3 ((0:Int):Rat),qF true g12_4 g12_5 ((0:Int):Rat),qF true g12_6 g12_7 ((((64*(p0 - d))+(2*0)):Int):Rat),qF true g12_8 g12_9 (((64*p1):Int):Rat),qF true g12_10 g12_11 ((f:Int):Rat),qF true g4_0 g4_1 ((0:Int):Rat),qF true g4_2 g4_3 ((0:Int):Rat),qF true g4_4 g4_5 ((0:Int):Rat),qF true g4_6 g4_7 ((((64*p0)+(2*0)):Int):Rat),qF true g4_8 g4_9 (((64*p1):Int):Rat),qF true g4_10 g4_11 ((f:Int):Rat),atF b4 0 [.int .i64 f],atF b2 0 [.int .i16 p0,.int .i16 p1,.int .i16 d],qF true w35 w46 (Rat.divInt (f*b) (32*((2*d)+1))),qF true w57 w68 (Rat.divInt (f*b) (32*((2*d) - 1)))])) ?_ (fun hD10=> ?_)
 ·
  rintro ⟨u5_1r2,u5_2r2,u5_3r2,u5_4r2,u5_5r2,u5_6r2,u5_7r2,u5_8r2,u5_9r2,u5_10r2,u5_11r2,u5_12r2,u14_1r2,u14_2r2,u14_3r2,u14_4r2,u14_5r2,u14_6r2,u14_7r2,u14_8r2,u14_9r2,u14_10r2,u14_11r2,u14_12r2,u22_1r2⟩
  dsimp only [cw]
  refine zrd 15 16 kr ?_ ?_
  ·
   refine zwb rfl rfl rfl rfl (zGa (r:=rRy) (k:=2) yh inf40 rfl dd dd dd (.c (x:=(⟨((0:Int):Rat),((0:Int):Rat),((0:Int):Rat),((((64*p0)+(2*((s1).tmod 8))):Int):Rat),(((64*p1):Int):Rat),((f:Int):Rat)⟩:Td.Ry)) (cs:=[u5_1r2.b,u5_1r2.l,u5_2r2.b,u5_2r2.l,u5_3r2.b,u5_3r2.l,u5_4r2.b,u5_4r2.l,u5_5r2.b,u5_5r2.l,u5_6r2.b,u5_6r2.l,u5_7r2.b,u5_7r2.l,u5_8r2.b,u5_8r2.l,u5_9r2.b,u5_9r2.l,u5_10r2.b,u5_10r2.l,u5_11r2.b,u5_11r2.l,u5_12r2.b,u5_12r2.l]) (u5_1r2,u5_2r2,u5_3r2,u5_4r2,u5_5r2,u5_6r2,u5_7r2,u5_8r2,u5_9r2,u5_10r2,u5_11r2,u5_12r2) rfl rfl rfl (fun g hr=>⟨Holds.get 6 rfl hr,Holds.get 7 rfl hr,Holds.get 8 rfl hr,Holds.get 9 rfl hr,Holds.get 10 rfl hr,Holds.get 11 rfl hr⟩) (.c (x:=(⟨((b:Int):Rat),((0:Int):Rat),((0:Int):Rat),((((64*(p0 - d))+(2*((s2).tmod 8))):Int):Rat),(((64*p1):Int):Rat),((f:Int):Rat)⟩:Td.Ry)) (cs:=[u14_1r2.b,u14_1r2.l,u14_2r2.b,u14_2r2.l,u14_3r2.b,u14_3r2.l,u14_4r2.b,u14_4r2.l,u14_5r2.b,u14_5r2.l,u14_6r2.b,u14_6r2.l,u14_7r2.b,u14_7r2.l,u14_8r2.b,u14_8r2.l,u14_9r2.b,u14_9r2.l,u14_10r2.b,u14_10r2.l,u14_11r2.b,u14_11r2.l,u14_12r2.b,u14_12r2.l]) (u14_1r2,u14_2r2,u14_3r2,u14_4r2,u14_5r2,u14_6r2,u14_7r2,u14_8r2,u14_9r2,u14_10r2,u14_11r2,u14_12r2) rfl rfl rfl (fun g hr=>⟨Holds.get 0 rfl hr,Holds.get 1 rfl hr,Holds.get 2 rfl hr,Holds.get 3 rfl hr,Holds.get 4 rfl hr,Holds.get 5 rfl hr⟩) .n))) (fun u15_1r2 _=> ?_)
   refine zLa 0 rfl .z ?_
   exact zma (hD6 (u15_1r2,u22_1r2)) kr (mR rfl) .rfl .rfl ((.of [0,13,14,15,16,17,18,19,20,21,22,23,24,25,26,27,28,29,30,31,32,33,34,35] rfl):SelR _ _ _)
  ·
   refine zwb rfl rfl rfl rfl (zH (enc:=fun z:Int=>[.int .i64 z]) (ok:=InK .i64) (h1:=fun _=>rfl) (h2:=fun _=>rfl) (k:=2) yd inf3 rfl dd dd dd (.c (x:=1) rfl rfl (fun _ _=>by exact zga.2 om) (.c (x:=1) rfl rfl (fun _ _=>by exact zga.2 om) .n))) (fun u16_1r2 _=> ?_)
   refine zLa 0 rfl .z ?_
   exact zma (hD7 (u5_1r2,u5_2r2,u5_3r2,u5_4r2,u5_5r2,u5_6r2,u5_7r2,u5_8r2,u5_9r2,u5_10r2,u5_11r2,u5_12r2,u14_1r2,u14_2r2,u14_3r2,u14_4r2,u14_5r2,u14_6r2,u14_7r2,u14_8r2,u14_9r2,u14_10r2,u14_11r2,u14_12r2,u16_1r2,u22_1r2)) kr (mR rfl) .rfl .rfl ((.of [0,1,2,3,4,5,6,7,8,9,10,11,12,13,14,15,16,17,18,19,20,21,22,23,24,25,26,27,28,29,30,31,32,33,34,35] rfl):SelR _ _ _)
 refine zOa (X:=Wd×Wd×Wd×Wd×Wd×Wd×Wd×Wd×Wd×Wd×Wd×Wd×Nat×Nat) (k':=10) (L':=(lb 26 4276223)) (fun (u5_1r2,u5_2r2,u5_3r2,u5_4r2,u5_5r2,u5_6r2,u5_7r2,u5_8r2,u5_9r2,u5_10r2,u5_11r2,u5_12r2,u16_1r2,u22_1r2)=>([(21,.pointer (some ⟨u22_1r2,0,none⟩)),(141,.slice (some ⟨u16_1r2,0,none⟩) 2 2),(130,.agg (cw [u5_1r2,u5_2r2,u5_3r2,u5_4r2,u5_5r2,u5_6r2,u5_7r2,u5_8r2,u5_9r2,u5_10r2,u5_11r2,u5_12r2]).toArray),(138,.int .i64 ((s2).tmod 8)),(137,.int .i64 b),(136,.int .i64 (p0 - d)),(131,.func (.func 8) #[] #[.pointer (some ⟨b2,0,none⟩),.pointer (some ⟨b4,0,none⟩)]),(17,.pointer (some ⟨b25,0,none⟩)),(11,.int .i64 0),(16,.pointer (some ⟨b21,0,none⟩)),(10,.pointer (some ⟨b9,0,none⟩)),(9,.int .i64 d),(8,.int .i64 b),(7,.pointer (some ⟨b4,0,none⟩)),(6,.bool false)],[boxA u22_1r2 38 (cw [wz,wz,wz,wz,wz,wz]),boxA b21 32 (cw [w918,w1019])],[emA,boxA b25 32 (cw [w323,w424]),boxA b20 38 (cw [w312,w413,w514,w615,w716,w817]),emA,emA,boxA g14_0 40 (cw [g12_0,g12_1,g12_2,g12_3,g12_4,g12_5,g12_6,g12_7,g12_8,g12_9,g12_10,g12_11]),boxA g13_0 40 (cw [g4_0,g4_1,g4_2,g4_3,g4_4,g4_5,g4_6,g4_7,g4_8,g4_9,g4_10,g4_11]),boxA b9 34 (cw [w35,w46,w57,w68]),emA,boxA b3 26 [.int .i8 s1,.int .i8 s2],emA,boxA b1 22 [.int .i64 f,.int .i64 b]],[slF (rI .i64) (some ⟨u16_1r2,0,none⟩) 2 ([1,1]),qF true u5_1r2 u5_2r2 ((0:Int):Rat),qF true u5_3r2 u5_4r2 ((0:Int):Rat),qF true u5_5r2 u5_6r2 ((0:Int):Rat),qF true u5_7r2 u5_8r2 ((((64*p0)+(2*((s1).tmod 8))):Int):Rat),qF true u5_9r2 u5_10r2 (((64*p1):Int):Rat),qF true u5_11r2 u5_12r2 ((f:Int):Rat),qF true w323 w424 (Rat.divInt (f*b) (64*d)),qF true w312 w413 (Td.pX b ((64*p0)+(2*0)) ((64*(p0 - d))+(2*0))),qF true w514 w615 (Td.pY b ((64*p0)+(2*0)) ((64*(p0 - d))+(2*0)) (64*p1)),qF true w716 w817 (Td.pZ f b ((64*p0)+(2*0)) ((64*(p0 - d))+(2*0))),qF true w918 w1019 ((0:Int):Rat),slF (rI .i64) (some ⟨b11,0,none⟩) 2 ([1,1]),slF rRy (some ⟨b10,0,none⟩) 2 ([(⟨((0:Int):Rat),((0:Int):Rat),((0:Int):Rat),((((64*p0)+(2*0)):Int):Rat),(((64*p1):Int):Rat),((f:Int):Rat)⟩:Td.Ry),(⟨((b:Int):Rat),((0:Int):Rat),((0:Int):Rat),((((64*(p0 - d))+(2*0)):Int):Rat),(((64*p1):Int):Rat),((f:Int):Rat)⟩:Td.Ry)]),qF true g12_0 g12_1 ((b:Int):Rat),qF true g12_2 g12_3 ((0:Int):Rat),qF true g12_4 g12_5 ((0:Int):Rat),qF true g12_6 g12_7 ((((64*(p0 - d))+(2*0)):Int):Rat),qF true g12_8 g12_9 (((64*p1):Int):Rat),qF true g12_10 g12_11 ((f:Int):Rat),qF true g4_0 g4_1 ((0:Int):Rat),qF true g4_2 g4_3 ((0:Int):Rat),qF true g4_4 g4_5 ((0:Int):Rat),qF true g4_6 g4_7 ((((64*p0)+(2*0)):Int):Rat),qF true g4_8 g4_9 (((64*p1):Int):Rat),qF true g4_10 g4_11 ((f:Int):Rat),atF b4 0 [.int .i64 f],atF b2 0 [.int .i16 p0,.int .i16 p1,.int .i16 d],qF true w35 w46 (Rat.divInt (f*b) (32*((2*d)+1))),qF true w57 w68 (Rat.divInt (f*b) (32*((2*d) - 1)))])) ?_ (fun hD11=> ?_)
 ·
  rintro ⟨u5_1r2,u5_2r2,u5_3r2,u5_4r2,u5_5r2,u5_6r2,u5_7r2,u5_8r2,u5_9r2,u5_10r2,u5_11r2,u5_12r2,u16_1r2,u22_1r2⟩
  dsimp only [cw]
  refine zFc 14 kr ?_
  ·
   refine zlb (first:=[]) (cap:=[.pointer (some ⟨b2,0,none⟩),.pointer (some ⟨b4,0,none⟩)]) rfl rfl rfl rfl rfl (.c rfl (.c rfl (.c rfl .n))) ce8 (zub (x9:=(p0 - d)) (og:=b) (e9:=(s2).tmod 8) (bP:=b2) (bF:=b4) (p0:=p0) (p1:=p1) (d:=d) (f:=f) (hx:=by first|rfl|assumption|omega|decide) (he:=by first|rfl|assumption|omega|decide) (hp1:=ass) (hog:=by first|rfl|assumption|omega|decide) (hf:=by first|rfl|assumption|omega|decide)) (.c (j:=27) rfl (.c (j:=26) rfl .n)) ?_
   rintro ⟨u14_1r2,u14_2r2,u14_3r2,u14_4r2,u14_5r2,u14_6r2,u14_7r2,u14_8r2,u14_9r2,u14_10r2,u14_11r2,u14_12r2⟩ -
   dsimp only [aq,nq,cq]
   exact zma (hD7 (u5_1r2,u5_2r2,u5_3r2,u5_4r2,u5_5r2,u5_6r2,u5_7r2,u5_8r2,u5_9r2,u5_10r2,u5_11r2,u5_12r2,u14_1r2,u14_2r2,u14_3r2,u14_4r2,u14_5r2,u14_6r2,u14_7r2,u14_8r2,u14_9r2,u14_10r2,u14_11r2,u14_12r2,u16_1r2,u22_1r2)) kr (mR rfl) .rfl .rfl ((.of [6,0,1,2,3,4,5,7,8,9,10,11,12,13,14,15,16,17,18,19,20,21,22,23,24,25,26,27,28,29,30,31,32,33,34,35] rfl):SelR _ _ _)
 clear hD5 hD6 hD7
 refine zOa (X:=Wd×Wd×Wd×Wd×Wd×Wd×Wd×Wd×Wd×Wd×Wd×Wd×Wd×Wd×Wd×Wd×Wd×Wd×Wd×Wd×Wd×Wd×Wd×Wd) (k':=11) (L':=(lb 26 32767)) (fun (u5_1r2,u5_2r2,u5_3r2,u5_4r2,u5_5r2,u5_6r2,u5_7r2,u5_8r2,u5_9r2,u5_10r2,u5_11r2,u5_12r2,u14_1r2,u14_2r2,u14_3r2,u14_4r2,u14_5r2,u14_6r2,u14_7r2,u14_8r2,u14_9r2,u14_10r2,u14_11r2,u14_12r2)=>([(139,.agg (cw [u14_1r2,u14_2r2,u14_3r2,u14_4r2,u14_5r2,u14_6r2,u14_7r2,u14_8r2,u14_9r2,u14_10r2,u14_11r2,u14_12r2]).toArray),(130,.agg (cw [u5_1r2,u5_2r2,u5_3r2,u5_4r2,u5_5r2,u5_6r2,u5_7r2,u5_8r2,u5_9r2,u5_10r2,u5_11r2,u5_12r2]).toArray),(17,.pointer (some ⟨b25,0,none⟩)),(11,.int .i64 0),(16,.pointer (some ⟨b21,0,none⟩)),(10,.pointer (some ⟨b9,0,none⟩)),(9,.int .i64 d),(8,.int .i64 b),(7,.pointer (some ⟨b4,0,none⟩)),(6,.bool false)],[boxA b21 32 (cw [w918,w1019])],[boxA b25 32 (cw [w323,w424]),boxA b20 38 (cw [w312,w413,w514,w615,w716,w817]),emA,emA,boxA g14_0 40 (cw [g12_0,g12_1,g12_2,g12_3,g12_4,g12_5,g12_6,g12_7,g12_8,g12_9,g12_10,g12_11]),boxA g13_0 40 (cw [g4_0,g4_1,g4_2,g4_3,g4_4,g4_5,g4_6,g4_7,g4_8,g4_9,g4_10,g4_11]),boxA b9 34 (cw [w35,w46,w57,w68]),emA,boxA b3 26 [.int .i8 s1,.int .i8 s2],emA,boxA b1 22 [.int .i64 f,.int .i64 b]],[qF true u14_1r2 u14_2r2 ((b:Int):Rat),qF true u14_3r2 u14_4r2 ((0:Int):Rat),qF true u14_5r2 u14_6r2 ((0:Int):Rat),qF true u14_7r2 u14_8r2 ((((64*(p0 - d))+(2*((s2).tmod 8))):Int):Rat),qF true u14_9r2 u14_10r2 (((64*p1):Int):Rat),qF true u14_11r2 u14_12r2 ((f:Int):Rat),qF true u5_1r2 u5_2r2 ((0:Int):Rat),qF true u5_3r2 u5_4r2 ((0:Int):Rat),qF true u5_5r2 u5_6r2 ((0:Int):Rat),qF true u5_7r2 u5_8r2 ((((64*p0)+(2*((s1).tmod 8))):Int):Rat),qF true u5_9r2 u5_10r2 (((64*p1):Int):Rat),qF true u5_11r2 u5_12r2 ((f:Int):Rat),qF true w323 w424 (Rat.divInt (f*b) (64*d)),qF true w312 w413 (Td.pX b ((64*p0)+(2*0)) ((64*(p0 - d))+(2*0))),qF true w514 w615 (Td.pY b ((64*p0)+(2*0)) ((64*(p0 - d))+(2*0)) (64*p1)),qF true w716 w817 (Td.pZ f b ((64*p0)+(2*0)) ((64*(p0 - d))+(2*0))),qF true w918 w1019 ((0:Int):Rat),slF (rI .i64) (some ⟨b11,0,none⟩) 2 ([1,1]),slF rRy (some ⟨b10,0,none⟩) 2 ([(⟨((0:Int):Rat),((0:Int):Rat),((0:Int):Rat),((((64*p0)+(2*0)):Int):Rat),(((64*p1):Int):Rat),((f:Int):Rat)⟩:Td.Ry),(⟨((b:Int):Rat),((0:Int):Rat),((0:Int):Rat),((((64*(p0 - d))+(2*0)):Int):Rat),(((64*p1):Int):Rat),((f:Int):Rat)⟩:Td.Ry)]),qF true g12_0 g12_1 ((b:Int):Rat),qF true g12_2 g12_3 ((0:Int):Rat),qF true g12_4 g12_5 ((0:Int):Rat),qF true g12_6 g12_7 ((((64*(p0 - d))+(2*0)):Int):Rat),qF true g12_8 g12_9 (((64*p1):Int):Rat),qF true g12_10 g12_11 ((f:Int):Rat),qF true g4_0 g4_1 ((0:Int):Rat),qF true g4_2 g4_3 ((0:Int):Rat),qF true g4_4 g4_5 ((0:Int):Rat),qF true g4_6 g4_7 ((((64*p0)+(2*0)):Int):Rat),qF true g4_8 g4_9 (((64*p1):Int):Rat),qF true g4_10 g4_11 ((f:Int):Rat),atF b4 0 [.int .i64 f],atF b2 0 [.int .i16 p0,.int .i16 p1,.int .i16 d],qF true w35 w46 (Rat.divInt (f*b) (32*((2*d)+1))),qF true w57 w68 (Rat.divInt (f*b) (32*((2*d) - 1)))])) ?_ (fun hD12=> ?_)
 ·
  rintro ⟨u5_1r2,u5_2r2,u5_3r2,u5_4r2,u5_5r2,u5_6r2,u5_7r2,u5_8r2,u5_9r2,u5_10r2,u5_11r2,u5_12r2,u14_1r2,u14_2r2,u14_3r2,u14_4r2,u14_5r2,u14_6r2,u14_7r2,u14_8r2,u14_9r2,u14_10r2,u14_11r2,u14_12r2⟩
  dsimp only [cw]
  refine zke 15 16 22 kr ?_ ?_ ?_
  ·
   refine zwb rfl rfl rfl rfl (zGa (r:=rRy) (k:=2) yh inf40 rfl dd dd dd (.c (x:=(⟨((0:Int):Rat),((0:Int):Rat),((0:Int):Rat),((((64*p0)+(2*((s1).tmod 8))):Int):Rat),(((64*p1):Int):Rat),((f:Int):Rat)⟩:Td.Ry)) (cs:=[u5_1r2.b,u5_1r2.l,u5_2r2.b,u5_2r2.l,u5_3r2.b,u5_3r2.l,u5_4r2.b,u5_4r2.l,u5_5r2.b,u5_5r2.l,u5_6r2.b,u5_6r2.l,u5_7r2.b,u5_7r2.l,u5_8r2.b,u5_8r2.l,u5_9r2.b,u5_9r2.l,u5_10r2.b,u5_10r2.l,u5_11r2.b,u5_11r2.l,u5_12r2.b,u5_12r2.l]) (u5_1r2,u5_2r2,u5_3r2,u5_4r2,u5_5r2,u5_6r2,u5_7r2,u5_8r2,u5_9r2,u5_10r2,u5_11r2,u5_12r2) rfl rfl rfl (fun g hr=>⟨Holds.get 6 rfl hr,Holds.get 7 rfl hr,Holds.get 8 rfl hr,Holds.get 9 rfl hr,Holds.get 10 rfl hr,Holds.get 11 rfl hr⟩) (.c (x:=(⟨((b:Int):Rat),((0:Int):Rat),((0:Int):Rat),((((64*(p0 - d))+(2*((s2).tmod 8))):Int):Rat),(((64*p1):Int):Rat),((f:Int):Rat)⟩:Td.Ry)) (cs:=[u14_1r2.b,u14_1r2.l,u14_2r2.b,u14_2r2.l,u14_3r2.b,u14_3r2.l,u14_4r2.b,u14_4r2.l,u14_5r2.b,u14_5r2.l,u14_6r2.b,u14_6r2.l,u14_7r2.b,u14_7r2.l,u14_8r2.b,u14_8r2.l,u14_9r2.b,u14_9r2.l,u14_10r2.b,u14_10r2.l,u14_11r2.b,u14_11r2.l,u14_12r2.b,u14_12r2.l]) (u14_1r2,u14_2r2,u14_3r2,u14_4r2,u14_5r2,u14_6r2,u14_7r2,u14_8r2,u14_9r2,u14_10r2,u14_11r2,u14_12r2) rfl rfl rfl (fun g hr=>⟨Holds.get 0 rfl hr,Holds.get 1 rfl hr,Holds.get 2 rfl hr,Holds.get 3 rfl hr,Holds.get 4 rfl hr,Holds.get 5 rfl hr⟩) .n))) (fun u15_1r2 _=> ?_)
   refine zLa 0 rfl .z ?_
   exact zma (hD8 u15_1r2) kr (mR rfl) .rfl .rfl ((.of [0,13,14,15,16,17,18,19,20,21,22,23,24,25,26,27,28,29,30,31,32,33,34,35] rfl):SelR _ _ _)
  ·
   refine zwb rfl rfl rfl rfl (zH (enc:=fun z:Int=>[.int .i64 z]) (ok:=InK .i64) (h1:=fun _=>rfl) (h2:=fun _=>rfl) (k:=2) yd inf3 rfl dd dd dd (.c (x:=1) rfl rfl (fun _ _=>by exact zga.2 om) (.c (x:=1) rfl rfl (fun _ _=>by exact zga.2 om) .n))) (fun u16_1r2 _=> ?_)
   refine zLa 0 rfl .z ?_
   exact zma (hD9 (u5_1r2,u5_2r2,u5_3r2,u5_4r2,u5_5r2,u5_6r2,u5_7r2,u5_8r2,u5_9r2,u5_10r2,u5_11r2,u5_12r2,u14_1r2,u14_2r2,u14_3r2,u14_4r2,u14_5r2,u14_6r2,u14_7r2,u14_8r2,u14_9r2,u14_10r2,u14_11r2,u14_12r2,u16_1r2)) kr (mR rfl) .rfl .rfl ((.of [0,1,2,3,4,5,6,7,8,9,10,11,12,13,14,15,16,17,18,19,20,21,22,23,24,25,26,27,28,29,30,31,32,33,34,35] rfl):SelR _ _ _)
  ·
   refine zmb rfl rfl rfl rfl (zo zr38 rfl) (fun u22_1r2 _=> ?_)
   exact zma (hD10 (u5_1r2,u5_2r2,u5_3r2,u5_4r2,u5_5r2,u5_6r2,u5_7r2,u5_8r2,u5_9r2,u5_10r2,u5_11r2,u5_12r2,u14_1r2,u14_2r2,u14_3r2,u14_4r2,u14_5r2,u14_6r2,u14_7r2,u14_8r2,u14_9r2,u14_10r2,u14_11r2,u14_12r2,u22_1r2)) kr (mR rfl) .rfl .rfl ((.of [0,1,2,3,4,5,6,7,8,9,10,11,12,13,14,15,16,17,18,19,20,21,22,23,24,25,26,27,28,29,30,31,32,33,34] rfl):SelR _ _ _)
 refine zOa (X:=Wd×Wd×Wd×Wd×Wd×Wd×Wd×Wd×Wd×Wd×Wd×Wd×Nat) (k':=11) (L':=(lb 26 81919)) (fun (u5_1r2,u5_2r2,u5_3r2,u5_4r2,u5_5r2,u5_6r2,u5_7r2,u5_8r2,u5_9r2,u5_10r2,u5_11r2,u5_12r2,u16_1r2)=>([(141,.slice (some ⟨u16_1r2,0,none⟩) 2 2),(130,.agg (cw [u5_1r2,u5_2r2,u5_3r2,u5_4r2,u5_5r2,u5_6r2,u5_7r2,u5_8r2,u5_9r2,u5_10r2,u5_11r2,u5_12r2]).toArray),(138,.int .i64 ((s2).tmod 8)),(137,.int .i64 b),(136,.int .i64 (p0 - d)),(131,.func (.func 8) #[] #[.pointer (some ⟨b2,0,none⟩),.pointer (some ⟨b4,0,none⟩)]),(17,.pointer (some ⟨b25,0,none⟩)),(11,.int .i64 0),(16,.pointer (some ⟨b21,0,none⟩)),(10,.pointer (some ⟨b9,0,none⟩)),(9,.int .i64 d),(8,.int .i64 b),(7,.pointer (some ⟨b4,0,none⟩)),(6,.bool false)],[boxA b21 32 (cw [w918,w1019])],[emA,boxA b25 32 (cw [w323,w424]),boxA b20 38 (cw [w312,w413,w514,w615,w716,w817]),emA,emA,boxA g14_0 40 (cw [g12_0,g12_1,g12_2,g12_3,g12_4,g12_5,g12_6,g12_7,g12_8,g12_9,g12_10,g12_11]),boxA g13_0 40 (cw [g4_0,g4_1,g4_2,g4_3,g4_4,g4_5,g4_6,g4_7,g4_8,g4_9,g4_10,g4_11]),boxA b9 34 (cw [w35,w46,w57,w68]),emA,boxA b3 26 [.int .i8 s1,.int .i8 s2],emA,boxA b1 22 [.int .i64 f,.int .i64 b]],[slF (rI .i64) (some ⟨u16_1r2,0,none⟩) 2 ([1,1]),qF true u5_1r2 u5_2r2 ((0:Int):Rat),qF true u5_3r2 u5_4r2 ((0:Int):Rat),qF true u5_5r2 u5_6r2 ((0:Int):Rat),qF true u5_7r2 u5_8r2 ((((64*p0)+(2*((s1).tmod 8))):Int):Rat),qF true u5_9r2 u5_10r2 (((64*p1):Int):Rat),qF true u5_11r2 u5_12r2 ((f:Int):Rat),qF true w323 w424 (Rat.divInt (f*b) (64*d)),qF true w312 w413 (Td.pX b ((64*p0)+(2*0)) ((64*(p0 - d))+(2*0))),qF true w514 w615 (Td.pY b ((64*p0)+(2*0)) ((64*(p0 - d))+(2*0)) (64*p1)),qF true w716 w817 (Td.pZ f b ((64*p0)+(2*0)) ((64*(p0 - d))+(2*0))),qF true w918 w1019 ((0:Int):Rat),slF (rI .i64) (some ⟨b11,0,none⟩) 2 ([1,1]),slF rRy (some ⟨b10,0,none⟩) 2 ([(⟨((0:Int):Rat),((0:Int):Rat),((0:Int):Rat),((((64*p0)+(2*0)):Int):Rat),(((64*p1):Int):Rat),((f:Int):Rat)⟩:Td.Ry),(⟨((b:Int):Rat),((0:Int):Rat),((0:Int):Rat),((((64*(p0 - d))+(2*0)):Int):Rat),(((64*p1):Int):Rat),((f:Int):Rat)⟩:Td.Ry)]),qF true g12_0 g12_1 ((b:Int):Rat),qF true g12_2 g12_3 ((0:Int):Rat),qF true g12_4 g12_5 ((0:Int):Rat),qF true g12_6 g12_7 ((((64*(p0 - d))+(2*0)):Int):Rat),qF true g12_8 g12_9 (((64*p1):Int):Rat),qF true g12_10 g12_11 ((f:Int):Rat),qF true g4_0 g4_1 ((0:Int):Rat),qF true g4_2 g4_3 ((0:Int):Rat),qF true g4_4 g4_5 ((0:Int):Rat),qF true g4_6 g4_7 ((((64*p0)+(2*0)):Int):Rat),qF true g4_8 g4_9 (((64*p1):Int):Rat),qF true g4_10 g4_11 ((f:Int):Rat),atF b4 0 [.int .i64 f],atF b2 0 [.int .i16 p0,.int .i16 p1,.int .i16 d],qF true w35 w46 (Rat.divInt (f*b) (32*((2*d)+1))),qF true w57 w68 (Rat.divInt (f*b) (32*((2*d) - 1)))])) ?_ (fun hD13=> ?_)
 ·
  rintro ⟨u5_1r2,u5_2r2,u5_3r2,u5_4r2,u5_5r2,u5_6r2,u5_7r2,u5_8r2,u5_9r2,u5_10r2,u5_11r2,u5_12r2,u16_1r2⟩
  dsimp only [cw]
  refine zrd 14 22 kr ?_ ?_
  ·
   refine zlb (first:=[]) (cap:=[.pointer (some ⟨b2,0,none⟩),.pointer (some ⟨b4,0,none⟩)]) rfl rfl rfl rfl rfl (.c rfl (.c rfl (.c rfl .n))) ce8 (zub (x9:=(p0 - d)) (og:=b) (e9:=(s2).tmod 8) (bP:=b2) (bF:=b4) (p0:=p0) (p1:=p1) (d:=d) (f:=f) (hx:=by first|rfl|assumption|omega|decide) (he:=by first|rfl|assumption|omega|decide) (hp1:=ass) (hog:=by first|rfl|assumption|omega|decide) (hf:=by first|rfl|assumption|omega|decide)) (.c (j:=27) rfl (.c (j:=26) rfl .n)) ?_
   rintro ⟨u14_1r2,u14_2r2,u14_3r2,u14_4r2,u14_5r2,u14_6r2,u14_7r2,u14_8r2,u14_9r2,u14_10r2,u14_11r2,u14_12r2⟩ -
   dsimp only [aq,nq,cq]
   exact zma (hD9 (u5_1r2,u5_2r2,u5_3r2,u5_4r2,u5_5r2,u5_6r2,u5_7r2,u5_8r2,u5_9r2,u5_10r2,u5_11r2,u5_12r2,u14_1r2,u14_2r2,u14_3r2,u14_4r2,u14_5r2,u14_6r2,u14_7r2,u14_8r2,u14_9r2,u14_10r2,u14_11r2,u14_12r2,u16_1r2)) kr (mR rfl) .rfl .rfl ((.of [6,0,1,2,3,4,5,7,8,9,10,11,12,13,14,15,16,17,18,19,20,21,22,23,24,25,26,27,28,29,30,31,32,33,34,35] rfl):SelR _ _ _)
  ·
   refine zmb rfl rfl rfl rfl (zo zr38 rfl) (fun u22_1r2 _=> ?_)
   exact zma (hD11 (u5_1r2,u5_2r2,u5_3r2,u5_4r2,u5_5r2,u5_6r2,u5_7r2,u5_8r2,u5_9r2,u5_10r2,u5_11r2,u5_12r2,u16_1r2,u22_1r2)) kr (mR rfl) .rfl .rfl ((.of [0,1,2,3,4,5,6,7,8,9,10,11,12,13,14,15,16,17,18,19,20,21,22,23,24,25,26,27,28,29] rfl):SelR _ _ _)
 refine zOa (X:=Wd×Wd×Wd×Wd×Wd×Wd×Wd×Wd×Wd×Wd×Wd×Wd×Nat) (k':=11) (L':=(lb 26 4210687)) (fun (u5_1r2,u5_2r2,u5_3r2,u5_4r2,u5_5r2,u5_6r2,u5_7r2,u5_8r2,u5_9r2,u5_10r2,u5_11r2,u5_12r2,u22_1r2)=>([(21,.pointer (some ⟨u22_1r2,0,none⟩)),(130,.agg (cw [u5_1r2,u5_2r2,u5_3r2,u5_4r2,u5_5r2,u5_6r2,u5_7r2,u5_8r2,u5_9r2,u5_10r2,u5_11r2,u5_12r2]).toArray),(138,.int .i64 ((s2).tmod 8)),(137,.int .i64 b),(136,.int .i64 (p0 - d)),(131,.func (.func 8) #[] #[.pointer (some ⟨b2,0,none⟩),.pointer (some ⟨b4,0,none⟩)]),(17,.pointer (some ⟨b25,0,none⟩)),(11,.int .i64 0),(16,.pointer (some ⟨b21,0,none⟩)),(10,.pointer (some ⟨b9,0,none⟩)),(9,.int .i64 d),(8,.int .i64 b),(7,.pointer (some ⟨b4,0,none⟩)),(6,.bool false)],[boxA u22_1r2 38 (cw [wz,wz,wz,wz,wz,wz]),boxA b21 32 (cw [w918,w1019])],[boxA b25 32 (cw [w323,w424]),boxA b20 38 (cw [w312,w413,w514,w615,w716,w817]),emA,emA,boxA g14_0 40 (cw [g12_0,g12_1,g12_2,g12_3,g12_4,g12_5,g12_6,g12_7,g12_8,g12_9,g12_10,g12_11]),boxA g13_0 40 (cw [g4_0,g4_1,g4_2,g4_3,g4_4,g4_5,g4_6,g4_7,g4_8,g4_9,g4_10,g4_11]),boxA b9 34 (cw [w35,w46,w57,w68]),emA,boxA b3 26 [.int .i8 s1,.int .i8 s2],emA,boxA b1 22 [.int .i64 f,.int .i64 b]],[qF true u5_1r2 u5_2r2 ((0:Int):Rat),qF true u5_3r2 u5_4r2 ((0:Int):Rat),qF true u5_5r2 u5_6r2 ((0:Int):Rat),qF true u5_7r2 u5_8r2 ((((64*p0)+(2*((s1).tmod 8))):Int):Rat),qF true u5_9r2 u5_10r2 (((64*p1):Int):Rat),qF true u5_11r2 u5_12r2 ((f:Int):Rat),qF true w323 w424 (Rat.divInt (f*b) (64*d)),qF true w312 w413 (Td.pX b ((64*p0)+(2*0)) ((64*(p0 - d))+(2*0))),qF true w514 w615 (Td.pY b ((64*p0)+(2*0)) ((64*(p0 - d))+(2*0)) (64*p1)),qF true w716 w817 (Td.pZ f b ((64*p0)+(2*0)) ((64*(p0 - d))+(2*0))),qF true w918 w1019 ((0:Int):Rat),slF (rI .i64) (some ⟨b11,0,none⟩) 2 ([1,1]),slF rRy (some ⟨b10,0,none⟩) 2 ([(⟨((0:Int):Rat),((0:Int):Rat),((0:Int):Rat),((((64*p0)+(2*0)):Int):Rat),(((64*p1):Int):Rat),((f:Int):Rat)⟩:Td.Ry),(⟨((b:Int):Rat),((0:Int):Rat),((0:Int):Rat),((((64*(p0 - d))+(2*0)):Int):Rat),(((64*p1):Int):Rat),((f:Int):Rat)⟩:Td.Ry)]),qF true g12_0 g12_1 ((b:Int):Rat),qF true g12_2 g12_3 ((0:Int):Rat),qF true g12_4 g12_5 ((0:Int):Rat),qF true g12_6 g12_7 ((((64*(p0 - d))+(2*0)):Int):Rat),qF true g12_8 g12_9 (((64*p1):Int):Rat),qF true g12_10 g12_11 ((f:Int):Rat),qF true g4_0 g4_1 ((0:Int):Rat),qF true g4_2 g4_3 ((0:Int):Rat),qF true g4_4 g4_5 ((0:Int):Rat),qF true g4_6 g4_7 ((((64*p0)+(2*0)):Int):Rat),qF true g4_8 g4_9 (((64*p1):Int):Rat),qF true g4_10 g4_11 ((f:Int):Rat),atF b4 0 [.int .i64 f],atF b2 0 [.int .i16 p0,.int .i16 p1,.int .i16 d],qF true w35 w46 (Rat.divInt (f*b) (32*((2*d)+1))),qF true w57 w68 (Rat.divInt (f*b) (32*((2*d) - 1)))])) ?_ (fun hD14=> ?_)
 ·
  rintro ⟨u5_1r2,u5_2r2,u5_3r2,u5_4r2,u5_5r2,u5_6r2,u5_7r2,u5_8r2,u5_9r2,u5_10r2,u5_11r2,u5_12r2,u22_1r2⟩
  dsimp only [cw]
  refine zrd 14 16 kr ?_ ?_
  ·
   refine zlb (first:=[]) (cap:=[.pointer (some ⟨b2,0,none⟩),.pointer (some ⟨b4,0,none⟩)]) rfl rfl rfl rfl rfl (.c rfl (.c rfl (.c rfl .n))) ce8 (zub (x9:=(p0 - d)) (og:=b) (e9:=(s2).tmod 8) (bP:=b2) (bF:=b4) (p0:=p0) (p1:=p1) (d:=d) (f:=f) (hx:=by first|rfl|assumption|omega|decide) (he:=by first|rfl|assumption|omega|decide) (hp1:=ass) (hog:=by first|rfl|assumption|omega|decide) (hf:=by first|rfl|assumption|omega|decide)) (.c (j:=26) rfl (.c (j:=25) rfl .n)) ?_
   rintro ⟨u14_1r2,u14_2r2,u14_3r2,u14_4r2,u14_5r2,u14_6r2,u14_7r2,u14_8r2,u14_9r2,u14_10r2,u14_11r2,u14_12r2⟩ -
   dsimp only [aq,nq,cq]
   exact zma (hD10 (u5_1r2,u5_2r2,u5_3r2,u5_4r2,u5_5r2,u5_6r2,u5_7r2,u5_8r2,u5_9r2,u5_10r2,u5_11r2,u5_12r2,u14_1r2,u14_2r2,u14_3r2,u14_4r2,u14_5r2,u14_6r2,u14_7r2,u14_8r2,u14_9r2,u14_10r2,u14_11r2,u14_12r2,u22_1r2)) kr (mR rfl) .rfl .rfl ((.of [0,1,2,3,4,5,6,7,8,9,10,11,12,13,14,15,16,17,18,19,20,21,22,23,24,25,26,27,28,29,30,31,32,33,34] rfl):SelR _ _ _)
  ·
   refine zwb rfl rfl rfl rfl (zH (enc:=fun z:Int=>[.int .i64 z]) (ok:=InK .i64) (h1:=fun _=>rfl) (h2:=fun _=>rfl) (k:=2) yd inf3 rfl dd dd dd (.c (x:=1) rfl rfl (fun _ _=>by exact zga.2 om) (.c (x:=1) rfl rfl (fun _ _=>by exact zga.2 om) .n))) (fun u16_1r2 _=> ?_)
   refine zLa 0 rfl .z ?_
   exact zma (hD11 (u5_1r2,u5_2r2,u5_3r2,u5_4r2,u5_5r2,u5_6r2,u5_7r2,u5_8r2,u5_9r2,u5_10r2,u5_11r2,u5_12r2,u16_1r2,u22_1r2)) kr (mR rfl) .rfl .rfl ((.of [0,1,2,3,4,5,6,7,8,9,10,11,12,13,14,15,16,17,18,19,20,21,22,23,24,25,26,27,28,29] rfl):SelR _ _ _)
 refine zOa (X:=Nat×Nat) (k':=11) (L':=(lb 26 4276191)) (fun (u16_1r2,u22_1r2)=>([(21,.pointer (some ⟨u22_1r2,0,none⟩)),(141,.slice (some ⟨u16_1r2,0,none⟩) 2 2),(138,.int .i64 ((s2).tmod 8)),(137,.int .i64 b),(136,.int .i64 (p0 - d)),(131,.func (.func 8) #[] #[.pointer (some ⟨b2,0,none⟩),.pointer (some ⟨b4,0,none⟩)]),(129,.int .i64 ((s1).tmod 8)),(128,.int .i64 p0),(125,.func (.func 8) #[] #[.pointer (some ⟨b2,0,none⟩),.pointer (some ⟨b4,0,none⟩)]),(17,.pointer (some ⟨b25,0,none⟩)),(11,.int .i64 0),(16,.pointer (some ⟨b21,0,none⟩)),(10,.pointer (some ⟨b9,0,none⟩)),(9,.int .i64 d),(8,.int .i64 b),(7,.pointer (some ⟨b4,0,none⟩)),(6,.bool false)],[boxA u22_1r2 38 (cw [wz,wz,wz,wz,wz,wz]),boxA b21 32 (cw [w918,w1019])],[emA,boxA b25 32 (cw [w323,w424]),boxA b20 38 (cw [w312,w413,w514,w615,w716,w817]),emA,emA,boxA g14_0 40 (cw [g12_0,g12_1,g12_2,g12_3,g12_4,g12_5,g12_6,g12_7,g12_8,g12_9,g12_10,g12_11]),boxA g13_0 40 (cw [g4_0,g4_1,g4_2,g4_3,g4_4,g4_5,g4_6,g4_7,g4_8,g4_9,g4_10,g4_11]),boxA b9 34 (cw [w35,w46,w57,w68]),emA,boxA b3 26 [.int .i8 s1,.int .i8 s2],emA,boxA b1 22 [.int .i64 f,.int .i64 b]],[slF (rI .i64) (some ⟨u16_1r2,0,none⟩) 2 ([1,1]),qF true w323 w424 (Rat.divInt (f*b) (64*d)),qF true w312 w413 (Td.pX b ((64*p0)+(2*0)) ((64*(p0 - d))+(2*0))),qF true w514 w615 (Td.pY b ((64*p0)+(2*0)) ((64*(p0 - d))+(2*0)) (64*p1)),qF true w716 w817 (Td.pZ f b ((64*p0)+(2*0)) ((64*(p0 - d))+(2*0))),qF true w918 w1019 ((0:Int):Rat),slF (rI .i64) (some ⟨b11,0,none⟩) 2 ([1,1]),slF rRy (some ⟨b10,0,none⟩) 2 ([(⟨((0:Int):Rat),((0:Int):Rat),((0:Int):Rat),((((64*p0)+(2*0)):Int):Rat),(((64*p1):Int):Rat),((f:Int):Rat)⟩:Td.Ry),(⟨((b:Int):Rat),((0:Int):Rat),((0:Int):Rat),((((64*(p0 - d))+(2*0)):Int):Rat),(((64*p1):Int):Rat),((f:Int):Rat)⟩:Td.Ry)]),qF true g12_0 g12_1 ((b:Int):Rat),qF true g12_2 g12_3 ((0:Int):Rat),qF true g12_4 g12_5 ((0:Int):Rat),qF true g12_6 g12_7 ((((64*(p0 - d))+(2*0)):Int):Rat),qF true g12_8 g12_9 (((64*p1):Int):Rat),qF true g12_10 g12_11 ((f:Int):Rat),qF true g4_0 g4_1 ((0:Int):Rat),qF true g4_2 g4_3 ((0:Int):Rat),qF true g4_4 g4_5 ((0:Int):Rat),qF true g4_6 g4_7 ((((64*p0)+(2*0)):Int):Rat),qF true g4_8 g4_9 (((64*p1):Int):Rat),qF true g4_10 g4_11 ((f:Int):Rat),atF b4 0 [.int .i64 f],atF b2 0 [.int .i16 p0,.int .i16 p1,.int .i16 d],qF true w35 w46 (Rat.divInt (f*b) (32*((2*d)+1))),qF true w57 w68 (Rat.divInt (f*b) (32*((2*d) - 1)))])) ?_ (fun hD15=> ?_)
 ·
  rintro ⟨u16_1r2,u22_1r2⟩
  dsimp only [cw]
  refine zFc 5 kr ?_
  ·
   refine zlb (first:=[]) (cap:=[.pointer (some ⟨b2,0,none⟩),.pointer (some ⟨b4,0,none⟩)]) rfl rfl rfl rfl rfl (.c rfl (.c rfl (.c rfl .n))) ce8 (zub (x9:=p0) (og:=0) (e9:=(s1).tmod 8) (bP:=b2) (bF:=b4) (p0:=p0) (p1:=p1) (d:=d) (f:=f) (hx:=by first|rfl|assumption|omega|decide) (he:=by first|rfl|assumption|omega|decide) (hp1:=ass) (hog:=by first|rfl|assumption|omega|decide) (hf:=by first|rfl|assumption|omega|decide)) (.c (j:=21) rfl (.c (j:=20) rfl .n)) ?_
   rintro ⟨u5_1r2,u5_2r2,u5_3r2,u5_4r2,u5_5r2,u5_6r2,u5_7r2,u5_8r2,u5_9r2,u5_10r2,u5_11r2,u5_12r2⟩ -
   dsimp only [aq,nq,cq]
   exact zma (hD11 (u5_1r2,u5_2r2,u5_3r2,u5_4r2,u5_5r2,u5_6r2,u5_7r2,u5_8r2,u5_9r2,u5_10r2,u5_11r2,u5_12r2,u16_1r2,u22_1r2)) kr (mR rfl) .rfl .rfl ((.of [6,0,1,2,3,4,5,7,8,9,10,11,12,13,14,15,16,17,18,19,20,21,22,23,24,25,26,27,28,29] rfl):SelR _ _ _)
 clear hD8 hD9 hD10 hD11
 refine zOa (X:=Wd×Wd×Wd×Wd×Wd×Wd×Wd×Wd×Wd×Wd×Wd×Wd) (k':=12) (L':=(lb 26 16383)) (fun (u5_1r2,u5_2r2,u5_3r2,u5_4r2,u5_5r2,u5_6r2,u5_7r2,u5_8r2,u5_9r2,u5_10r2,u5_11r2,u5_12r2)=>([(130,.agg (cw [u5_1r2,u5_2r2,u5_3r2,u5_4r2,u5_5r2,u5_6r2,u5_7r2,u5_8r2,u5_9r2,u5_10r2,u5_11r2,u5_12r2]).toArray),(138,.int .i64 ((s2).tmod 8)),(137,.int .i64 b),(136,.int .i64 (p0 - d)),(131,.func (.func 8) #[] #[.pointer (some ⟨b2,0,none⟩),.pointer (some ⟨b4,0,none⟩)]),(17,.pointer (some ⟨b25,0,none⟩)),(11,.int .i64 0),(16,.pointer (some ⟨b21,0,none⟩)),(10,.pointer (some ⟨b9,0,none⟩)),(9,.int .i64 d),(8,.int .i64 b),(7,.pointer (some ⟨b4,0,none⟩)),(6,.bool false)],[boxA b21 32 (cw [w918,w1019])],[boxA b25 32 (cw [w323,w424]),boxA b20 38 (cw [w312,w413,w514,w615,w716,w817]),emA,emA,boxA g14_0 40 (cw [g12_0,g12_1,g12_2,g12_3,g12_4,g12_5,g12_6,g12_7,g12_8,g12_9,g12_10,g12_11]),boxA g13_0 40 (cw [g4_0,g4_1,g4_2,g4_3,g4_4,g4_5,g4_6,g4_7,g4_8,g4_9,g4_10,g4_11]),boxA b9 34 (cw [w35,w46,w57,w68]),emA,boxA b3 26 [.int .i8 s1,.int .i8 s2],emA,boxA b1 22 [.int .i64 f,.int .i64 b]],[qF true u5_1r2 u5_2r2 ((0:Int):Rat),qF true u5_3r2 u5_4r2 ((0:Int):Rat),qF true u5_5r2 u5_6r2 ((0:Int):Rat),qF true u5_7r2 u5_8r2 ((((64*p0)+(2*((s1).tmod 8))):Int):Rat),qF true u5_9r2 u5_10r2 (((64*p1):Int):Rat),qF true u5_11r2 u5_12r2 ((f:Int):Rat),qF true w323 w424 (Rat.divInt (f*b) (64*d)),qF true w312 w413 (Td.pX b ((64*p0)+(2*0)) ((64*(p0 - d))+(2*0))),qF true w514 w615 (Td.pY b ((64*p0)+(2*0)) ((64*(p0 - d))+(2*0)) (64*p1)),qF true w716 w817 (Td.pZ f b ((64*p0)+(2*0)) ((64*(p0 - d))+(2*0))),qF true w918 w1019 ((0:Int):Rat),slF (rI .i64) (some ⟨b11,0,none⟩) 2 ([1,1]),slF rRy (some ⟨b10,0,none⟩) 2 ([(⟨((0:Int):Rat),((0:Int):Rat),((0:Int):Rat),((((64*p0)+(2*0)):Int):Rat),(((64*p1):Int):Rat),((f:Int):Rat)⟩:Td.Ry),(⟨((b:Int):Rat),((0:Int):Rat),((0:Int):Rat),((((64*(p0 - d))+(2*0)):Int):Rat),(((64*p1):Int):Rat),((f:Int):Rat)⟩:Td.Ry)]),qF true g12_0 g12_1 ((b:Int):Rat),qF true g12_2 g12_3 ((0:Int):Rat),qF true g12_4 g12_5 ((0:Int):Rat),qF true g12_6 g12_7 ((((64*(p0 - d))+(2*0)):Int):Rat),qF true g12_8 g12_9 (((64*p1):Int):Rat),qF true g12_10 g12_11 ((f:Int):Rat),qF true g4_0 g4_1 ((0:Int):Rat),qF true g4_2 g4_3 ((0:Int):Rat),qF true g4_4 g4_5 ((0:Int):Rat),qF true g4_6 g4_7 ((((64*p0)+(2*0)):Int):Rat),qF true g4_8 g4_9 (((64*p1):Int):Rat),qF true g4_10 g4_11 ((f:Int):Rat),atF b4 0 [.int .i64 f],atF b2 0 [.int .i16 p0,.int .i16 p1,.int .i16 d],qF true w35 w46 (Rat.divInt (f*b) (32*((2*d)+1))),qF true w57 w68 (Rat.divInt (f*b) (32*((2*d) - 1)))])) ?_ (fun hD16=> ?_)
 ·
  rintro ⟨u5_1r2,u5_2r2,u5_3r2,u5_4r2,u5_5r2,u5_6r2,u5_7r2,u5_8r2,u5_9r2,u5_10r2,u5_11r2,u5_12r2⟩
  dsimp only [cw]
  refine zke 14 16 22 kr ?_ ?_ ?_
  ·
   refine zlb (first:=[]) (cap:=[.pointer (some ⟨b2,0,none⟩),.pointer (some ⟨b4,0,none⟩)]) rfl rfl rfl rfl rfl (.c rfl (.c rfl (.c rfl .n))) ce8 (zub (x9:=(p0 - d)) (og:=b) (e9:=(s2).tmod 8) (bP:=b2) (bF:=b4) (p0:=p0) (p1:=p1) (d:=d) (f:=f) (hx:=by first|rfl|assumption|omega|decide) (he:=by first|rfl|assumption|omega|decide) (hp1:=ass) (hog:=by first|rfl|assumption|omega|decide) (hf:=by first|rfl|assumption|omega|decide)) (.c (j:=26) rfl (.c (j:=25) rfl .n)) ?_
   rintro ⟨u14_1r2,u14_2r2,u14_3r2,u14_4r2,u14_5r2,u14_6r2,u14_7r2,u14_8r2,u14_9r2,u14_10r2,u14_11r2,u14_12r2⟩ -
   dsimp only [aq,nq,cq]
   exact zma (hD12 (u5_1r2,u5_2r2,u5_3r2,u5_4r2,u5_5r2,u5_6r2,u5_7r2,u5_8r2,u5_9r2,u5_10r2,u5_11r2,u5_12r2,u14_1r2,u14_2r2,u14_3r2,u14_4r2,u14_5r2,u14_6r2,u14_7r2,u14_8r2,u14_9r2,u14_10r2,u14_11r2,u14_12r2)) kr (mR rfl) .rfl .rfl ((.of [0,1,2,3,4,5,6,7,8,9,10,11,12,13,14,15,16,17,18,19,20,21,22,23,24,25,26,27,28,29,30,31,32,33,34] rfl):SelR _ _ _)
  ·
   refine zwb rfl rfl rfl rfl (zH (enc:=fun z:Int=>[.int .i64 z]) (ok:=InK .i64) (h1:=fun _=>rfl) (h2:=fun _=>rfl) (k:=2) yd inf3 rfl dd dd dd (.c (x:=1) rfl rfl (fun _ _=>by exact zga.2 om) (.c (x:=1) rfl rfl (fun _ _=>by exact zga.2 om) .n))) (fun u16_1r2 _=> ?_)
   refine zLa 0 rfl .z ?_
   exact zma (hD13 (u5_1r2,u5_2r2,u5_3r2,u5_4r2,u5_5r2,u5_6r2,u5_7r2,u5_8r2,u5_9r2,u5_10r2,u5_11r2,u5_12r2,u16_1r2)) kr (mR rfl) .rfl .rfl ((.of [0,1,2,3,4,5,6,7,8,9,10,11,12,13,14,15,16,17,18,19,20,21,22,23,24,25,26,27,28,29] rfl):SelR _ _ _)
  ·
   refine zmb rfl rfl rfl rfl (zo zr38 rfl) (fun u22_1r2 _=> ?_)
   exact zma (hD14 (u5_1r2,u5_2r2,u5_3r2,u5_4r2,u5_5r2,u5_6r2,u5_7r2,u5_8r2,u5_9r2,u5_10r2,u5_11r2,u5_12r2,u22_1r2)) kr (mR rfl) .rfl .rfl ((.of [0,1,2,3,4,5,6,7,8,9,10,11,12,13,14,15,16,17,18,19,20,21,22,23,24,25,26,27,28] rfl):SelR _ _ _)
 refine zOa (X:=Nat) (k':=12) (L':=(lb 26 81887)) (fun u16_1r2=>([(141,.slice (some ⟨u16_1r2,0,none⟩) 2 2),(138,.int .i64 ((s2).tmod 8)),(137,.int .i64 b),(136,.int .i64 (p0 - d)),(131,.func (.func 8) #[] #[.pointer (some ⟨b2,0,none⟩),.pointer (some ⟨b4,0,none⟩)]),(129,.int .i64 ((s1).tmod 8)),(128,.int .i64 p0),(125,.func (.func 8) #[] #[.pointer (some ⟨b2,0,none⟩),.pointer (some ⟨b4,0,none⟩)]),(17,.pointer (some ⟨b25,0,none⟩)),(11,.int .i64 0),(16,.pointer (some ⟨b21,0,none⟩)),(10,.pointer (some ⟨b9,0,none⟩)),(9,.int .i64 d),(8,.int .i64 b),(7,.pointer (some ⟨b4,0,none⟩)),(6,.bool false)],[boxA b21 32 (cw [w918,w1019])],[emA,boxA b25 32 (cw [w323,w424]),boxA b20 38 (cw [w312,w413,w514,w615,w716,w817]),emA,emA,boxA g14_0 40 (cw [g12_0,g12_1,g12_2,g12_3,g12_4,g12_5,g12_6,g12_7,g12_8,g12_9,g12_10,g12_11]),boxA g13_0 40 (cw [g4_0,g4_1,g4_2,g4_3,g4_4,g4_5,g4_6,g4_7,g4_8,g4_9,g4_10,g4_11]),boxA b9 34 (cw [w35,w46,w57,w68]),emA,boxA b3 26 [.int .i8 s1,.int .i8 s2],emA,boxA b1 22 [.int .i64 f,.int .i64 b]],[slF (rI .i64) (some ⟨u16_1r2,0,none⟩) 2 ([1,1]),qF true w323 w424 (Rat.divInt (f*b) (64*d)),qF true w312 w413 (Td.pX b ((64*p0)+(2*0)) ((64*(p0 - d))+(2*0))),qF true w514 w615 (Td.pY b ((64*p0)+(2*0)) ((64*(p0 - d))+(2*0)) (64*p1)),qF true w716 w817 (Td.pZ f b ((64*p0)+(2*0)) ((64*(p0 - d))+(2*0))),qF true w918 w1019 ((0:Int):Rat),slF (rI .i64) (some ⟨b11,0,none⟩) 2 ([1,1]),slF rRy (some ⟨b10,0,none⟩) 2 ([(⟨((0:Int):Rat),((0:Int):Rat),((0:Int):Rat),((((64*p0)+(2*0)):Int):Rat),(((64*p1):Int):Rat),((f:Int):Rat)⟩:Td.Ry),(⟨((b:Int):Rat),((0:Int):Rat),((0:Int):Rat),((((64*(p0 - d))+(2*0)):Int):Rat),(((64*p1):Int):Rat),((f:Int):Rat)⟩:Td.Ry)]),qF true g12_0 g12_1 ((b:Int):Rat),qF true g12_2 g12_3 ((0:Int):Rat),qF true g12_4 g12_5 ((0:Int):Rat),qF true g12_6 g12_7 ((((64*(p0 - d))+(2*0)):Int):Rat),qF true g12_8 g12_9 (((64*p1):Int):Rat),qF true g12_10 g12_11 ((f:Int):Rat),qF true g4_0 g4_1 ((0:Int):Rat),qF true g4_2 g4_3 ((0:Int):Rat),qF true g4_4 g4_5 ((0:Int):Rat),qF true g4_6 g4_7 ((((64*p0)+(2*0)):Int):Rat),qF true g4_8 g4_9 (((64*p1):Int):Rat),qF true g4_10 g4_11 ((f:Int):Rat),atF b4 0 [.int .i64 f],atF b2 0 [.int .i16 p0,.int .i16 p1,.int .i16 d],qF true w35 w46 (Rat.divInt (f*b) (32*((2*d)+1))),qF true w57 w68 (Rat.divInt (f*b) (32*((2*d) - 1)))])) ?_ (fun hD17=> ?_)
 ·
  rintro u16_1r2
  dsimp only [cw]
  refine zrd 5 22 kr ?_ ?_
  ·
   refine zlb (first:=[]) (cap:=[.pointer (some ⟨b2,0,none⟩),.pointer (some ⟨b4,0,none⟩)]) rfl rfl rfl rfl rfl (.c rfl (.c rfl (.c rfl .n))) ce8 (zub (x9:=p0) (og:=0) (e9:=(s1).tmod 8) (bP:=b2) (bF:=b4) (p0:=p0) (p1:=p1) (d:=d) (f:=f) (hx:=by first|rfl|assumption|omega|decide) (he:=by first|rfl|assumption|omega|decide) (hp1:=ass) (hog:=by first|rfl|assumption|omega|decide) (hf:=by first|rfl|assumption|omega|decide)) (.c (j:=21) rfl (.c (j:=20) rfl .n)) ?_
   rintro ⟨u5_1r2,u5_2r2,u5_3r2,u5_4r2,u5_5r2,u5_6r2,u5_7r2,u5_8r2,u5_9r2,u5_10r2,u5_11r2,u5_12r2⟩ -
   dsimp only [aq,nq,cq]
   exact zma (hD13 (u5_1r2,u5_2r2,u5_3r2,u5_4r2,u5_5r2,u5_6r2,u5_7r2,u5_8r2,u5_9r2,u5_10r2,u5_11r2,u5_12r2,u16_1r2)) kr (mR rfl) .rfl .rfl ((.of [6,0,1,2,3,4,5,7,8,9,10,11,12,13,14,15,16,17,18,19,20,21,22,23,24,25,26,27,28,29] rfl):SelR _ _ _)
  ·
   refine zmb rfl rfl rfl rfl (zo zr38 rfl) (fun u22_1r2 _=> ?_)
   exact zma (hD15 (u16_1r2,u22_1r2)) kr (mR rfl) .rfl .rfl ((.of [0,1,2,3,4,5,6,7,8,9,10,11,12,13,14,15,16,17,18,19,20,21,22,23] rfl):SelR _ _ _)
 refine zOa (X:=Nat) (k':=12) (L':=(lb 26 4210655)) (fun u22_1r2=>([(21,.pointer (some ⟨u22_1r2,0,none⟩)),(138,.int .i64 ((s2).tmod 8)),(137,.int .i64 b),(136,.int .i64 (p0 - d)),(131,.func (.func 8) #[] #[.pointer (some ⟨b2,0,none⟩),.pointer (some ⟨b4,0,none⟩)]),(129,.int .i64 ((s1).tmod 8)),(128,.int .i64 p0),(125,.func (.func 8) #[] #[.pointer (some ⟨b2,0,none⟩),.pointer (some ⟨b4,0,none⟩)]),(17,.pointer (some ⟨b25,0,none⟩)),(11,.int .i64 0),(16,.pointer (some ⟨b21,0,none⟩)),(10,.pointer (some ⟨b9,0,none⟩)),(9,.int .i64 d),(8,.int .i64 b),(7,.pointer (some ⟨b4,0,none⟩)),(6,.bool false)],[boxA u22_1r2 38 (cw [wz,wz,wz,wz,wz,wz]),boxA b21 32 (cw [w918,w1019])],[boxA b25 32 (cw [w323,w424]),boxA b20 38 (cw [w312,w413,w514,w615,w716,w817]),emA,emA,boxA g14_0 40 (cw [g12_0,g12_1,g12_2,g12_3,g12_4,g12_5,g12_6,g12_7,g12_8,g12_9,g12_10,g12_11]),boxA g13_0 40 (cw [g4_0,g4_1,g4_2,g4_3,g4_4,g4_5,g4_6,g4_7,g4_8,g4_9,g4_10,g4_11]),boxA b9 34 (cw [w35,w46,w57,w68]),emA,boxA b3 26 [.int .i8 s1,.int .i8 s2],emA,boxA b1 22 [.int .i64 f,.int .i64 b]],[qF true w323 w424 (Rat.divInt (f*b) (64*d)),qF true w312 w413 (Td.pX b ((64*p0)+(2*0)) ((64*(p0 - d))+(2*0))),qF true w514 w615 (Td.pY b ((64*p0)+(2*0)) ((64*(p0 - d))+(2*0)) (64*p1)),qF true w716 w817 (Td.pZ f b ((64*p0)+(2*0)) ((64*(p0 - d))+(2*0))),qF true w918 w1019 ((0:Int):Rat),slF (rI .i64) (some ⟨b11,0,none⟩) 2 ([1,1]),slF rRy (some ⟨b10,0,none⟩) 2 ([(⟨((0:Int):Rat),((0:Int):Rat),((0:Int):Rat),((((64*p0)+(2*0)):Int):Rat),(((64*p1):Int):Rat),((f:Int):Rat)⟩:Td.Ry),(⟨((b:Int):Rat),((0:Int):Rat),((0:Int):Rat),((((64*(p0 - d))+(2*0)):Int):Rat),(((64*p1):Int):Rat),((f:Int):Rat)⟩:Td.Ry)]),qF true g12_0 g12_1 ((b:Int):Rat),qF true g12_2 g12_3 ((0:Int):Rat),qF true g12_4 g12_5 ((0:Int):Rat),qF true g12_6 g12_7 ((((64*(p0 - d))+(2*0)):Int):Rat),qF true g12_8 g12_9 (((64*p1):Int):Rat),qF true g12_10 g12_11 ((f:Int):Rat),qF true g4_0 g4_1 ((0:Int):Rat),qF true g4_2 g4_3 ((0:Int):Rat),qF true g4_4 g4_5 ((0:Int):Rat),qF true g4_6 g4_7 ((((64*p0)+(2*0)):Int):Rat),qF true g4_8 g4_9 (((64*p1):Int):Rat),qF true g4_10 g4_11 ((f:Int):Rat),atF b4 0 [.int .i64 f],atF b2 0 [.int .i16 p0,.int .i16 p1,.int .i16 d],qF true w35 w46 (Rat.divInt (f*b) (32*((2*d)+1))),qF true w57 w68 (Rat.divInt (f*b) (32*((2*d) - 1)))])) ?_ (fun hD18=> ?_)
 ·
  rintro u22_1r2
  dsimp only [cw]
  refine zrd 5 16 kr ?_ ?_
  ·
   refine zlb (first:=[]) (cap:=[.pointer (some ⟨b2,0,none⟩),.pointer (some ⟨b4,0,none⟩)]) rfl rfl rfl rfl rfl (.c rfl (.c rfl (.c rfl .n))) ce8 (zub (x9:=p0) (og:=0) (e9:=(s1).tmod 8) (bP:=b2) (bF:=b4) (p0:=p0) (p1:=p1) (d:=d) (f:=f) (hx:=by first|rfl|assumption|omega|decide) (he:=by first|rfl|assumption|omega|decide) (hp1:=ass) (hog:=by first|rfl|assumption|omega|decide) (hf:=by first|rfl|assumption|omega|decide)) (.c (j:=20) rfl (.c (j:=19) rfl .n)) ?_
   rintro ⟨u5_1r2,u5_2r2,u5_3r2,u5_4r2,u5_5r2,u5_6r2,u5_7r2,u5_8r2,u5_9r2,u5_10r2,u5_11r2,u5_12r2⟩ -
   dsimp only [aq,nq,cq]
   exact zma (hD14 (u5_1r2,u5_2r2,u5_3r2,u5_4r2,u5_5r2,u5_6r2,u5_7r2,u5_8r2,u5_9r2,u5_10r2,u5_11r2,u5_12r2,u22_1r2)) kr (mR rfl) .rfl .rfl ((.of [0,1,2,3,4,5,6,7,8,9,10,11,12,13,14,15,16,17,18,19,20,21,22,23,24,25,26,27,28] rfl):SelR _ _ _)
  ·
   refine zwb rfl rfl rfl rfl (zH (enc:=fun z:Int=>[.int .i64 z]) (ok:=InK .i64) (h1:=fun _=>rfl) (h2:=fun _=>rfl) (k:=2) yd inf3 rfl dd dd dd (.c (x:=1) rfl rfl (fun _ _=>by exact zga.2 om) (.c (x:=1) rfl rfl (fun _ _=>by exact zga.2 om) .n))) (fun u16_1r2 _=> ?_)
   refine zLa 0 rfl .z ?_
   exact zma (hD15 (u16_1r2,u22_1r2)) kr (mR rfl) .rfl .rfl ((.of [0,1,2,3,4,5,6,7,8,9,10,11,12,13,14,15,16,17,18,19,20,21,22,23] rfl):SelR _ _ _)
 clear hD12 hD13 hD14 hD15
 refine zke 5 16 22 kr ?_ ?_ ?_
 ·
  refine zlb (first:=[]) (cap:=[.pointer (some ⟨b2,0,none⟩),.pointer (some ⟨b4,0,none⟩)]) rfl rfl rfl rfl rfl (.c rfl (.c rfl (.c rfl .n))) ce8 (zub (x9:=p0) (og:=0) (e9:=(s1).tmod 8) (bP:=b2) (bF:=b4) (p0:=p0) (p1:=p1) (d:=d) (f:=f) (hx:=by first|rfl|assumption|omega|decide) (he:=by first|rfl|assumption|omega|decide) (hp1:=ass) (hog:=by first|rfl|assumption|omega|decide) (hf:=by first|rfl|assumption|omega|decide)) (.c (j:=20) rfl (.c (j:=19) rfl .n)) ?_
  rintro ⟨u5_1r2,u5_2r2,u5_3r2,u5_4r2,u5_5r2,u5_6r2,u5_7r2,u5_8r2,u5_9r2,u5_10r2,u5_11r2,u5_12r2⟩ -
  dsimp only [aq,nq,cq]
  exact zma (hD16 (u5_1r2,u5_2r2,u5_3r2,u5_4r2,u5_5r2,u5_6r2,u5_7r2,u5_8r2,u5_9r2,u5_10r2,u5_11r2,u5_12r2)) kr (mR rfl) .rfl .rfl ((.of [0,1,2,3,4,5,6,7,8,9,10,11,12,13,14,15,16,17,18,19,20,21,22,23,24,25,26,27,28] rfl):SelR _ _ _)
 ·
  refine zwb rfl rfl rfl rfl (zH (enc:=fun z:Int=>[.int .i64 z]) (ok:=InK .i64) (h1:=fun _=>rfl) (h2:=fun _=>rfl) (k:=2) yd inf3 rfl dd dd dd (.c (x:=1) rfl rfl (fun _ _=>by exact zga.2 om) (.c (x:=1) rfl rfl (fun _ _=>by exact zga.2 om) .n))) (fun u16_1r2 _=> ?_)
  refine zLa 0 rfl .z ?_
  exact zma (hD17 u16_1r2) kr (mR rfl) .rfl .rfl ((.of [0,1,2,3,4,5,6,7,8,9,10,11,12,13,14,15,16,17,18,19,20,21,22,23] rfl):SelR _ _ _)
 ·
  refine zmb rfl rfl rfl rfl (zo zr38 rfl) (fun u22_1r2 _=> ?_)
  exact zma (hD18 u22_1r2) kr (mR rfl) .rfl .rfl ((.of [0,1,2,3,4,5,6,7,8,9,10,11,12,13,14,15,16,17,18,19,20,21,22] rfl):SelR _ _ _)
end Go.Proofs.YtpdbimfnhglhpaaGreat.Sp
