/- Lemmas on the walk and plain lemmas that the claim of this folder uses; each states its own conditions. Lines were printed by a program of ours. -/
import Derived.Test.YtkohlohbogpooaaGreatZ6C
set_option linter.unusedVariables false
set_option linter.unusedSimpArgs false
set_option linter.unusedSectionVars false
open Go.Value renaming int → ya, pointer → yc
open Go.IntKind renaming i64 → yb
open Go.Proofs.Tryz renaming underlying56 → yd, underlying91 → ye, underlying42 → yf, underlying44 → yg, prog → yh, underlying88 → yj, underlying30 → yk, underlying23 → yl, underlying28 → yn, underlying128 → yo, results15 → yp, results38 → yq
open Go.Proofs.YtkohlohbogpooaaGreat.Big renaming digs → yi, hq → ym, hq_mul → yr, sign_zero → yt, valL → yu
namespace Go.Proofs.YtkohlohbogpooaaGreat.Sp
open Go
set_option linter.unusedVariables false
set_option maxRecDepth 100000
set_option maxHeartbeats 8000000
theorem zwg {i0:Nat} {j0:Nat} {bq:Nat} {pL:Option Addr} {nL:Nat} {cL:Nat} {LL:List (List Int)} (hnL:LL.length=nL) (hi0:i0<nL) (hj0:j0<(LL.getD i0 []).length):Con yh 104 [.int .i64 ((i0:Nat):Int),.int .i64 ((j0:Nat):Int),.pointer (some ⟨bq,0,none⟩)] [] [atF bq 0 [.slice pL nL cL],slF (rS (rI .i64)) pL cL LL] (Y:=Wd×Wd) (fun y=>True) (fun y=> .agg #[y.1.b,y.1.l,y.2.b,y.2.l]) (fun y=>[]) (fun y=>[qF true y.1 y.2 (Mx.eI LL i0 j0)]):=by
 refine zl Tryz.func104 rfl rfl rfl (fun c=> ?_)
 show RunC _ _ _ _ _ [(0,.int .i64 ((i0:Nat):Int)),(1,.int .i64 ((j0:Nat):Int)),(2,.pointer (some ⟨bq,0,none⟩))] [] [atF bq 0 [.slice pL nL cL],slF (rS (rI .i64)) pL cL LL]
 refine zY 1 rfl (fun hL1=> ?_)
 refine ze<|za<|zK rfl rfl (zw zr28 rfl) (fun b1=> ?_)
 refine zf<|zc<|ze<|za<|e_ru (zj (j:=0) 0 ty88 rfl rfl rfl rfl)<|e_mv rfl<|r_vl rfl rfl (zka (x0:=(LL.getD i0 [])) 1 i0 rfl yj sz42 rfl (by first|rfl|assumption|omega|(simp;done)) rfl rfl (gD (d:=[]) om)) ?_
 rintro ⟨b2,o3,p4,c5⟩ -
 dsimp only [aq,nq,cq]
 refine e_ru (zj (j:=0) 0 ty42 rfl rfl rfl rfl)<|e_mv rfl<|zV (x0:=((LL.getD i0 []).getD j0 0)) 1 j0 rfl yf sz3 rfl rfl rfl (by first|rfl|assumption|omega|(simp;done)) rfl rfl (gD (d:=0) om) (fun b6 o7 hok8=> ?_)
 replace hok8:=zP.1 hok8
 refine e_ru (zj (j:=0) 0 ty3 rfl rfl rfl rfl)<|zu rfl rfl (.c rfl .n) ce56 (zQa (z:=((LL.getD i0 []).getD j0 0)) (hz:=cbo)) (.n) ?_
 rintro ⟨w39,w410⟩ -
 dsimp only [aq,nq,cq]
 refine zk 0 rfl rfl rfl rfl rfl sz28 rfl (.t4 .nil) .z<|zf<|zc<|zJ ?_
 exact zy Tryz.results104 (w39,w410) trivial (zp 0 ty28 rfl rfl (.t4 .nil)) rfl (ho:=(.n:PickO _ _ _)) ((.c (j:=0) rfl .n):SelR _ _ _)
theorem zFe {K:Nat} {N:Nat} {bq:Nat} {pL:Option Addr} {nL:Nat} {cL:Nat} {LL:List (List Int)} (hK:K≤64) (hN:N≤70) (hnL:LL.length=nL) (hKL:K=nL) (hrL:∀i,i<nL→(LL.getD i []).length=N):Con yh 103 [.int .i64 ((K:Nat):Int),.int .i64 ((N:Nat):Int),.func (.func 104) #[] #[.pointer (some ⟨bq,0,none⟩)]] [] [atF bq 0 [.slice pL nL cL],slF (rS (rI .i64)) pL cL LL] (Y:=(Option Addr)×Nat×HP) (fun y=>y.2.2.length=K) (fun y=> .slice (y.1) K (y.2.1)) (fun y=>[rowA 56 rV (y.1) (y.2.1) (oh y.2.2 N),rowsM 28 rQ (y.2.2) (Mx.mk K N (fun ii jj=>Mx.eI LL ii jj))]) (fun y=>[]):=by
 refine zl Tryz.func103 rfl rfl rfl (fun c=> ?_)
 show RunC _ _ _ _ _ [(0,.int .i64 ((K:Nat):Int)),(1,.int .i64 ((N:Nat):Int)),(2,.func (.func 104) #[] #[.pointer (some ⟨bq,0,none⟩)])] [] [atF bq 0 [.slice pL nL cL],slF (rS (rI .i64)) pL cL LL]
 refine zY 1 rfl (fun hL1=> ?_)
 refine ze<|za<|e_p (zb rfl)<|zf<|zc<|ze<|za<|e_mv rfl<|zra rfl rfl (zCa (r:=rV) (k:=K) (x0:=(none,0,0)) (γ0:=()) ye inf56 rfl rfl rfl rfl om om rfl (fun g _=>by trivial) dd) (fun b1 _=> ?_)
 refine e_p (zb rfl)<|zf<|zc<|ze<|ze<|zxd (fun w mm=>mm.rmNil 28 rQ) ?_
 have e2:(List.replicate K (none,0,0):List (Option Addr×Nat×Nat))=(Mx.oz ([]:HP) N K):=by exact Mx.oz_start N K
 rw [e2]
 refine za<|e_mv rfl<|e_p (zD ye rfl)<|e_mv rfl<|zf<|zc<|zt<|zea (X:=Nat×HP) (fun x:Nat×HP=>x.1≤K∧x.2.length=x.1) (fun x=>[(14,.int .i64 ((x.1:Nat):Int)),(13,.int .i64 ((K:Nat):Int)),(7,.slice (some ⟨b1,0,none⟩) K K),(6,.slice none 0 0),(1,.int .i64 ((N:Nat):Int)),(2,.func (.func 104) #[] #[.pointer (some ⟨bq,0,none⟩)])]) (fun x=>[rowsM 28 rQ (x.2) (Mx.mk x.1 N (fun ii jj=>Mx.eI LL ii jj)),rowA 56 rV (some ⟨b1,0,none⟩) K (Mx.oz x.2 N K)]) (fun x=>[atF bq 0 [.slice pL nL cL],slF (rS (rI .i64)) pL cL LL]) (fun x:Nat×HP=>K - x.1) (0,([]:HP)) (show 0≤K∧([]:HP).length=0 from by exact ⟨Nat.zero_le _,rfl⟩) ((.e rfl (by first|rfl|(congr 1;omega)|simp_all) (.of rfl)):SubM _ _) (ho:=((.e (i:=0) rfl (by rfl) (.c (i:=0) rfl .n)):PickO _ _ _)) ((.of [0,1] rfl):SelR _ _ _) ?_
 rintro ⟨i,hs⟩ hI
 replace hI:i≤K∧hs.length=i:=hI
 try dsimp only
 obtain ⟨hi,hlen⟩:=hI
 refine ze<|za<|e_p (zT rfl rfl)<|zf<|zc<|ze<|zB rfl (fun h3=> ?_) (fun h3=> ?_)
 ·
  refine zv<|zc<|ze<|zt<|ze<|za<|e_mv rfl<|e_p (zb rfl)<|zf<|zc<|ze<|za<|e_mv rfl<|e_mv rfl<|e_mv rfl<|zra rfl rfl (zCa (r:=rE) (k:=N) (x0:=(none:Option Rat)) (γ0:=(wz,wz)) yd inf28 rfl rfl rfl rfl om om rfl (fun g _=>eF_wz g) dd) (fun b4 _=> ?_)
  refine e_p (zI (j:=i) ye sz56 rfl rfl rfl om)<|zza 2 rfl rfl rfl (zL (j:=i) (x0:=(some ⟨b4,0,none⟩,N,N)) (γ0:=()) rfl rfl (by first|omega|(rw [Mx.oz_len om];omega)|(rw [Mx.fil_len];omega)) rfl rfl sz56 (fun _ _=>by trivial)) (fun _=>(.s (.s .z))) (fun _ _=> ?_)
  refine zf<|zc<|ze ?_
  have e5:(((Mx.oz hs N K).set i (some ⟨b4,0,none⟩,N,N)):List (Option Addr×Nat×Nat))=(Mx.oz (hs++[((some ⟨b4,0,none⟩:Option Addr),N)]) N K):=by exact Mx.oz_step' hlen om
  rw [e5]
  have e6:(List.replicate N (none:Option Rat):List (Option Rat))=(Mx.fil 0 N (fun jj=>Mx.eI LL i jj)):=by exact Mx.fil_start N _
  rw [e6]
  refine za<|e_mv rfl<|e_mv rfl<|e_p (zI (j:=i) ye sz56 rfl rfl rfl om)<|r_vl rfl rfl (zE (x0:=(some ⟨b4,0,none⟩,N,N)) (v:= .slice (some ⟨b4,0,none⟩) N N) 2 i rfl ty56 rfl rfl (by exact Mx.oz_last (K:=K) om) rfl) (fun _ hok7=> ?_)
  refine e_p (zD yd rfl)<|e_mv rfl<|zf<|zc<|zt<|zea (X:=Nat) (fun x:Nat=>x≤N) (fun x=>[(27,.int .i64 ((x:Nat):Int)),(26,.int .i64 ((N:Nat):Int)),(8,.int .i64 ((i:Nat):Int)),(14,.int .i64 ((i:Nat):Int)),(13,.int .i64 ((K:Nat):Int)),(7,.slice (some ⟨b1,0,none⟩) K K),(6,.slice none 0 0),(1,.int .i64 ((N:Nat):Int)),(2,.func (.func 104) #[] #[.pointer (some ⟨bq,0,none⟩)])]) (fun x=>[rowA 28 rE (some ⟨b4,0,none⟩) N (Mx.fil x N (fun jj=>Mx.eI LL i jj)),rowsM 28 rQ hs (Mx.mk i N (fun ii jj=>Mx.eI LL ii jj)),rowA 56 rV (some ⟨b1,0,none⟩) K (Mx.oz (hs++[((some ⟨b4,0,none⟩:Option Addr),N)]) N K)]) (fun x=>[atF bq 0 [.slice pL nL cL],slF (rS (rI .i64)) pL cL LL]) (fun x:Nat=>N - x) 0 (show 0≤N from by exact Nat.zero_le _) ((.e rfl (by first|rfl|(congr 1;omega)|simp_all) (.of rfl)):SubM _ _) (ho:=((.of [0,0,0] rfl):PickO _ _ _)) ((.of [0,1] rfl):SelR _ _ _) ?_
  rintro j hJ
  replace hJ:j≤N:=hJ
  try dsimp only
  refine ze<|za<|e_p (zT rfl rfl)<|zf<|zc<|ze<|zB rfl (fun h8=> ?_) (fun h8=> ?_)
  ·
   refine zv<|zc<|ze<|zt<|ze<|za<|e_mv rfl<|e_p (zb rfl)<|zf<|zc<|zZ (OW:=[rowA 28 rE (some ⟨b4,0,none⟩) N (Mx.fil j N (fun jj=>Mx.eI LL i jj))]) (O:=[rowsM 28 rQ hs (Mx.mk i N (fun ii jj=>Mx.eI LL ii jj)),rowA 56 rV (some ⟨b1,0,none⟩) K (Mx.oz (hs++[((some ⟨b4,0,none⟩:Option Addr),N)]) N K)]) 10 mixed (.block (.then (.then (.block (.block (.then (.then (.block (.then .ret))))))))) kr ?_
   have hrw:=hrL i om
   refine e_dm 0 rfl rfl rfl<|e_dm 1 rfl rfl rfl<|e_pv 2 rfl rfl (zI (j:=i) ye sz56 rfl rfl rfl om)<|zdb 3 rfl rfl kr kr kr rfl rfl (zE (x0:=(some ⟨b4,0,none⟩,N,N)) (v:= .slice (some ⟨b4,0,none⟩) N N) 2 i rfl ty56 rfl rfl (by exact Mx.oz_last (K:=K) om) rfl) (fun _ hok9=> ?_)
   refine e_dm 4 rfl rfl rfl<|e_dm 5 rfl rfl rfl<|e_dm 6 rfl rfl rfl<|e_dm 7 rfl rfl rfl<|e_one 8 (zhe (first:=[]) (cap:=[.pointer (some ⟨bq,0,none⟩)]) rfl rfl rfl rfl rfl (.c rfl (.c rfl .n)) ce104 (zwg (i0:=i) (j0:=j) (bq:=bq) (pL:=pL) (nL:=nL) (cL:=cL) (LL:=LL) (hnL:=ass) (hi0:=cbo) (hj0:=cbo)) (.c (j:=0) rfl (.c (j:=1) rfl .n)) ?_)
   rintro ⟨w310,w411⟩ -
   dsimp only [aq,nq,cq]
   refine e_pv 9 rfl rfl (zI (j:=j) yd sz28 rfl rfl rfl om)<|e_one 10 (zob (A':=fun _=>rowA 28 rE (some ⟨b4,0,none⟩) N ((Mx.fil j N (fun jj=>Mx.eI LL i jj)).set j (some (Mx.eI LL i j)))) kr rfl rfl rfl (zL (r:=rE) (j:=j) (x0:=(some (Mx.eI LL i j))) (γ0:=(w310,w411)) rfl rfl (by first|omega|(rw [Mx.oz_len om];omega)|(rw [Mx.fil_len];omega)) rfl rfl sz28 (fun g hr=>qF_e (Holds.get 0 rfl hr))) (fun _ _=> ?_))
   refine zX kr<|zM<|zc<|za<|e_p (zH (z:=(((j+1):Nat):Int)) rfl rfl (w64 om))<|e_mv rfl<|zf<|zaa (j+1) (show (j+1)≤N from by show j+1≤N;omega) (by show N - (j+1)<N - j;omega) ((.of rfl):SubM _ _) (ho:=((.e (i:=0) rfl (by first|rfl|(rw [Mx.fil_step om])) (.of [0,0] rfl)):PickO _ _ _)) ((.of [1,2] rfl):SelR _ _ _)
  ·
   refine zda<|zi<|zi<|zr<|zM<|zc<|za<|e_p (zH (z:=(((i+1):Nat):Int)) rfl rfl (w64 om))<|e_mv rfl<|zf<|zQc (fun w mm=>mm.rowEQ (l2:=((List.range N).map (fun jj=>Mx.eI LL i jj))) 0 rfl (by rw [show j=N by omega];exact Mx.fil_end N _)) ?_
   try dsimp only [List.eraseIdx]
   refine zQc (fun w mm=>mm.rmSnoc 0 0 rfl rfl (by rw [Mx.mk_len];exact hlen)) ?_
   try dsimp only [List.eraseIdx]
   refine zaa ((i+1),(hs++[((some ⟨b4,0,none⟩:Option Addr),N)])) (show (i+1)≤K∧(hs++[((some ⟨b4,0,none⟩:Option Addr),N)]).length=(i+1) from by exact ⟨by omega,by rw [List.length_append,hlen];rfl⟩) (by show K - (i+1)<K - i;omega) ((.of rfl):SubM _ _) (ho:=((.e (i:=0) rfl (by first|rfl|(rw [Mx.mk_succ])) (.c (i:=0) rfl .n)):PickO _ _ _)) ((.of [0,1] rfl):SelR _ _ _)
 ·
  refine zda<|zi<|zi<|zr<|zc<|ze<|za<|e_mv rfl<|e_p (zb rfl)<|zf<|zc<|zJ ?_
  have e12:((Mx.oz hs N K):List (Option Addr×Nat×Nat))=(oh hs N):=by exact Mx.oz_end (hlen.trans om)
  rw [e12]
  have e13:(Mx.mk i N (fun ii jj=>Mx.eI LL ii jj))=(Mx.mk K N (fun ii jj=>Mx.eI LL ii jj)):=by rw [show i=K by omega]
  rw [e13]
  exact zy Tryz.results103 (some ⟨b1,0,none⟩,K,hs) (hlen.trans om) (zo rfl) rfl (ho:=((.of [1,0] rfl):PickO _ _ _)) (.n:SelR _ _ _)
theorem zXd {i0:Nat} {j0:Nat} {bA:Nat} {pA:Option Addr} {nA:Nat} {cA:Nat} {A:List (List Rat)} {bB:Nat} {pB:Option Addr} {nB:Nat} {cB:Nat} {B:List (List Rat)} {n9:Nat} (hn9:n9≤64) (hnA:A.length=nA) (hnB:B.length=nB) (hA0:(A.getD 0 []).length=n9) (hi0:i0<nA) (hAB:nB=nA) (hAi:(A.getD i0 []).length=n9) (hBi:j0<n9+(B.getD i0 []).length) (hj9:j0≤200):Con yh 142 [.int .i64 ((i0:Nat):Int),.int .i64 ((j0:Nat):Int),.pointer (some ⟨bA,0,none⟩),.pointer (some ⟨bB,0,none⟩)] [] [atF bA 0 [.slice pA nA cA],slF (rS rQ) pA cA A,atF bB 0 [.slice pB nB cB],slF (rS rQ) pB cB B] (Y:=Wd×Wd) (fun y=>True) (fun y=> .agg #[y.1.b,y.1.l,y.2.b,y.2.l]) (fun y=>[]) (fun y=>[qF true y.1 y.2 (Mx.eB A B n9 i0 j0)]):=by
 refine zl Tryz.func142 rfl rfl rfl (fun c=> ?_)
 show RunC _ _ _ _ _ [(0,.int .i64 ((i0:Nat):Int)),(1,.int .i64 ((j0:Nat):Int)),(2,.pointer (some ⟨bA,0,none⟩)),(3,.pointer (some ⟨bB,0,none⟩))] [] [atF bA 0 [.slice pA nA cA],slF (rS rQ) pA cA A,atF bB 0 [.slice pB nB cB],slF (rS rQ) pB cB B]
 refine zY 1 rfl (fun hL1=> ?_)
 refine zY 3 rfl (fun hL3=> ?_)
 refine ze<|za<|zK rfl rfl (zw zr28 rfl) (fun b1=> ?_)
 refine zf<|zc<|ze<|ze<|za<|e_mv rfl<|e_ru (zj (j:=0) 0 ty91 rfl rfl rfl rfl)<|r_vl rfl rfl (zka (x0:=(A.getD 0 [])) 1 0 rfl ye sz56 rfl (by first|rfl|assumption|omega|(simp;done)) rfl rfl (gD (d:=[]) om)) ?_
 rintro ⟨b2,o3,p4,c5⟩ -
 dsimp only [aq,nq,cq]
 refine e_ru (zj (j:=0) 0 ty56 rfl rfl rfl rfl)<|e_p (zD yd rfl)<|e_p (zT rfl rfl)<|zf<|zc<|zB rfl (fun hlt=> ?_) (fun hlt=> ?_)
 ·
  refine ze<|za<|e_ru (zj (j:=0) 2 ty91 rfl rfl rfl rfl)<|e_mv rfl<|r_vl rfl rfl (zka (x0:=(A.getD i0 [])) 3 i0 rfl ye sz56 rfl (by first|rfl|assumption|omega|(simp;done)) rfl rfl (gD (d:=[]) om)) ?_
  rintro ⟨b6,o7,p8,c9⟩ -
  dsimp only [aq,nq,cq]
  refine e_ru (zj (j:=0) 0 ty56 rfl rfl rfl rfl)<|e_mv rfl<|r_vl rfl rfl (zka (x0:=((A.getD i0 []).getD j0 (0:Rat))) 1 j0 rfl yd sz28 rfl (by first|rfl|assumption|omega|(simp;done)) rfl rfl (gD (d:=(0:Rat)) om)) ?_
  rintro ⟨b10,o11,w12,w13⟩ -
  dsimp only [aq,nq,cq]
  refine zFb open_rQ<|e_ru (zha (j:=0) 0 ty28 rfl rfl rfl (.t4 .nil))<|zk 0 rfl rfl rfl rfl rfl sz28 rfl (.t4 .nil) .z<|zf<|zc<|zJ<|zm ?_
  exact zy Tryz.results142 (w12,w13) trivial (zp 0 ty28 rfl rfl (.t4 .nil)) rfl (ho:=(.n:PickO _ _ _)) ((.e (j:=1) rfl (by rw [show Mx.eB A B n9 i0 j0=(A.getD i0 []).getD j0 0 from if_pos om]) .n):SelR _ _ _)
 ·
  refine zv<|zc<|ze<|zZ (OW:=[boxA b1 28 (cw [wz,wz])]) (O:=[]) 12 mixed (.then .ret) kr<|e_u 0 rfl rfl (zj (j:=0) 4 ty91 rfl rfl rfl rfl)<|e_dm 1 rfl rfl rfl<|d_vl 2 rfl rfl kr kr rfl rfl (zka (x0:=(B.getD i0 [])) 5 i0 rfl ye sz56 rfl (by first|rfl|assumption|omega|(simp;done)) rfl rfl (gD (d:=[]) om)) ?_
  rintro ⟨b14,o15,p16,c17⟩ -
  dsimp only [aq,nq,cq]
  refine e_u 3 rfl rfl (zj (j:=0) 0 ty56 rfl rfl rfl rfl)<|e_dm 4 rfl rfl rfl<|e_u 5 rfl rfl (zj (j:=0) 4 ty91 rfl rfl rfl rfl)<|d_vl 6 rfl rfl kr kr rfl rfl (zka (x0:=(A.getD 0 [])) 5 0 rfl ye sz56 rfl (by first|rfl|assumption|omega|(simp;done)) rfl rfl (gD (d:=[]) om)) ?_
  rintro ⟨b18,o19,p20,c21⟩ -
  dsimp only [aq,nq,cq]
  refine e_u 7 rfl rfl (zj (j:=0) 0 ty56 rfl rfl rfl rfl)<|e_pv 8 rfl rfl (zD yd rfl)<|e_pv 9 rfl rfl (zja (z:=(((j0 - n9):Nat):Int)) rfl rfl (w64 om))<|d_vl 10 rfl rfl kr kr rfl rfl (zka (x0:=((B.getD i0 []).getD (j0 - n9) (0:Rat))) 3 (j0 - n9) rfl yd sz28 rfl (by first|rfl|assumption|omega|(simp;done)) rfl rfl (gD (d:=(0:Rat)) om)) ?_
  rintro ⟨b22,o23,w24,w25⟩ -
  dsimp only [aq,nq,cq]
  refine zNb open_rQ<|e_u 11 rfl rfl (zha (j:=0) 0 ty28 rfl rfl rfl (.t4 .nil))<|e_one 12 (zG kr rfl rfl rfl rfl rfl sz28 rfl (.t4 .nil) ?_)
  refine zX kr<|zc<|zJ ?_
  exact zy Tryz.results142 (w24,w25) trivial (zp 0 ty28 rfl rfl (.t4 .nil)) rfl (ho:=(.n:PickO _ _ _)) ((.e (j:=1) rfl (by rw [show Mx.eB A B n9 i0 j0=(B.getD i0 []).getD (j0 - n9) 0 from if_neg om]) .n):SelR _ _ _)
theorem zGe {K:Nat} {N:Nat} {bA:Nat} {pA:Option Addr} {nA:Nat} {cA:Nat} {A:List (List Rat)} {bB:Nat} {pB:Option Addr} {nB:Nat} {cB:Nat} {B:List (List Rat)} {n9:Nat} (hK:K≤64) (hN:N≤70) (hn9:n9≤64) (hnA:A.length=nA) (hnB:B.length=nB) (hA0:(A.getD 0 []).length=n9) (hKA:K=nA) (hAB:nB=nA) (hAr:∀i,i<nA→(A.getD i []).length=n9) (hBr:∀i,i<nA→N=n9+(B.getD i []).length):Con yh 103 [.int .i64 ((K:Nat):Int),.int .i64 ((N:Nat):Int),.func (.func 142) #[] #[.pointer (some ⟨bA,0,none⟩),.pointer (some ⟨bB,0,none⟩)]] [] [atF bA 0 [.slice pA nA cA],slF (rS rQ) pA cA A,atF bB 0 [.slice pB nB cB],slF (rS rQ) pB cB B] (Y:=(Option Addr)×Nat×HP) (fun y=>y.2.2.length=K) (fun y=> .slice (y.1) K (y.2.1)) (fun y=>[rowA 56 rV (y.1) (y.2.1) (oh y.2.2 N),rowsM 28 rQ (y.2.2) (Mx.mk K N (fun ii jj=>Mx.eB A B n9 ii jj))]) (fun y=>[]):=by
 refine zl Tryz.func103 rfl rfl rfl (fun c=> ?_)
 show RunC _ _ _ _ _ [(0,.int .i64 ((K:Nat):Int)),(1,.int .i64 ((N:Nat):Int)),(2,.func (.func 142) #[] #[.pointer (some ⟨bA,0,none⟩),.pointer (some ⟨bB,0,none⟩)])] [] [atF bA 0 [.slice pA nA cA],slF (rS rQ) pA cA A,atF bB 0 [.slice pB nB cB],slF (rS rQ) pB cB B]
 refine zY 1 rfl (fun hL1=> ?_)
 refine zY 3 rfl (fun hL3=> ?_)
 refine ze<|za<|e_p (zb rfl)<|zf<|zc<|ze<|za<|e_mv rfl<|zra rfl rfl (zCa (r:=rV) (k:=K) (x0:=(none,0,0)) (γ0:=()) ye inf56 rfl rfl rfl rfl om om rfl (fun g _=>by trivial) dd) (fun b1 _=> ?_)
 refine e_p (zb rfl)<|zf<|zc<|ze<|ze<|zxd (fun w mm=>mm.rmNil 28 rQ) ?_
 have e2:(List.replicate K (none,0,0):List (Option Addr×Nat×Nat))=(Mx.oz ([]:HP) N K):=by exact Mx.oz_start N K
 rw [e2]
 refine za<|e_mv rfl<|e_p (zD ye rfl)<|e_mv rfl<|zf<|zc<|zt<|zea (X:=Nat×HP) (fun x:Nat×HP=>x.1≤K∧x.2.length=x.1) (fun x=>[(14,.int .i64 ((x.1:Nat):Int)),(13,.int .i64 ((K:Nat):Int)),(7,.slice (some ⟨b1,0,none⟩) K K),(6,.slice none 0 0),(1,.int .i64 ((N:Nat):Int)),(2,.func (.func 142) #[] #[.pointer (some ⟨bA,0,none⟩),.pointer (some ⟨bB,0,none⟩)])]) (fun x=>[rowsM 28 rQ (x.2) (Mx.mk x.1 N (fun ii jj=>Mx.eB A B n9 ii jj)),rowA 56 rV (some ⟨b1,0,none⟩) K (Mx.oz x.2 N K)]) (fun x=>[atF bA 0 [.slice pA nA cA],slF (rS rQ) pA cA A,atF bB 0 [.slice pB nB cB],slF (rS rQ) pB cB B]) (fun x:Nat×HP=>K - x.1) (0,([]:HP)) (show 0≤K∧([]:HP).length=0 from by exact ⟨Nat.zero_le _,rfl⟩) ((.e rfl (by first|rfl|(congr 1;omega)|simp_all) (.of rfl)):SubM _ _) (ho:=((.e (i:=0) rfl (by rfl) (.c (i:=0) rfl .n)):PickO _ _ _)) ((.of [0,1,2,3] rfl):SelR _ _ _) ?_
 rintro ⟨i,hs⟩ hI
 replace hI:i≤K∧hs.length=i:=hI
 try dsimp only
 obtain ⟨hi,hlen⟩:=hI
 refine ze<|za<|e_p (zT rfl rfl)<|zf<|zc<|ze<|zB rfl (fun h3=> ?_) (fun h3=> ?_)
 ·
  refine zv<|zc<|ze<|zt<|ze<|za<|e_mv rfl<|e_p (zb rfl)<|zf<|zc<|ze<|za<|e_mv rfl<|e_mv rfl<|e_mv rfl<|zra rfl rfl (zCa (r:=rE) (k:=N) (x0:=(none:Option Rat)) (γ0:=(wz,wz)) yd inf28 rfl rfl rfl rfl om om rfl (fun g _=>eF_wz g) dd) (fun b4 _=> ?_)
  refine e_p (zI (j:=i) ye sz56 rfl rfl rfl om)<|zza 2 rfl rfl rfl (zL (j:=i) (x0:=(some ⟨b4,0,none⟩,N,N)) (γ0:=()) rfl rfl (by first|omega|(rw [Mx.oz_len om];omega)|(rw [Mx.fil_len];omega)) rfl rfl sz56 (fun _ _=>by trivial)) (fun _=>(.s (.s .z))) (fun _ _=> ?_)
  refine zf<|zc<|ze ?_
  have e5:(((Mx.oz hs N K).set i (some ⟨b4,0,none⟩,N,N)):List (Option Addr×Nat×Nat))=(Mx.oz (hs++[((some ⟨b4,0,none⟩:Option Addr),N)]) N K):=by exact Mx.oz_step' hlen om
  rw [e5]
  have e6:(List.replicate N (none:Option Rat):List (Option Rat))=(Mx.fil 0 N (fun jj=>Mx.eB A B n9 i jj)):=by exact Mx.fil_start N _
  rw [e6]
  refine za<|e_mv rfl<|e_mv rfl<|e_p (zI (j:=i) ye sz56 rfl rfl rfl om)<|r_vl rfl rfl (zE (x0:=(some ⟨b4,0,none⟩,N,N)) (v:= .slice (some ⟨b4,0,none⟩) N N) 2 i rfl ty56 rfl rfl (by exact Mx.oz_last (K:=K) om) rfl) (fun _ hok7=> ?_)
  refine e_p (zD yd rfl)<|e_mv rfl<|zf<|zc<|zt<|zea (X:=Nat) (fun x:Nat=>x≤N) (fun x=>[(27,.int .i64 ((x:Nat):Int)),(26,.int .i64 ((N:Nat):Int)),(8,.int .i64 ((i:Nat):Int)),(14,.int .i64 ((i:Nat):Int)),(13,.int .i64 ((K:Nat):Int)),(7,.slice (some ⟨b1,0,none⟩) K K),(6,.slice none 0 0),(1,.int .i64 ((N:Nat):Int)),(2,.func (.func 142) #[] #[.pointer (some ⟨bA,0,none⟩),.pointer (some ⟨bB,0,none⟩)])]) (fun x=>[rowA 28 rE (some ⟨b4,0,none⟩) N (Mx.fil x N (fun jj=>Mx.eB A B n9 i jj)),rowsM 28 rQ hs (Mx.mk i N (fun ii jj=>Mx.eB A B n9 ii jj)),rowA 56 rV (some ⟨b1,0,none⟩) K (Mx.oz (hs++[((some ⟨b4,0,none⟩:Option Addr),N)]) N K)]) (fun x=>[atF bA 0 [.slice pA nA cA],slF (rS rQ) pA cA A,atF bB 0 [.slice pB nB cB],slF (rS rQ) pB cB B]) (fun x:Nat=>N - x) 0 (show 0≤N from by exact Nat.zero_le _) ((.e rfl (by first|rfl|(congr 1;omega)|simp_all) (.of rfl)):SubM _ _) (ho:=((.of [0,0,0] rfl):PickO _ _ _)) ((.of [0,1,2,3] rfl):SelR _ _ _) ?_
  rintro j hJ
  replace hJ:j≤N:=hJ
  try dsimp only
  refine ze<|za<|e_p (zT rfl rfl)<|zf<|zc<|ze<|zB rfl (fun h8=> ?_) (fun h8=> ?_)
  ·
   refine zv<|zc<|ze<|zt<|ze<|za<|e_mv rfl<|e_p (zb rfl)<|zf<|zc<|zZ (OW:=[rowA 28 rE (some ⟨b4,0,none⟩) N (Mx.fil j N (fun jj=>Mx.eB A B n9 i jj))]) (O:=[rowsM 28 rQ hs (Mx.mk i N (fun ii jj=>Mx.eB A B n9 ii jj)),rowA 56 rV (some ⟨b1,0,none⟩) K (Mx.oz (hs++[((some ⟨b4,0,none⟩:Option Addr),N)]) N K)]) 10 mixed (.block (.then (.then (.block (.block (.then (.then (.block (.then .ret))))))))) kr ?_
   have hrw:=hAr i om
   have hrw2:=hBr i om
   refine e_dm 0 rfl rfl rfl<|e_dm 1 rfl rfl rfl<|e_pv 2 rfl rfl (zI (j:=i) ye sz56 rfl rfl rfl om)<|zdb 3 rfl rfl kr kr kr rfl rfl (zE (x0:=(some ⟨b4,0,none⟩,N,N)) (v:= .slice (some ⟨b4,0,none⟩) N N) 2 i rfl ty56 rfl rfl (by exact Mx.oz_last (K:=K) om) rfl) (fun _ hok9=> ?_)
   refine e_dm 4 rfl rfl rfl<|e_dm 5 rfl rfl rfl<|e_dm 6 rfl rfl rfl<|e_dm 7 rfl rfl rfl<|e_one 8 (zhe (first:=[]) (cap:=[.pointer (some ⟨bA,0,none⟩),.pointer (some ⟨bB,0,none⟩)]) rfl rfl rfl rfl rfl (.c rfl (.c rfl .n)) ce142 (zXd (i0:=i) (j0:=j) (bA:=bA) (pA:=pA) (nA:=nA) (cA:=cA) (A:=A) (bB:=bB) (pB:=pB) (nB:=nB) (cB:=cB) (B:=B) (n9:=n9) (hn9:=ass) (hnA:=ass) (hnB:=ass) (hA0:=ass) (hi0:=cbo) (hAB:=ass) (hAi:=cbo) (hBi:=cbo) (hj9:=cbo)) (.c (j:=0) rfl (.c (j:=1) rfl (.c (j:=2) rfl (.c (j:=3) rfl .n)))) ?_)
   rintro ⟨w310,w411⟩ -
   dsimp only [aq,nq,cq]
   refine e_pv 9 rfl rfl (zI (j:=j) yd sz28 rfl rfl rfl om)<|e_one 10 (zob (A':=fun _=>rowA 28 rE (some ⟨b4,0,none⟩) N ((Mx.fil j N (fun jj=>Mx.eB A B n9 i jj)).set j (some (Mx.eB A B n9 i j)))) kr rfl rfl rfl (zL (r:=rE) (j:=j) (x0:=(some (Mx.eB A B n9 i j))) (γ0:=(w310,w411)) rfl rfl (by first|omega|(rw [Mx.oz_len om];omega)|(rw [Mx.fil_len];omega)) rfl rfl sz28 (fun g hr=>qF_e (Holds.get 0 rfl hr))) (fun _ _=> ?_))
   refine zX kr<|zM<|zc<|za<|e_p (zH (z:=(((j+1):Nat):Int)) rfl rfl (w64 om))<|e_mv rfl<|zf<|zaa (j+1) (show (j+1)≤N from by show j+1≤N;omega) (by show N - (j+1)<N - j;omega) ((.of rfl):SubM _ _) (ho:=((.e (i:=0) rfl (by first|rfl|(rw [Mx.fil_step om])) (.of [0,0] rfl)):PickO _ _ _)) ((.of [1,2,3,4] rfl):SelR _ _ _)
  ·
   refine zda<|zi<|zi<|zr<|zM<|zc<|za<|e_p (zH (z:=(((i+1):Nat):Int)) rfl rfl (w64 om))<|e_mv rfl<|zf<|zQc (fun w mm=>mm.rowEQ (l2:=((List.range N).map (fun jj=>Mx.eB A B n9 i jj))) 0 rfl (by rw [show j=N by omega];exact Mx.fil_end N _)) ?_
   try dsimp only [List.eraseIdx]
   refine zQc (fun w mm=>mm.rmSnoc 0 0 rfl rfl (by rw [Mx.mk_len];exact hlen)) ?_
   try dsimp only [List.eraseIdx]
   refine zaa ((i+1),(hs++[((some ⟨b4,0,none⟩:Option Addr),N)])) (show (i+1)≤K∧(hs++[((some ⟨b4,0,none⟩:Option Addr),N)]).length=(i+1) from by exact ⟨by omega,by rw [List.length_append,hlen];rfl⟩) (by show K - (i+1)<K - i;omega) ((.of rfl):SubM _ _) (ho:=((.e (i:=0) rfl (by first|rfl|(rw [Mx.mk_succ])) (.c (i:=0) rfl .n)):PickO _ _ _)) ((.of [0,1,2,3] rfl):SelR _ _ _)
 ·
  refine zda<|zi<|zi<|zr<|zc<|ze<|za<|e_mv rfl<|e_p (zb rfl)<|zf<|zc<|zJ ?_
  have e12:((Mx.oz hs N K):List (Option Addr×Nat×Nat))=(oh hs N):=by exact Mx.oz_end (hlen.trans om)
  rw [e12]
  have e13:(Mx.mk i N (fun ii jj=>Mx.eB A B n9 ii jj))=(Mx.mk K N (fun ii jj=>Mx.eB A B n9 ii jj)):=by rw [show i=K by omega]
  rw [e13]
  exact zy Tryz.results103 (some ⟨b1,0,none⟩,K,hs) (hlen.trans om) (zo rfl) rfl (ho:=((.of [1,0] rfl):PickO _ _ _)) (.n:SelR _ _ _)
theorem zYd {i0:Nat} {j0:Nat} {bL:Nat} {pV:Option Addr} {nV:Nat} {cV:Nat} {lV:List Rat} (hnq:lV.length=nV) (hi0:i0<nV):Con yh 143 [.int .i64 ((i0:Nat):Int),.int .i64 ((j0:Nat):Int),.pointer (some ⟨bL,0,none⟩)] [] [atF bL 0 [.slice pV nV cV],slF rQ pV cV lV] (Y:=Wd×Wd) (fun y=>True) (fun y=> .agg #[y.1.b,y.1.l,y.2.b,y.2.l]) (fun y=>[]) (fun y=>[qF true y.1 y.2 (Mx.eC lV i0 j0)]):=by
 refine zl Tryz.func143 rfl rfl rfl (fun c=> ?_)
 show RunC _ _ _ _ _ [(0,.int .i64 ((i0:Nat):Int)),(1,.int .i64 ((j0:Nat):Int)),(2,.pointer (some ⟨bL,0,none⟩))] [] [atF bL 0 [.slice pV nV cV],slF rQ pV cV lV]
 refine zY 1 rfl (fun hL1=> ?_)
 refine ze<|za<|zK rfl rfl (zw zr28 rfl) (fun b1=> ?_)
 refine zf<|zc<|ze<|za<|e_ru (zj (j:=0) 0 ty56 rfl rfl rfl rfl)<|e_mv rfl<|r_vl rfl rfl (zka (x0:=(lV.getD i0 (0:Rat))) 1 i0 rfl yd sz28 rfl (by first|rfl|assumption|omega|(simp;done)) rfl rfl (gD (d:=(0:Rat)) om)) ?_
 rintro ⟨b2,o3,w4,w5⟩ -
 dsimp only [aq,nq,cq]
 refine zFb open_rQ<|e_ru (zha (j:=0) 0 ty28 rfl rfl rfl (.t4 .nil))<|zk 0 rfl rfl rfl rfl rfl sz28 rfl (.t4 .nil) .z<|zf<|zc<|zJ ?_
 exact zy Tryz.results143 (w4,w5) trivial (zp 0 ty28 rfl rfl (.t4 .nil)) rfl (ho:=(.n:PickO _ _ _)) ((.c (j:=1) rfl .n):SelR _ _ _)
theorem zHe {K:Nat} {N:Nat} {bL:Nat} {pV:Option Addr} {nV:Nat} {cV:Nat} {lV:List Rat} (hK:K≤64) (hN:N≤70) (hnq:lV.length=nV) (hKq:K=nV):Con yh 103 [.int .i64 ((K:Nat):Int),.int .i64 ((N:Nat):Int),.func (.func 143) #[] #[.pointer (some ⟨bL,0,none⟩)]] [] [atF bL 0 [.slice pV nV cV],slF rQ pV cV lV] (Y:=(Option Addr)×Nat×HP) (fun y=>y.2.2.length=K) (fun y=> .slice (y.1) K (y.2.1)) (fun y=>[rowA 56 rV (y.1) (y.2.1) (oh y.2.2 N),rowsM 28 rQ (y.2.2) (Mx.mk K N (fun ii jj=>Mx.eC lV ii jj))]) (fun y=>[]):=by
 refine zl Tryz.func103 rfl rfl rfl (fun c=> ?_)
 show RunC _ _ _ _ _ [(0,.int .i64 ((K:Nat):Int)),(1,.int .i64 ((N:Nat):Int)),(2,.func (.func 143) #[] #[.pointer (some ⟨bL,0,none⟩)])] [] [atF bL 0 [.slice pV nV cV],slF rQ pV cV lV]
 refine zY 1 rfl (fun hL1=> ?_)
 refine ze<|za<|e_p (zb rfl)<|zf<|zc<|ze<|za<|e_mv rfl<|zra rfl rfl (zCa (r:=rV) (k:=K) (x0:=(none,0,0)) (γ0:=()) ye inf56 rfl rfl rfl rfl om om rfl (fun g _=>by trivial) dd) (fun b1 _=> ?_)
 refine e_p (zb rfl)<|zf<|zc<|ze<|ze<|zxd (fun w mm=>mm.rmNil 28 rQ) ?_
 have e2:(List.replicate K (none,0,0):List (Option Addr×Nat×Nat))=(Mx.oz ([]:HP) N K):=by exact Mx.oz_start N K
 rw [e2]
 refine za<|e_mv rfl<|e_p (zD ye rfl)<|e_mv rfl<|zf<|zc<|zt<|zea (X:=Nat×HP) (fun x:Nat×HP=>x.1≤K∧x.2.length=x.1) (fun x=>[(14,.int .i64 ((x.1:Nat):Int)),(13,.int .i64 ((K:Nat):Int)),(7,.slice (some ⟨b1,0,none⟩) K K),(6,.slice none 0 0),(1,.int .i64 ((N:Nat):Int)),(2,.func (.func 143) #[] #[.pointer (some ⟨bL,0,none⟩)])]) (fun x=>[rowsM 28 rQ (x.2) (Mx.mk x.1 N (fun ii jj=>Mx.eC lV ii jj)),rowA 56 rV (some ⟨b1,0,none⟩) K (Mx.oz x.2 N K)]) (fun x=>[atF bL 0 [.slice pV nV cV],slF rQ pV cV lV]) (fun x:Nat×HP=>K - x.1) (0,([]:HP)) (show 0≤K∧([]:HP).length=0 from by exact ⟨Nat.zero_le _,rfl⟩) ((.e rfl (by first|rfl|(congr 1;omega)|simp_all) (.of rfl)):SubM _ _) (ho:=((.e (i:=0) rfl (by rfl) (.c (i:=0) rfl .n)):PickO _ _ _)) ((.of [0,1] rfl):SelR _ _ _) ?_
 rintro ⟨i,hs⟩ hI
 replace hI:i≤K∧hs.length=i:=hI
 try dsimp only
 obtain ⟨hi,hlen⟩:=hI
 refine ze<|za<|e_p (zT rfl rfl)<|zf<|zc<|ze<|zB rfl (fun h3=> ?_) (fun h3=> ?_)
 ·
  refine zv<|zc<|ze<|zt<|ze<|za<|e_mv rfl<|e_p (zb rfl)<|zf<|zc<|ze<|za<|e_mv rfl<|e_mv rfl<|e_mv rfl<|zra rfl rfl (zCa (r:=rE) (k:=N) (x0:=(none:Option Rat)) (γ0:=(wz,wz)) yd inf28 rfl rfl rfl rfl om om rfl (fun g _=>eF_wz g) dd) (fun b4 _=> ?_)
  refine e_p (zI (j:=i) ye sz56 rfl rfl rfl om)<|zza 2 rfl rfl rfl (zL (j:=i) (x0:=(some ⟨b4,0,none⟩,N,N)) (γ0:=()) rfl rfl (by first|omega|(rw [Mx.oz_len om];omega)|(rw [Mx.fil_len];omega)) rfl rfl sz56 (fun _ _=>by trivial)) (fun _=>(.s (.s .z))) (fun _ _=> ?_)
  refine zf<|zc<|ze ?_
  have e5:(((Mx.oz hs N K).set i (some ⟨b4,0,none⟩,N,N)):List (Option Addr×Nat×Nat))=(Mx.oz (hs++[((some ⟨b4,0,none⟩:Option Addr),N)]) N K):=by exact Mx.oz_step' hlen om
  rw [e5]
  have e6:(List.replicate N (none:Option Rat):List (Option Rat))=(Mx.fil 0 N (fun jj=>Mx.eC lV i jj)):=by exact Mx.fil_start N _
  rw [e6]
  refine za<|e_mv rfl<|e_mv rfl<|e_p (zI (j:=i) ye sz56 rfl rfl rfl om)<|r_vl rfl rfl (zE (x0:=(some ⟨b4,0,none⟩,N,N)) (v:= .slice (some ⟨b4,0,none⟩) N N) 2 i rfl ty56 rfl rfl (by exact Mx.oz_last (K:=K) om) rfl) (fun _ hok7=> ?_)
  refine e_p (zD yd rfl)<|e_mv rfl<|zf<|zc<|zt<|zea (X:=Nat) (fun x:Nat=>x≤N) (fun x=>[(27,.int .i64 ((x:Nat):Int)),(26,.int .i64 ((N:Nat):Int)),(8,.int .i64 ((i:Nat):Int)),(14,.int .i64 ((i:Nat):Int)),(13,.int .i64 ((K:Nat):Int)),(7,.slice (some ⟨b1,0,none⟩) K K),(6,.slice none 0 0),(1,.int .i64 ((N:Nat):Int)),(2,.func (.func 143) #[] #[.pointer (some ⟨bL,0,none⟩)])]) (fun x=>[rowA 28 rE (some ⟨b4,0,none⟩) N (Mx.fil x N (fun jj=>Mx.eC lV i jj)),rowsM 28 rQ hs (Mx.mk i N (fun ii jj=>Mx.eC lV ii jj)),rowA 56 rV (some ⟨b1,0,none⟩) K (Mx.oz (hs++[((some ⟨b4,0,none⟩:Option Addr),N)]) N K)]) (fun x=>[atF bL 0 [.slice pV nV cV],slF rQ pV cV lV]) (fun x:Nat=>N - x) 0 (show 0≤N from by exact Nat.zero_le _) ((.e rfl (by first|rfl|(congr 1;omega)|simp_all) (.of rfl)):SubM _ _) (ho:=((.of [0,0,0] rfl):PickO _ _ _)) ((.of [0,1] rfl):SelR _ _ _) ?_
  rintro j hJ
  replace hJ:j≤N:=hJ
  try dsimp only
  refine ze<|za<|e_p (zT rfl rfl)<|zf<|zc<|ze<|zB rfl (fun h8=> ?_) (fun h8=> ?_)
  ·
   refine zv<|zc<|ze<|zt<|ze<|za<|e_mv rfl<|e_p (zb rfl)<|zf<|zc<|zZ (OW:=[rowA 28 rE (some ⟨b4,0,none⟩) N (Mx.fil j N (fun jj=>Mx.eC lV i jj))]) (O:=[rowsM 28 rQ hs (Mx.mk i N (fun ii jj=>Mx.eC lV ii jj)),rowA 56 rV (some ⟨b1,0,none⟩) K (Mx.oz (hs++[((some ⟨b4,0,none⟩:Option Addr),N)]) N K)]) 10 mixed (.block (.then (.then (.block (.block (.then (.then (.block (.then .ret))))))))) kr<|e_dm 0 rfl rfl rfl<|e_dm 1 rfl rfl rfl<|e_pv 2 rfl rfl (zI (j:=i) ye sz56 rfl rfl rfl om)<|zdb 3 rfl rfl kr kr kr rfl rfl (zE (x0:=(some ⟨b4,0,none⟩,N,N)) (v:= .slice (some ⟨b4,0,none⟩) N N) 2 i rfl ty56 rfl rfl (by exact Mx.oz_last (K:=K) om) rfl) (fun _ hok9=> ?_)
   refine e_dm 4 rfl rfl rfl<|e_dm 5 rfl rfl rfl<|e_dm 6 rfl rfl rfl<|e_dm 7 rfl rfl rfl<|e_one 8 (zhe (first:=[]) (cap:=[.pointer (some ⟨bL,0,none⟩)]) rfl rfl rfl rfl rfl (.c rfl (.c rfl .n)) ce143 (zYd (i0:=i) (j0:=j) (bL:=bL) (pV:=pV) (nV:=nV) (cV:=cV) (lV:=lV) (hnq:=ass) (hi0:=cbo)) (.c (j:=0) rfl (.c (j:=1) rfl .n)) ?_)
   rintro ⟨w310,w411⟩ -
   dsimp only [aq,nq,cq]
   refine e_pv 9 rfl rfl (zI (j:=j) yd sz28 rfl rfl rfl om)<|e_one 10 (zob (A':=fun _=>rowA 28 rE (some ⟨b4,0,none⟩) N ((Mx.fil j N (fun jj=>Mx.eC lV i jj)).set j (some (Mx.eC lV i j)))) kr rfl rfl rfl (zL (r:=rE) (j:=j) (x0:=(some (Mx.eC lV i j))) (γ0:=(w310,w411)) rfl rfl (by first|omega|(rw [Mx.oz_len om];omega)|(rw [Mx.fil_len];omega)) rfl rfl sz28 (fun g hr=>qF_e (Holds.get 0 rfl hr))) (fun _ _=> ?_))
   refine zX kr<|zM<|zc<|za<|e_p (zH (z:=(((j+1):Nat):Int)) rfl rfl (w64 om))<|e_mv rfl<|zf<|zaa (j+1) (show (j+1)≤N from by show j+1≤N;omega) (by show N - (j+1)<N - j;omega) ((.of rfl):SubM _ _) (ho:=((.e (i:=0) rfl (by first|rfl|(rw [Mx.fil_step om])) (.of [0,0] rfl)):PickO _ _ _)) ((.of [1,2] rfl):SelR _ _ _)
  ·
   refine zda<|zi<|zi<|zr<|zM<|zc<|za<|e_p (zH (z:=(((i+1):Nat):Int)) rfl rfl (w64 om))<|e_mv rfl<|zf<|zQc (fun w mm=>mm.rowEQ (l2:=((List.range N).map (fun jj=>Mx.eC lV i jj))) 0 rfl (by rw [show j=N by omega];exact Mx.fil_end N _)) ?_
   try dsimp only [List.eraseIdx]
   refine zQc (fun w mm=>mm.rmSnoc 0 0 rfl rfl (by rw [Mx.mk_len];exact hlen)) ?_
   try dsimp only [List.eraseIdx]
   refine zaa ((i+1),(hs++[((some ⟨b4,0,none⟩:Option Addr),N)])) (show (i+1)≤K∧(hs++[((some ⟨b4,0,none⟩:Option Addr),N)]).length=(i+1) from by exact ⟨by omega,by rw [List.length_append,hlen];rfl⟩) (by show K - (i+1)<K - i;omega) ((.of rfl):SubM _ _) (ho:=((.e (i:=0) rfl (by first|rfl|(rw [Mx.mk_succ])) (.c (i:=0) rfl .n)):PickO _ _ _)) ((.of [0,1] rfl):SelR _ _ _)
 ·
  refine zda<|zi<|zi<|zr<|zc<|ze<|za<|e_mv rfl<|e_p (zb rfl)<|zf<|zc<|zJ ?_
  have e12:((Mx.oz hs N K):List (Option Addr×Nat×Nat))=(oh hs N):=by exact Mx.oz_end (hlen.trans om)
  rw [e12]
  have e13:(Mx.mk i N (fun ii jj=>Mx.eC lV ii jj))=(Mx.mk K N (fun ii jj=>Mx.eC lV ii jj)):=by rw [show i=K by omega]
  rw [e13]
  exact zy Tryz.results103 (some ⟨b1,0,none⟩,K,hs) (hlen.trans om) (zo rfl) rfl (ho:=((.of [1,0] rfl):PickO _ _ _)) (.n:SelR _ _ _)
theorem zZd {u1:Wd} {v1:Wd} {q1:Rat}:Con yh 79 [.agg #[u1.b,u1.l,v1.b,v1.l]] [] [qF true u1 v1 (q1)] (Y:=Unit) (fun y=>True) (fun y=> .bool true) (fun y=>[]) (fun y=>[]):=by
  exact zlf (fun x hx hk h1 h2=>by have h:= @zic x.1.1 u1.p _ u1.c x.1.2 x.2.1 v1.p _ v1.c x.2.2 rfl rfl h1 h2;rw [decide_eq_true (hk rfl)] at h;exact h)
theorem zIe {u1:Wd} {v1:Wd} {q1:Rat}:Con yh 164 [.agg #[u1.b,u1.l,v1.b,v1.l]] [] [qF true u1 v1 q1] (Y:=Unit) (fun y=>True) (fun y=> .bool false) (fun y=>[]) (fun y=>[]):=by
 refine zl Tryz.func164 rfl rfl rfl (fun c=> ?_)
 show RunC _ _ _ _ _ [(0,.agg #[u1.b,u1.l,v1.b,v1.l])] [] [qF true u1 v1 q1]
 refine ze<|za<|zK rfl rfl (zU rfl rfl) (fun b1=> ?_)
 refine e_p (zb rfl)<|zf<|zc<|ze<|za<|e_ru (zd 0 ty28 rfl rfl (.t4 .nil))<|zQ rfl rfl (.c rfl .n) ce79 (zZd (u1:=u1) (v1:=v1) (q1:=q1)) (.c (j:=0) rfl .n)<|e_p (zAb rfl)<|e_p (zb rfl)<|zf<|zc<|zJ ?_
 exact zy Tryz.results164 () trivial (zo rfl) rfl (ho:=(.n:PickO _ _ _)) (.n:SelR _ _ _)
theorem zyf {p:Option Addr} {n:Nat} {cap:Nat} {l:List Rat} (hn:l.length=n):Con yh 173 [.slice p n cap,.func (.func 164) #[] #[]] [] [slF rQ p cap l] (Y:=Unit) (fun y=>True) (fun y=> .int .i64 (-1)) (fun y=>[]) (fun y=>[]):=by
 refine zl Tryz.func173 rfl rfl rfl (fun c=> ?_)
 show RunC _ _ _ _ _ [(0,.slice p n cap),(1,.func (.func 164) #[] #[])] [] [slF rQ p cap l]
 refine zY 0 rfl (fun hL0=> ?_)
 refine ze<|za<|e_p (zb rfl)<|zf<|zc<|ze<|ze<|za<|e_mv rfl<|e_p (zD yd rfl)<|e_mv rfl<|zf<|zc<|zt<|zea (X:=Nat) (fun x:Nat=>x≤n) (fun x=>[(8,.int .i64 ((x:Nat):Int)),(7,.int .i64 ((n:Nat):Int)),(0,.slice p n cap),(1,.func (.func 164) #[] #[])]) (fun x=>[]) (fun x=>[slF rQ p cap l]) (fun x:Nat=>n - x) 0 (show 0≤n from by exact Nat.zero_le _) ((.e rfl (by first|rfl|(congr 1;omega)|simp_all) (.of rfl)):SubM _ _) (ho:=(.n:PickO _ _ _)) ((.c (j:=0) rfl .n):SelR _ _ _) ?_
 rintro i hI
 replace hI:i≤n:=hI
 try dsimp only
 refine ze<|za<|e_p (zT rfl rfl)<|zf<|zc<|ze<|zB rfl (fun h1=> ?_) (fun h1=> ?_)
 ·
  refine zv<|zc<|ze<|zt<|ze<|za<|e_mv rfl<|e_p (zb rfl)<|zf<|zc<|ze<|za<|e_mv rfl<|e_mv rfl<|e_mv rfl<|r_vl rfl rfl (zka (x0:=(l.getD i (0:Rat))) 0 i rfl yd sz28 rfl cbo rfl rfl (gD (d:=(0:Rat)) om)) ?_
  rintro ⟨b2,o3,w4,w5⟩ -
  dsimp only [aq,nq,cq]
  refine zFb open_rQ<|e_ru (zha (j:=0) 0 ty28 rfl rfl rfl (.t4 .nil))<|zCc (first:=[]) (cap:=[]) rfl rfl rfl (.c rfl .n) ce164 (zIe (u1:=w4) (v1:=w5) (q1:=(l.getD i (0:Rat)))) (.c (j:=1) rfl .n) ?_
  rintro ⟨⟩ -
  dsimp only [aq,nq,cq]
  refine zf<|zc<|zua rfl rfl<|zv<|zM<|zc<|za<|e_p (zH (z:=(((i+1):Nat):Int)) rfl rfl (w64 om))<|e_mv rfl<|zf<|zaa (i+1) (show (i+1)≤n from by show i+1≤n;omega) (by show n - (i+1)<n - i;omega) ((.of rfl):SubM _ _) (ho:=(.n:PickO _ _ _)) ((.c (j:=2) rfl .n):SelR _ _ _)
 ·
  refine zda<|zi<|zi<|zr<|zc<|ze<|za<|e_p (zb rfl)<|zf<|zc<|zJ ?_
  exact zy Tryz.results173 () trivial (zo rfl) rfl (ho:=(.n:PickO _ _ _)) (.n:SelR _ _ _)
theorem zzf {p:Option Addr} {n:Nat} {cap:Nat} {l:List Rat} (hn:l.length=n):Con yh 163 [.slice p n cap,.func (.func 164) #[] #[]] [] [slF rQ p cap l] (Y:=Unit) (fun y=>True) (fun y=> .bool false) (fun y=>[]) (fun y=>[]):=by
 refine zl Tryz.func163 rfl rfl rfl (fun c=> ?_)
 show RunC _ _ _ _ _ [(0,.slice p n cap),(1,.func (.func 164) #[] #[])] [] [slF rQ p cap l]
 refine zY 0 rfl (fun hL0=> ?_)
 refine ze<|za<|e_p (zb rfl)<|zf<|zc<|ze<|za<|e_mv rfl<|e_mv rfl<|zQ rfl rfl (.c rfl (.c rfl .n)) ce173 (zyf (p:=p) (n:=n) (cap:=cap) (l:=l) (hn:=ass)) (.c (j:=0) rfl .n)<|e_p (zIa rfl rfl)<|e_p (zb rfl)<|zf<|zc<|zJ ?_
 exact zy Tryz.results163 () trivial (zo rfl) (congrArg Value.bool (decide_eq_false (show ¬(0:Int)≤ -1 by decide)).symm) (ho:=(.n:PickO _ _ _)) (.n:SelR _ _ _)
theorem zOb {p:Option Addr} {n:Nat} {cap:Nat} {l:List Rat} (hn:l.length=n):Con yh 141 [.slice p n cap] [] [slF rQ p cap l] (Y:=Unit) (fun y=>True) (fun y=> .bool true) (fun y=>[]) (fun y=>[]):=by
 refine zl Tryz.func141 rfl rfl rfl (fun c=> ?_)
 show RunC _ _ _ _ _ [(0,.slice p n cap)] [] [slF rQ p cap l]
 refine zY 0 rfl (fun hL0=> ?_)
 refine ze<|za<|e_p (zb rfl)<|zf<|zc<|ze<|za<|e_mv rfl<|zQ rfl rfl (.c rfl (.c rfl .n)) ce163 (zzf (p:=p) (n:=n) (cap:=cap) (l:=l) (hn:=ass)) (.c (j:=0) rfl .n)<|e_p (zAb rfl)<|e_p (zb rfl)<|zf<|zc<|zJ ?_
 exact zy Tryz.results141 () trivial (zo rfl) rfl (ho:=(.n:PickO _ _ _)) (.n:SelR _ _ _)
theorem zae {p:Option Addr} {n:Nat} {cap:Nat} {l:List Rat} {bM:Nat} {pM:Option Addr} {nM:Nat} {cM:Nat} {M:List (List Rat)} (hn:l.length=n) (hnM:M.length=nM) (hM1:1≤nM) (heq:n=(M.getD 0 []).length):Con yh 162 [.slice p n cap,.pointer (some ⟨bM,0,none⟩)] [] [slF rQ p cap l,atF bM 0 [.slice pM nM cM],slF (rS rQ) pM cM M] (Y:=Unit) (fun y=>True) (fun y=> .bool false) (fun y=>[]) (fun y=>[]):=by
 refine zl Tryz.func162 rfl rfl rfl (fun c=> ?_)
 show RunC _ _ _ _ _ [(0,.slice p n cap),(1,.pointer (some ⟨bM,0,none⟩))] [] [slF rQ p cap l,atF bM 0 [.slice pM nM cM],slF (rS rQ) pM cM M]
 refine zY 0 rfl (fun hL0=> ?_)
 refine zY 2 rfl (fun hL2=> ?_)
 refine ze<|za<|e_p (zb rfl)<|zf<|zc<|ze<|za<|e_mv rfl<|e_p (zD yd rfl)<|e_ru (zj (j:=0) 1 ty91 rfl rfl rfl rfl)<|r_vl rfl rfl (zka (x0:=(M.getD 0 [])) 2 0 rfl ye sz56 rfl cbo rfl rfl (gD (d:=[]) om)) ?_
 rintro ⟨b1,o2,p3,c4⟩ -
 dsimp only [aq,nq,cq]
 refine e_ru (zj (j:=0) 0 ty56 rfl rfl rfl rfl)<|e_p (zD yd rfl)<|e_p (zAa rfl rfl) ?_
 rw [show (decide (((n:Nat):Int)≠(((M.getD 0 []).length:Nat):Int)))=false from by exact decide_eq_false om]
 refine e_mv rfl<|e_mv rfl<|zQ rfl rfl (.c rfl .n) ce141 (zOb (p:=p) (n:=n) (cap:=cap) (l:=l) (hn:=ass)) (.c (j:=2) rfl .n)<|e_p (zAb rfl)<|e_p (zn rfl rfl)<|e_p (zb rfl)<|zf<|zc<|zJ ?_
 exact zy Tryz.results162 () trivial (zo rfl) rfl (ho:=(.n:PickO _ _ _)) (.n:SelR _ _ _)
theorem zAf {bM:Nat} {pM:Option Addr} {nM:Nat} {cM:Nat} {M:List (List Rat)} (hnM:M.length=nM) (hM1:1≤nM) (hU:∀i,i<nM→(M.getD i []).length=(M.getD 0 []).length):Con yh 172 [.slice pM nM cM,.func (.func 162) #[] #[.pointer (some ⟨bM,0,none⟩)]] [] [atF bM 0 [.slice pM nM cM],slF (rS rQ) pM cM M] (Y:=Unit) (fun y=>True) (fun y=> .int .i64 (-1)) (fun y=>[]) (fun y=>[]):=by
 refine zl Tryz.func172 rfl rfl rfl (fun c=> ?_)
 show RunC _ _ _ _ _ [(0,.slice pM nM cM),(1,.func (.func 162) #[] #[.pointer (some ⟨bM,0,none⟩)])] [] [atF bM 0 [.slice pM nM cM],slF (rS rQ) pM cM M]
 refine zY 1 rfl (fun hL1=> ?_)
 refine ze<|za<|e_p (zb rfl)<|zf<|zc<|ze<|ze<|za<|e_mv rfl<|e_p (zD ye rfl)<|e_mv rfl<|zf<|zc<|zt<|zea (X:=Nat) (fun x:Nat=>x≤nM) (fun x=>[(8,.int .i64 ((x:Nat):Int)),(7,.int .i64 ((nM:Nat):Int)),(0,.slice pM nM cM),(1,.func (.func 162) #[] #[.pointer (some ⟨bM,0,none⟩)])]) (fun x=>[]) (fun x=>[atF bM 0 [.slice pM nM cM],slF (rS rQ) pM cM M]) (fun x:Nat=>nM - x) 0 (show 0≤nM from by exact Nat.zero_le _) ((.e rfl (by first|rfl|(congr 1;omega)|simp_all) (.of rfl)):SubM _ _) (ho:=(.n:PickO _ _ _)) ((.of [0,1] rfl):SelR _ _ _) ?_
 rintro i hI
 replace hI:i≤nM:=hI
 try dsimp only
 refine ze<|za<|e_p (zT rfl rfl)<|zf<|zc<|ze<|zB rfl (fun h1=> ?_) (fun h1=> ?_)
 ·
  refine zv<|zc<|ze<|zt<|ze<|za<|e_mv rfl<|e_p (zb rfl)<|zf<|zc<|ze<|za<|e_mv rfl<|e_mv rfl<|e_mv rfl<|r_vl rfl rfl (zka (x0:=(M.getD i [])) 1 i rfl ye sz56 rfl cbo rfl rfl (gD (d:=[]) om)) ?_
  rintro ⟨b2,o3,p4,c5⟩ -
  dsimp only [aq,nq,cq]
  refine e_ru (zj (j:=0) 0 ty56 rfl rfl rfl rfl)<|zCc (first:=[]) (cap:=[.pointer (some ⟨bM,0,none⟩)]) rfl rfl rfl (.c rfl .n) ce162 (zae (p:=p4) (n:=(M.getD i []).length) (cap:=c5) (l:=(M.getD i [])) (bM:=bM) (pM:=pM) (nM:=nM) (cM:=cM) (M:=M) (hn:=by first|rfl|assumption|omega|exact hU _ om) (hnM:=ass) (hM1:=ass) (heq:=by first|rfl|assumption|omega|exact hU _ om)) (.c (j:=1) rfl (.c (j:=2) rfl (.c (j:=3) rfl .n))) ?_
  rintro ⟨⟩ -
  dsimp only [aq,nq,cq]
  refine zf<|zc<|zua rfl rfl<|zv<|zM<|zc<|za<|e_p (zH (z:=(((i+1):Nat):Int)) rfl rfl (w64 om))<|e_mv rfl<|zf<|zaa (i+1) (show (i+1)≤nM from by show i+1≤nM;omega) (by show nM - (i+1)<nM - i;omega) ((.of rfl):SubM _ _) (ho:=(.n:PickO _ _ _)) ((.of [2,3] rfl):SelR _ _ _)
 ·
  refine zda<|zi<|zi<|zr<|zc<|ze<|za<|e_p (zb rfl)<|zf<|zc<|zJ ?_
  exact zy Tryz.results172 () trivial (zo rfl) rfl (ho:=(.n:PickO _ _ _)) (.n:SelR _ _ _)
theorem zBf {bM:Nat} {pM:Option Addr} {nM:Nat} {cM:Nat} {M:List (List Rat)} (hnM:M.length=nM) (hM1:1≤nM) (hU:∀i,i<nM→(M.getD i []).length=(M.getD 0 []).length):Con yh 161 [.slice pM nM cM,.func (.func 162) #[] #[.pointer (some ⟨bM,0,none⟩)]] [] [atF bM 0 [.slice pM nM cM],slF (rS rQ) pM cM M] (Y:=Unit) (fun y=>True) (fun y=> .bool false) (fun y=>[]) (fun y=>[]):=by
 refine zl Tryz.func161 rfl rfl rfl (fun c=> ?_)
 show RunC _ _ _ _ _ [(0,.slice pM nM cM),(1,.func (.func 162) #[] #[.pointer (some ⟨bM,0,none⟩)])] [] [atF bM 0 [.slice pM nM cM],slF (rS rQ) pM cM M]
 refine zY 1 rfl (fun hL1=> ?_)
 refine ze<|za<|e_p (zb rfl)<|zf<|zc<|ze<|za<|e_mv rfl<|e_mv rfl<|zQ rfl rfl (.c rfl (.c rfl .n)) ce172 (zAf (bM:=bM) (pM:=pM) (nM:=nM) (cM:=cM) (M:=M) (hnM:=ass) (hM1:=ass) (hU:=ass)) (.c (j:=0) rfl (.c (j:=1) rfl .n))<|e_p (zIa rfl rfl)<|e_p (zb rfl)<|zf<|zc<|zJ ?_
 exact zy Tryz.results161 () trivial (zo rfl) (congrArg Value.bool (decide_eq_false (show ¬(0:Int)≤ -1 by decide)).symm) (ho:=(.n:PickO _ _ _)) (.n:SelR _ _ _)
theorem zJe {pM:Option Addr} {nM:Nat} {cM:Nat} {M:List (List Rat)} (hnM:M.length=nM) (hM1:1≤nM) (hU:∀i,i<nM→(M.getD i []).length=(M.getD 0 []).length) (hK:nM≤64) (hN:1≤(M.getD 0 []).length∧(M.getD 0 []).length≤64):Con yh 140 [.slice pM nM cM] [] [slF (rS rQ) pM cM M] (Y:=Unit) (fun y=>True) (fun y=> .int .i64 0) (fun y=>[]) (fun y=>[]):=by
 refine zl Tryz.func140 rfl rfl rfl (fun c=> ?_)
 show RunC _ _ _ _ _ [(0,.slice pM nM cM)] [] [slF (rS rQ) pM cM M]
 refine zY 0 rfl (fun hL0=> ?_)
 refine ze<|za<|zK rfl rfl (zU rfl rfl) (fun b1=> ?_)
 refine e_p (zb rfl)<|zf<|zc<|ze<|ze<|za<|e_ru (zg 0 ty91 rfl rfl rfl)<|e_p (zD ye rfl)<|e_p (zT rfl rfl) ?_
 rw [show (decide (((nM:Nat):Int)<1))=false from by exact decide_eq_false om]
 refine e_mv rfl<|e_ru (zg 0 ty91 rfl rfl rfl)<|e_p (zD ye rfl)<|e_p (zna rfl rfl) ?_
 rw [show (decide (64<((nM:Nat):Int)))=false from by exact decide_eq_false om]
 refine e_p (zn rfl rfl)<|e_mv rfl<|e_ru (zg 0 ty91 rfl rfl rfl)<|r_vl rfl rfl (zka (x0:=(M.getD 0 [])) 0 0 rfl ye sz56 rfl cbo rfl rfl (gD (d:=[]) om)) ?_
 rintro ⟨b2,o3,p4,c5⟩ -
 dsimp only [aq,nq,cq]
 refine e_ru (zj (j:=0) 0 ty56 rfl rfl rfl rfl)<|e_p (zD yd rfl)<|e_p (zT rfl rfl) ?_
 rw [show (decide ((((M.getD 0 []).length:Nat):Int)<1))=false from by exact decide_eq_false om]
 refine e_p (zn rfl rfl)<|e_mv rfl<|e_ru (zg 0 ty91 rfl rfl rfl)<|r_vl rfl rfl (zka (x0:=(M.getD 0 [])) 2 0 rfl ye sz56 rfl cbo rfl rfl (gD (d:=[]) om)) ?_
 rintro ⟨b6,o7,p8,c9⟩ -
 dsimp only [aq,nq,cq]
 refine e_ru (zj (j:=0) 0 ty56 rfl rfl rfl rfl)<|e_p (zD yd rfl)<|e_p (zna rfl rfl) ?_
 rw [show (decide (64<(((M.getD 0 []).length:Nat):Int)))=false from by exact decide_eq_false om]
 refine e_p (zn rfl rfl)<|zf<|zc<|zua rfl rfl<|zv<|zc<|ze<|ze<|zgb 0 rfl .z<|za<|e_ru (zj (j:=0) 0 ty91 rfl rfl rfl rfl)<|e_p (zHa .n (.c rfl .n))<|zQ rfl rfl (.c rfl (.c rfl .n)) ce161 (zBf (bM:=b1) (pM:=pM) (nM:=nM) (cM:=cM) (M:=M) (hnM:=ass) (hM1:=ass) (hU:=ass)) (.c (j:=0) rfl (.c (j:=5) rfl .n))<|zf<|zc<|zua rfl rfl<|zv<|zc<|ze<|za<|e_p (zb rfl)<|zf<|zc<|zJ ?_
 exact zy Tryz.results140 () trivial (zo rfl) rfl (ho:=(.n:PickO _ _ _)) (.n:SelR _ _ _)
theorem zrc {u1:Wd} {v1:Wd} {q1:Rat} {u2:Wd} {v2:Wd} {q2:Rat} (hl:ym q1+ym q2+1≤1099511627776) (h0:q2≠0):Con yh 144 [.agg #[u1.b,u1.l,v1.b,v1.l],.agg #[u2.b,u2.l,v2.b,v2.l]] [] [qF true u1 v1 q1,qF true u2 v2 q2] (Y:=Wd×Wd) (fun y=>True) (fun y=> .agg #[y.1.b,y.1.l,y.2.b,y.2.l]) (fun y=>[]) (fun y=>[qF true y.1 y.2 (q1 / q2)]):=by
 refine zl Tryz.func144 rfl rfl rfl (fun c=> ?_)
 show RunC _ _ _ _ _ [(0,.agg #[u1.b,u1.l,v1.b,v1.l]),(1,.agg #[u2.b,u2.l,v2.b,v2.l])] [] [qF true u1 v1 q1,qF true u2 v2 q2]
 refine ze<|za<|zK rfl rfl (zU rfl rfl) (fun b1=> ?_)
 refine zK rfl rfl (zU rfl rfl) (fun b2=> ?_)
 refine zK rfl rfl (zw zr28 rfl) (fun b3=> ?_)
 refine zf<|zc<|ze<|za<|e_ru (zd 2 ty28 rfl rfl (.t4 .nil))<|e_ru (zd 1 ty28 rfl rfl (.t4 .nil))<|zu rfl rfl (.c rfl (.c rfl .n)) ce165 (znd (k1:=true) (u1:=u1) (v1:=v1) (q1:=q1) (k2:=true) (u2:=u2) (v2:=v2) (q2:=q2) (hl:=ass) (hy:=ass)) (.c (j:=0) rfl (.c (j:=1) rfl .n)) ?_
 rintro ⟨w34,w45⟩ -
 dsimp only [aq,nq,cq]
 refine e_mv rfl<|e_p (zq rfl rfl)<|e_p (zq rfl rfl)<|zK rfl rfl (zw zr28 rfl) (fun b6=> ?_)
 refine zk 0 rfl rfl rfl rfl rfl sz28 rfl (.t4 .nil) .z<|e_p (zb rfl)<|zf<|zc<|ze<|za<|e_ru (zd 0 ty28 rfl rfl (.t4 .nil))<|zk 1 rfl rfl rfl rfl rfl sz28 rfl (.t4 .nil) (.s .z)<|zf<|zc<|zJ ?_
 exact zy Tryz.results144 (w34,w45) trivial (zp 1 ty28 rfl rfl (.t4 .nil)) rfl (ho:=(.n:PickO _ _ _)) ((.c (j:=0) rfl .n):SelR _ _ _)
end Go.Proofs.YtkohlohbogpooaaGreat.Sp
namespace Go.Proofs.YtkohlohbogpooaaGreat.Sp
open Go
set_option linter.unusedVariables false
set_option maxRecDepth 100000
set_option maxHeartbeats 8000000
theorem zLd {hs:HP} {M:List (List Rat)} {K:Nat} {N:Nat} {ii:Nat} {rr:Nat} {u1:Wd} {v1:Wd} {xk:Rat} {j0:Nat} (hSm:Mx.Sm hs M K N) (hii:ii<K) (hrr:rr<K) (hne:rr≠ii) (hj0:j0≤N) (hN:N≤70) (hx:ym xk≤200000) (hb:Mx.bd M 200000):Con yh 145 [.slice (rp hs ii) N (rc hs ii),.slice (rp hs rr) N (rc hs rr),.agg #[u1.b,u1.l,v1.b,v1.l],.int .i64 ((j0:Nat):Int)] [rowsM 28 rQ hs M] [qF true u1 v1 xk] (Y:=Unit) (fun y=>True) (fun y=> .tuple #[]) (fun y=>[rowsM 28 rQ hs (M.set ii (Mx.sb (M.getD ii []) (M.getD rr []) xk j0 N))]) (fun y=>[]):=by
 refine zl Tryz.func145 rfl rfl rfl (fun c=> ?_)
 show RunC _ _ _ _ _ [(0,.slice (rp hs ii) N (rc hs ii)),(1,.slice (rp hs rr) N (rc hs rr)),(2,.agg #[u1.b,u1.l,v1.b,v1.l]),(3,.int .i64 ((j0:Nat):Int))] [rowsM 28 rQ hs M] [qF true u1 v1 xk]
 have hil:=hSm.mk' hii
 have hirow:=hSm.row hii
 refine ze<|za<|zK rfl rfl (zU rfl rfl) (fun b1=> ?_)
 refine zf<|zc<|ze<|za<|e_mv rfl<|e_p (zb rfl)<|zf<|zc<|zt<|zea (X:=Nat) (fun x:Nat=>j0≤x∧x≤N) (fun x=>[(8,.int .i64 ((x:Nat):Int)),(6,.pointer (some ⟨b1,0,none⟩)),(0,.slice (rp hs ii) N (rc hs ii)),(1,.slice (rp hs rr) N (rc hs rr))]) (fun x=>[boxA b1 28 (cw [u1,v1]),rowsM 28 rQ hs (M.set ii (Mx.sb (M.getD ii []) (M.getD rr []) xk j0 x))]) (fun x=>[qF true u1 v1 xk]) (fun x:Nat=>N - x) j0 (show j0≤j0∧j0≤N from by exact ⟨Nat.le_refl _,hj0⟩) ((.of rfl):SubM _ _) (ho:=((.c (i:=0) rfl (.e (i:=0) rfl (by first|rfl|(rw [Mx.sub_start hil])) .n)):PickO _ _ _)) ((.c (j:=0) rfl .n):SelR _ _ _) ?_
 rintro t hI
 replace hI:j0≤t∧t≤N:=hI
 try dsimp only [cw]
 obtain ⟨ht0,htN⟩:=hI
 have hSmt:Mx.Sm hs (M.set ii (Mx.sb (M.getD ii []) (M.getD rr []) xk j0 t)) K N:=hSm.setSb hii
 refine ze<|ze<|za<|e_mv rfl<|e_mv rfl<|e_p (zD yd rfl)<|e_p (zT rfl rfl)<|zf<|zc<|zB rfl (fun h2=> ?_) (fun h2=> ?_)
 ·
  have hba:=hb ii t
  have hbb:=hb rr t
  refine zv<|zc<|ze<|zt<|ze<|za<|e_mv rfl<|e_mv rfl<|e_ru (zla 1 rr t rfl (hSmt.hk om) (hSmt.mk' om) (hSmt.row om) yd sz28 rfl rfl rfl om)<|r_vl rfl rfl (zUa (x0:=(Mx.e (M.set ii (Mx.sb (M.getD ii []) (M.getD rr []) xk j0 t)) rr t)) 1 rr t rfl (hSmt.hk om) (hSmt.mk' om) ty28 rfl rfl (gD (d:=(0:Rat)) (by rw [hSmt.row om];omega))) ?_
  rintro ⟨w3,w4⟩ -
  dsimp only [aq,nq,cq]
  refine zFb open1_rQ ?_
  have e5:Mx.e (M.set ii (Mx.sb (M.getD ii []) (M.getD rr []) xk j0 t)) rr t=Mx.e M rr t:=by exact Mx.e_set_ne hil hne
  rw [e5]
  refine zQ rfl rfl (.c rfl .n) ce110 (zcc (k1:=true) (u1:=w3) (v1:=w4) (q1:=(Mx.e M rr t))) (.c (j:=0) rfl .n)<|e_p (zAa rfl rfl)<|zf<|zc<|zB rfl (fun hz=> ?_) (fun hz=> ?_)
  ·
   refine zma (.c (i:=1) rfl (.c (i:=0) rfl .n))<|zZ (OW:=[rowsM 28 rQ hs (M.set ii (Mx.sb (M.getD ii []) (M.getD rr []) xk j0 t))]) (O:=[boxA b1 28 (cw [u1,v1])]) 14 mixed (.block (.then (.then (.block .ret)))) kr<|e_dm 0 rfl rfl rfl<|e_dm 1 rfl rfl rfl<|e_dm 2 rfl rfl rfl<|e_dm 3 rfl rfl rfl<|e_uw 4 rfl rfl (zla 0 ii t rfl (hSmt.hk om) (hSmt.mk' om) (hSmt.row om) yd sz28 rfl rfl rfl om)<|zdb 5 rfl rfl kr kr kr rfl rfl (zUa (x0:=(Mx.e (M.set ii (Mx.sb (M.getD ii []) (M.getD rr []) xk j0 t)) ii t)) 0 ii t rfl (hSmt.hk om) (hSmt.mk' om) ty28 rfl rfl (gD (d:=(0:Rat)) (by rw [hSmt.row om];omega))) ?_
   rintro ⟨w6,w7⟩ -
   dsimp only [aq,nq,cq]
   refine zNb open1_rQ ?_
   have e8:Mx.e (M.set ii (Mx.sb (M.getD ii []) (M.getD rr []) xk j0 t)) ii t=Mx.e M ii t:=by exact Mx.e_sb_this hil om (Nat.le_refl _)
   rw [e8]
   refine e_uw 6 rfl rfl (zd 1 ty28 rfl rfl (.t4 .nil))<|e_dm 7 rfl rfl rfl<|e_dm 8 rfl rfl rfl<|e_uw 9 rfl rfl (zla 0 rr t rfl (hSmt.hk om) (hSmt.mk' om) (hSmt.row om) yd sz28 rfl rfl rfl om)<|zdb 10 rfl rfl kr kr kr rfl rfl (zUa (x0:=(Mx.e (M.set ii (Mx.sb (M.getD ii []) (M.getD rr []) xk j0 t)) rr t)) 0 rr t rfl (hSmt.hk om) (hSmt.mk' om) ty28 rfl rfl (gD (d:=(0:Rat)) (by rw [hSmt.row om];omega))) ?_
   rintro ⟨w9,w10⟩ -
   dsimp only [aq,nq,cq]
   refine zNb open1_rQ ?_
   have e11:Mx.e (M.set ii (Mx.sb (M.getD ii []) (M.getD rr []) xk j0 t)) rr t=Mx.e M rr t:=by exact Mx.e_set_ne hil hne
   rw [e11]
   have hmm:=yr xk (Mx.e M rr t)
   refine e_one 11 (zC rfl rfl rfl rfl (.c rfl (.c rfl .n)) ce60 (zwb (k1:=true) (u1:=u1) (v1:=v1) (q1:=xk) (k2:=true) (u2:=w9) (v2:=w10) (q2:=(Mx.e M rr t)) (hl:=cbo)) (.c (j:=3) rfl (.c (j:=0) rfl .n)) ?_)
   rintro ⟨w312,w413⟩ -
   dsimp only [aq,nq,cq]
   refine e_one 12 (zC rfl rfl rfl rfl (.c rfl (.c rfl .n)) ce78 (zse (k1:=true) (u1:=w6) (v1:=w7) (q1:=(Mx.e M ii t)) (k2:=true) (u2:=w312) (v2:=w413) (q2:=xk*(Mx.e M rr t)) (hl:=cbo)) (.c (j:=2) rfl (.c (j:=0) rfl .n)) ?_)
   rintro ⟨w314,w415⟩ -
   dsimp only [aq,nq,cq]
   refine e_uw 13 rfl rfl (zla 0 ii t rfl (hSmt.hk om) (hSmt.mk' om) (hSmt.row om) yd sz28 rfl rfl rfl om)<|e_one 14 (zob (A':=fun _=>rowsM 28 rQ hs ((M.set ii (Mx.sb (M.getD ii []) (M.getD rr []) xk j0 t)).set ii (((M.set ii (Mx.sb (M.getD ii []) (M.getD rr []) xk j0 t)).getD ii []).set t ((Mx.e M ii t) - (xk*(Mx.e M rr t)))))) kr rfl rfl rfl (zab (r:=rQ) (k:=ii) (j:=t) (x0:=((Mx.e M ii t) - (xk*(Mx.e M rr t)))) (γ0:=(w314,w415)) (hSmt.hk om) (hSmt.mk' om) rfl rfl (by rw [hSmt.row om];omega) rfl rfl sz28 (fun g hr=>Holds.get 0 rfl hr)) (fun _ _=> ?_))
   refine zX kr<|zM<|zc<|za<|e_mv rfl<|e_p (zH (z:=(((t+1):Nat):Int)) rfl rfl (w64 om))<|e_p (zb rfl)<|zf<|zaa (t+1) (show j0≤(t+1)∧(t+1)≤N from by exact ⟨by omega,by omega⟩) (by show N - (t+1)<N - t;omega) ((.of rfl):SubM _ _) (ho:=((.c (i:=1) rfl (.e (i:=0) rfl (by first|rfl|(rw [Mx.sub_step hil om om])) .n)):PickO _ _ _)) ((.c (j:=5) rfl .n):SelR _ _ _)
  ·
   have hz0:Mx.e M rr t=0:=Rat.num_eq_zero.1 (yt.1 (Decidable.not_not.1 hz))
   refine zv<|zM<|zc<|za<|e_mv rfl<|e_p (zH (z:=(((t+1):Nat):Int)) rfl rfl (w64 om))<|e_p (zb rfl)<|zf<|zaa (t+1) (show j0≤(t+1)∧(t+1)≤N from by exact ⟨by omega,by omega⟩) (by show N - (t+1)<N - t;omega) ((.of rfl):SubM _ _) (ho:=((.c (i:=0) rfl (.e (i:=0) rfl (by first|rfl|(rw [Mx.sub_zero om om hz0])) .n)):PickO _ _ _)) ((.c (j:=1) rfl .n):SelR _ _ _)
 ·
  refine zda<|zi<|zi<|zr<|p_end ?_
  have e16:(M.set ii (Mx.sb (M.getD ii []) (M.getD rr []) xk j0 t))=(M.set ii (Mx.sb (M.getD ii []) (M.getD rr []) xk j0 N)):=by rw [show t=N by omega]
  rw [e16]
  exact p_ret0 Tryz.results145 () trivial rfl (ho:=((.c (i:=1) rfl .n):PickO _ _ _)) (.n:SelR _ _ _)
end Go.Proofs.YtkohlohbogpooaaGreat.Sp
namespace Go.Proofs.YtkohlohbogpooaaGreat.Sp
open Go
theorem Mem.rowSome {c:Cx} {O:List As} {R:List Fa} {α:Type} {T:TypeId} {r:Rp α} {p:Option Addr} {cap:Nat} {l:List α} {w:World} (i:Nat) (hi:O[i]? =some (rowA T r p cap l)) (hl:l≠[]) (mm:Mem c w O R):∃y:Nat×Nat,p=some ⟨y.1,y.2,none⟩∧Mem c w O R:=by
  obtain ⟨hh,g,m0⟩:=mm.perm (zfa hi)
  obtain ⟨h1,h2,a,eh,s,y⟩:=m0.sep
  rcases s with ⟨e1,e2,e3,e4⟩|⟨b,off,cells,e1,e2,e3,e4,e5,e6⟩
  · exact absurd (by assumption) hl
  · exact ⟨(b,off),by assumption,mm⟩
section
variable {P : Program} {Q : Exit → Act → World → Prop} {c : Cx} {n : Sz} {ops : Array Oper} {m : Fm} {OW O : List As} {R : List Fa} {k wi : Nat} {L : Array Bool}
end
end Go.Proofs.YtkohlohbogpooaaGreat.Sp
namespace Go.Proofs.YtkohlohbogpooaaGreat.Sp
open Go
set_option linter.unusedVariables false
set_option maxRecDepth 100000
set_option maxHeartbeats 8000000
theorem zKe {pA:Option Addr} {cA:Nat} {hs:HP} {M:List (List Rat)} {K:Nat} {N:Nat} {nj:Nat} {b:Nat} (hSm:Mx.Sm hs M K N) (hK:K≤64) (hN:N≤70) (hnN:nj≤N) (hb0:Mx.bd M b) (hH:Mx.H b nj≤200000):Con yh 109 [.slice pA K cA,.int .i64 ((nj:Nat):Int)] [rowA 56 rV pA cA (oh hs N),rowsM 28 rQ hs M] [] (Y:=HP×(List (List Rat))×(List Nat)×(Option Addr)×Nat) (fun y=>Mx.Sm y.1 y.2.1 K N∧Mx.Rd N K M y.2.1 nj y.2.2.1∧Mx.bd y.2.1 (Mx.H b nj)) (fun y=> .slice (y.2.2.2.1) (y.2.2.1.length) (y.2.2.2.2)) (fun y=>[rowA 56 rV pA cA (oh y.1 N),rowsM 28 rQ (y.1) (y.2.1),rowA 3 (rI .i64) (y.2.2.2.1) (y.2.2.2.2) (Mx.ints y.2.2.1)]) (fun y=>[]):=by
 refine zl Tryz.func109 rfl rfl rfl (fun c=> ?_)
 show RunC _ _ _ _ _ [(0,.slice pA K cA),(1,.int .i64 ((nj:Nat):Int))] [rowA 56 rV pA cA (oh hs N),rowsM 28 rQ hs M] []
 refine zuc 3 (rI .i64)<|ze<|za<|e_p (zb rfl)<|zf<|zc<|ze<|za<|e_p (zb rfl)<|zf<|zc<|ze<|ze<|za<|e_mv rfl<|e_mv rfl<|zf<|zc<|zt<|zea (X:=Nat×HP×(List (List Rat))×(List Nat)×(Option Addr)×Nat) (fun x:Nat×HP×(List (List Rat))×(List Nat)×(Option Addr)×Nat=>x.1≤nj∧Mx.Sm x.2.1 x.2.2.1 K N∧Mx.Rd N K M x.2.2.1 x.1 x.2.2.2.1∧Mx.bd x.2.2.1 (Mx.H b x.1)) (fun x=>[(5,.slice (x.2.2.2.2.1) (x.2.2.2.1.length) (x.2.2.2.2.2)),(13,.int .i64 ((x.1:Nat):Int)),(12,.int .i64 ((nj:Nat):Int)),(4,.slice none 0 0),(0,.slice pA K cA)]) (fun x=>[rowA 3 (rI .i64) (x.2.2.2.2.1) (x.2.2.2.2.2) (Mx.ints x.2.2.2.1),rowA 56 rV pA cA (oh x.2.1 N),rowsM 28 rQ (x.2.1) (x.2.2.1)]) (fun x=>[]) (fun x:Nat×HP×(List (List Rat))×(List Nat)×(Option Addr)×Nat=>nj - x.1) (0,hs,M,([]:List Nat),none,0) (show 0≤nj∧Mx.Sm hs M K N∧Mx.Rd N K M M 0 ([]:List Nat)∧Mx.bd M (Mx.H b 0) from by exact ⟨Nat.zero_le _,hSm,Mx.Rd.start hSm.l hSm.r,hb0⟩) ((.e rfl (by first|rfl|(congr 1;omega)|simp_all) (.e rfl (by first|rfl|(congr 1;omega)|simp_all) (.of rfl))):SubM _ _) (ho:=((.e (i:=0) rfl (by first|rfl|(congr 1;omega)|simp_all) (.of [0,0] rfl)):PickO _ _ _)) (.n:SelR _ _ _) ?_
 rintro ⟨j,hs1,M1,ps,pP,cP⟩ hI
 replace hI:j≤nj∧Mx.Sm hs1 M1 K N∧Mx.Rd N K M M1 j ps∧Mx.bd M1 (Mx.H b j):=hI
 try dsimp only
 obtain ⟨hj,hSm1,hRd,hbd⟩:=hI
 have hpj:=hRd.plj
 have hpk:=hRd.plk
 have hil:=Mx.ints_len ps
 refine ze<|za<|e_p (zT rfl rfl)<|zf<|zc<|ze<|zB rfl (fun h1=> ?_) (fun h1=> ?_)
 ·
  have hH6:6*Mx.H b j+4≤200000:=Nat.le_trans (Mx.H_mono b (show j+1≤nj by omega)) hH
  refine zv<|zc<|ze<|zt<|ze<|za<|e_mv rfl<|e_p (zb rfl)<|zf<|zc<|ze<|za<|e_mv rfl<|e_p (zD yf rfl)<|e_p (zb rfl)<|zf<|zc<|ze<|za<|e_mv rfl<|e_p (zb rfl)<|zf<|zc<|ze<|zt<|zea (X:=Nat) (fun x:Nat=>ps.length≤x∧x≤K∧∀i,ps.length≤i→i<x→Mx.e M1 i j=0) (fun x=>[(8,.int .i64 ((x:Nat):Int)),(7,.int .i64 ((ps.length:Nat):Int)),(6,.int .i64 ((j:Nat):Int)),(5,.slice pP (ps.length) cP),(13,.int .i64 ((j:Nat):Int)),(12,.int .i64 ((nj:Nat):Int)),(4,.slice none 0 0),(0,.slice pA K cA)]) (fun x=>[rowA 3 (rI .i64) pP cP (Mx.ints ps),rowA 56 rV pA cA (oh hs1 N),rowsM 28 rQ hs1 M1]) (fun x=>[]) (fun x:Nat=>K - x) ps.length (show ps.length≤ps.length∧ps.length≤K∧∀i,ps.length≤i→i<ps.length→Mx.e M1 i j=0 from by exact ⟨Nat.le_refl _,hpk,fun i h1 h2=>by omega⟩) ((.of rfl):SubM _ _) (ho:=((.of [0,0,0] rfl):PickO _ _ _)) (.n:SelR _ _ _) ?_
  rintro k hK2
  replace hK2:ps.length≤k∧k≤K∧∀i,ps.length≤i→i<k→Mx.e M1 i j=0:=hK2
  try dsimp only
  obtain ⟨hk1,hk2,hk0⟩:=hK2
  refine ze<|zGa (X:=Unit) (fun x=>True) (fun x=>[(33,.bool (decide ((((k:Nat):Int)<((K:Nat):Int))∧(Big.sgq (Mx.e M1 k j)=0)))),(8,.int .i64 ((k:Nat):Int)),(7,.int .i64 ((ps.length:Nat):Int)),(6,.int .i64 ((j:Nat):Int)),(5,.slice pP (ps.length) cP),(13,.int .i64 ((j:Nat):Int)),(12,.int .i64 ((nj:Nat):Int)),(4,.slice none 0 0),(0,.slice pA K cA)]) (fun x=>[rowA 3 (rI .i64) pP cP (Mx.ints ps),rowA 56 rV pA cA (oh hs1 N),rowsM 28 rQ hs1 M1]) (fun x=>[]) ?_ ?_
  ·
   refine za<|e_mv rfl<|e_mv rfl<|e_p (zD ye rfl)<|e_p (zT rfl rfl)<|zW rfl rfl (zba rfl) (fun h2=> ?_) (fun h2=> ?_)
   ·
    refine e_mv rfl<|e_mv rfl<|e_ru (zca 1 k rfl ye sz56 rfl (by first|rfl|assumption|omega|exact Mx.ints_len _|(rw [oh_len];first|exact hSm1.h|exact hSm2.h)) rfl rfl om)<|r_vl rfl rfl (zE (x0:=((rp hs1 k),N,(rc hs1 k))) (v:= .slice (rp hs1 k) N (rc hs1 k)) 1 k rfl ty56 rfl rfl (oh_get (hSm1.hk om)) rfl) (fun _ hok3=> ?_)
    refine e_mv rfl<|e_ru (zla 2 k j rfl (hSm1.hk om) (hSm1.mk' om) (hSm1.row om) yd sz28 rfl rfl rfl om)<|r_vl rfl rfl (zUa (x0:=(Mx.e M1 k j)) 2 k j rfl (hSm1.hk om) (hSm1.mk' om) ty28 rfl rfl (gD (d:=(0:Rat)) (by rw [hSm1.row om];omega))) ?_
    rintro ⟨w4,w5⟩ -
    dsimp only [aq,nq,cq]
    refine zFb open1_rQ<|zQ rfl rfl (.c rfl .n) ce110 (zcc (k1:=true) (u1:=w4) (v1:=w5) (q1:=(Mx.e M1 k j))) (.c (j:=0) rfl .n)<|e_p (zta rfl rfl)<|e_p (zn rfl rfl)<|zf ?_
    exact zia () (show True from by first|trivial|omega|simp_all) ((.e rfl (congrArg Value.bool cbu) (.of rfl)):SubM _ _) (ho:=((.of [0,0,0] rfl):PickO _ _ _)) (.n:SelR _ _ _)
   ·
    refine e_no<|e_no<|e_no<|e_no<|e_no<|e_no<|e_no<|e_no<|e_no<|e_p (zn rfl rfl)<|zf ?_
    exact zia () (show True from by first|trivial|omega|simp_all) ((.e rfl (congrArg Value.bool cbu) (.of rfl)):SubM _ _) (ho:=((.of [0,0,0] rfl):PickO _ _ _)) (.n:SelR _ _ _)
  ·
   rintro ⟨⟩ -
   try dsimp only
   refine zB rfl (fun h33=> ?_) (fun h33=> ?_)
   ·
    refine zv<|zc<|zt<|za<|e_mv rfl<|e_p (zH (z:=(((k+1):Nat):Int)) rfl rfl (w64 om))<|e_p (zb rfl)<|zf<|zM<|zaa (k+1) (show ps.length≤(k+1)∧(k+1)≤K∧∀i,ps.length≤i→i<(k+1)→Mx.e M1 i j=0 from by exact ⟨by omega,by omega,fun i h1 h2=>by rcases Nat.lt_or_ge i k with h|h;exact hk0 i h1 h;rw [show i=k by omega];exact Rat.num_eq_zero.1 (yt.1 h33.2)⟩) (by show K - (k+1)<K - k;omega) ((.of rfl):SubM _ _) (ho:=((.of [0,0,0] rfl):PickO _ _ _)) (.n:SelR _ _ _)
   ·
    refine zda<|zi<|zi<|zr<|zc<|ze<|ze<|za<|e_mv rfl<|e_mv rfl<|e_p (zD ye rfl)<|e_p (zta rfl rfl)<|zf<|zc<|zB rfl (fun h39=> ?_) (fun h39=> ?_)
    ·
     refine zda<|zi<|zr<|zc<|za<|e_p (zH (z:=(((j+1):Nat):Int)) rfl rfl (w64 om))<|e_mv rfl<|zf<|zaa ((j+1),hs1,M1,ps,pP,cP) (show (j+1)≤nj∧Mx.Sm hs1 M1 K N∧Mx.Rd N K M M1 (j+1) ps∧Mx.bd M1 (Mx.H b (j+1)) from by exact ⟨by omega,hSm1,hRd.skip (fun i h1 h2=>hk0 i h1 om),hbd.up (by show _≤6*Mx.H b j+4;omega)⟩) (by show nj - (j+1)<nj - j;omega) ((.of rfl):SubM _ _) (ho:=((.of [0,0,0] rfl):PickO _ _ _)) (.n:SelR _ _ _)
    ·
     have hkK:k<K:=by omega
     have hpv:Mx.e M1 k j≠0:=fun z=>h33 ⟨by omega,yt.2 (Rat.num_eq_zero.2 z)⟩
     refine c_memx (φ:=fun y:Nat×Nat=>pA=some ⟨y.1,y.2,none⟩) (fun w mm=>mm.rowSome 1 rfl (fun h=>by have h8:=hSm1.h;have h9:=oh_len hs1 N;rw [h] at h9;have h7:(0:Nat)=hs1.length:=h9;omega)) ?_
     rintro ⟨bq,oq⟩ hpq
     replace hpq:pA=some ⟨bq,oq,none⟩:=hpq
     rw [hpq]
     refine zv<|zc<|ze<|zma (.c (i:=1) rfl (.c (i:=0) rfl (.c (i:=0) rfl .n)))<|zZ (OW:=[rowA 56 rV (some ⟨bq,oq,none⟩) cA (oh hs1 N)]) (O:=[rowA 3 (rI .i64) pP cP (Mx.ints ps),rowsM 28 rQ hs1 M1]) 13 mixed (.then (.block (.then (.then (.block (.then .ret)))))) kr<|e_dm 0 rfl rfl rfl<|e_dm 1 rfl rfl rfl<|e_dm 2 rfl rfl rfl<|e_dm 3 rfl rfl rfl<|e_dm 4 rfl rfl rfl<|e_dm 5 rfl rfl rfl<|e_pv 6 rfl rfl (zI (j:=k) ye sz56 rfl rfl rfl om)<|zdb 7 rfl rfl kr kr kr rfl rfl (zE (x0:=((rp hs1 k),N,(rc hs1 k))) (v:= .slice (rp hs1 k) N (rc hs1 k)) 0 k rfl ty56 rfl rfl (oh_get (hSm1.hk om)) rfl) (fun _ hok6=> ?_)
     refine e_dm 8 rfl rfl rfl<|e_dm 9 rfl rfl rfl<|e_pv 10 rfl rfl (zI (j:=ps.length) ye sz56 rfl rfl rfl om)<|zdb 11 rfl rfl kr kr kr rfl rfl (zE (x0:=((rp hs1 ps.length),N,(rc hs1 ps.length))) (v:= .slice (rp hs1 ps.length) N (rc hs1 ps.length)) 0 (ps.length) rfl ty56 rfl rfl (oh_get (hSm1.hk om)) rfl) (fun _ hok7=> ?_)
     refine e_pv 12 rfl rfl (zI (j:=ps.length) ye sz56 rfl rfl rfl om)<|e_one 13 (zob (A':=fun _=>rowA 56 rV (some ⟨bq,oq,none⟩) cA ((oh hs1 N).set (ps.length) ((rp hs1 k),N,(rc hs1 k)))) kr rfl rfl rfl (zL (j:=ps.length) (x0:=((rp hs1 k),N,(rc hs1 k))) (γ0:=()) rfl rfl (by first|omega|(rw [oh_len,hSm1.h];omega)|(rw [List.length_set,oh_len,hSm1.h];omega)) rfl rfl sz56 (fun _ _=>by trivial)) (fun _ _=> ?_))
     refine e_pv 14 rfl rfl (zI (j:=k) ye sz56 rfl rfl rfl om)<|e_one 15 (zob (A':=fun _=>rowA 56 rV (some ⟨bq,oq,none⟩) cA (((oh hs1 N).set (ps.length) ((rp hs1 k),N,(rc hs1 k))).set k ((rp hs1 ps.length),N,(rc hs1 ps.length)))) kr rfl rfl rfl (zL (j:=k) (x0:=((rp hs1 ps.length),N,(rc hs1 ps.length))) (γ0:=()) rfl rfl (by first|omega|(rw [oh_len,hSm1.h];omega)|(rw [List.length_set,oh_len,hSm1.h];omega)) rfl rfl sz56 (fun _ _=>by trivial)) (fun _ _=> ?_))
     refine zX kr<|zc<|ze ?_
     rw [← hpq]
     have e8:((((oh hs1 N).set (ps.length) ((rp hs1 k),N,(rc hs1 k))).set k ((rp hs1 ps.length),N,(rc hs1 ps.length))):List (Option Addr×Nat×Nat))=(oh (sw hs1 ps.length k) N):=by exact oh_sw _ _ _ _
     rw [e8]
     refine zxd (fun w mm=>mm.rmSwap (j:=ps.length) (k:=k) 2 rfl (hSm1.hk om) (hSm1.hk om) hSm1.hl) ?_
     try dsimp only [List.eraseIdx]
     have e8_:(M1.set ps.length (M1.getD k [])).set k (M1.getD ps.length [])=Mx.swp M1 ps.length k:=rfl
     rw [e8_]
     obtain ⟨hs2,hhs2⟩:∃z:HP,z=(sw hs1 ps.length k):=⟨_,rfl⟩
     rw [← hhs2]
     obtain ⟨M2,hM2⟩:∃z:List (List Rat),z=(Mx.swp M1 ps.length k):=⟨_,rfl⟩
     rw [← hM2]
     have hSm2:Mx.Sm hs2 M2 K N:=by rw [hhs2,hM2];exact hSm1.swp om om
     have hbd2:Mx.bd M2 (Mx.H b j):=by rw [hM2];exact hbd.swp (hSm1.mk' om) (hSm1.mk' om)
     have hpv2:Mx.e M2 ps.length j≠0:=by rw [hM2,Mx.e_swp_r (hSm1.mk' om) (hSm1.mk' om)];exact hpv
     have hbq:=hbd2 ps.length j
     have h1q:ym ((1:Int):Rat)=1:=Big.hq_one
     refine zZ (OW:=[]) (O:=[rowsM 28 rQ hs2 M2,rowA 56 rV pA cA (oh hs2 N),rowA 3 (rI .i64) pP cP (Mx.ints ps)]) 10 mixed (.then (.block (.then (.then (.block (.then .ret)))))) kr<|e_dm 1 rfl rfl rfl<|e_dm 2 rfl rfl rfl<|e_u 3 rfl rfl (zca 1 (ps.length) rfl ye sz56 rfl (by first|rfl|assumption|omega|exact Mx.ints_len _|(rw [oh_len];first|exact hSm1.h|exact hSm2.h)) rfl rfl om)<|d_vl 4 rfl rfl kr kr rfl rfl (zE (x0:=((rp hs2 ps.length),N,(rc hs2 ps.length))) (v:= .slice (rp hs2 ps.length) N (rc hs2 ps.length)) 1 (ps.length) rfl ty56 rfl rfl (oh_get (hSm2.hk om)) rfl) (fun _ hok9=> ?_)
     refine e_dm 5 rfl rfl rfl<|e_u 6 rfl rfl (zla 0 (ps.length) j rfl (hSm2.hk om) (hSm2.mk' om) (hSm2.row om) yd sz28 rfl rfl rfl om)<|d_vl 7 rfl rfl kr kr rfl rfl (zUa (x0:=(Mx.e M2 ps.length j)) 0 (ps.length) j rfl (hSm2.hk om) (hSm2.mk' om) ty28 rfl rfl (gD (d:=(0:Rat)) (by rw [hSm2.row om];omega))) ?_
     rintro ⟨w10,w11⟩ -
     dsimp only [aq,nq,cq]
     refine zNb open1_rQ<|zhg (m':=[(61,.agg (cw [w10,w11]).toArray),(7,.int .i64 ((ps.length:Nat):Int)),(6,.int .i64 ((j:Nat):Int)),(5,.slice pP (ps.length) cP),(13,.int .i64 ((j:Nat):Int)),(12,.int .i64 ((nj:Nat):Int)),(4,.slice none 0 0),(0,.slice pA K cA)]) (R':=[qF true w10 w11 (Mx.e M2 ps.length j)]) ((.of rfl):SubM _ _) (List.Perm.refl _) (List.Perm.refl _) ((.c (j:=0) rfl .n):SelR _ _ _)<|zVc (X:=Wd×Wd×Wd×Wd×Nat) (k':=0) (L':=(lb 11 2047)) (fun (u0_1,u0_2,u8_1,u8_2,u9_1)=>([(9,.pointer (some ⟨u9_1,0,none⟩)),(7,.int .i64 ((ps.length:Nat):Int)),(6,.int .i64 ((j:Nat):Int)),(5,.slice pP (ps.length) cP),(13,.int .i64 ((j:Nat):Int)),(12,.int .i64 ((nj:Nat):Int)),(4,.slice none 0 0),(0,.slice pA K cA)],[boxA u9_1 28 (cw [u8_1,u8_2])],[rowsM 28 rQ hs2 M2,rowA 56 rV pA cA (oh hs2 N),rowA 3 (rI .i64) pP cP (Mx.ints ps)],[qF true u8_1 u8_2 (((1:Int):Rat) / (Mx.e M2 ps.length j)),qF true u0_1 u0_2 ((1:Int):Rat),qF true w10 w11 (Mx.e M2 ps.length j)])) ?_ (fun hD0=> ?_)
     ·
      rintro ⟨u0_1,u0_2,u8_1,u8_2,u9_1⟩
      dsimp only [cw]
      refine zX kr<|zc<|ze<|ze ?_
      obtain ⟨xk,hxk⟩:∃z:Rat,z=(((1:Int):Rat) / (Mx.e M2 ps.length j)):=⟨_,rfl⟩
      rw [← hxk]
      have hxq:ym xk≤Mx.H b j+1:=by rw [hxk];exact Mx.hq_recip hpv2 hbq
      refine za<|e_mv rfl<|e_p (zb rfl)<|zf<|zc<|zt<|zea (X:=Nat) (fun x:Nat=>j≤x∧x≤N) (fun x=>[(10,.int .i64 ((x:Nat):Int)),(9,.pointer (some ⟨u9_1,0,none⟩)),(7,.int .i64 ((ps.length:Nat):Int)),(6,.int .i64 ((j:Nat):Int)),(5,.slice pP (ps.length) cP),(13,.int .i64 ((j:Nat):Int)),(12,.int .i64 ((nj:Nat):Int)),(4,.slice none 0 0),(0,.slice pA K cA)]) (fun x=>[boxA u9_1 28 (cw [u8_1,u8_2]),rowsM 28 rQ hs2 (M2.set ps.length (Mx.sc (M2.getD ps.length []) xk j x)),rowA 56 rV pA cA (oh hs2 N),rowA 3 (rI .i64) pP cP (Mx.ints ps)]) (fun x=>[qF true u8_1 u8_2 xk,qF true u0_1 u0_2 ((1:Int):Rat),qF true w10 w11 (Mx.e M2 ps.length j)]) (fun x:Nat=>N - x) j (show j≤j∧j≤N from by exact ⟨Nat.le_refl _,by omega⟩) ((.of rfl):SubM _ _) (ho:=((.c (i:=0) rfl (.e (i:=0) rfl (by first|rfl|(rw [Mx.scl_start (hSm2.mk' om)])) (.of [0,0] rfl))):PickO _ _ _)) ((.of [0,1,2] rfl):SelR _ _ _) ?_
      rintro t hT
      replace hT:j≤t∧t≤N:=hT
      try dsimp only [cw]
      obtain ⟨ht0,htN⟩:=hT
      have hSmt:Mx.Sm hs2 (M2.set ps.length (Mx.sc (M2.getD ps.length []) xk j t)) K N:=hSm2.setSc om
      refine ze<|ze<|za<|e_mv rfl<|e_mv rfl<|e_mv rfl<|e_ru (zca 2 (ps.length) rfl ye sz56 rfl (by first|rfl|assumption|omega|exact Mx.ints_len _|(rw [oh_len];first|exact hSm1.h|exact hSm2.h)) rfl rfl om)<|r_vl rfl rfl (zE (x0:=((rp hs2 ps.length),N,(rc hs2 ps.length))) (v:= .slice (rp hs2 ps.length) N (rc hs2 ps.length)) 2 (ps.length) rfl ty56 rfl rfl (oh_get (hSmt.hk om)) rfl) (fun _ hok12=> ?_)
      refine e_p (zD yd rfl)<|e_p (zT rfl rfl)<|zf<|zc<|zB rfl (fun h13=> ?_) (fun h13=> ?_)
      ·
       refine zv<|zc<|ze<|zt<|zma (.c (i:=1) rfl (.c (i:=0) rfl (.c (i:=0) rfl (.c (i:=0) rfl .n))))<|zZ (OW:=[rowsM 28 rQ hs2 (M2.set ps.length (Mx.sc (M2.getD ps.length []) xk j t))]) (O:=[boxA u9_1 28 (cw [u8_1,u8_2]),rowA 56 rV pA cA (oh hs2 N),rowA 3 (rI .i64) pP cP (Mx.ints ps)]) 15 mixed (.block (.then (.then (.block (.then (.block (.then (.then (.block (.then .ret)))))))))) kr<|e_dm 0 rfl rfl rfl<|e_dm 1 rfl rfl rfl<|e_uw 2 rfl rfl (zca 2 (ps.length) rfl ye sz56 rfl (by first|rfl|assumption|omega|exact Mx.ints_len _|(rw [oh_len];first|exact hSm1.h|exact hSm2.h)) rfl rfl om)<|zdb 3 rfl rfl kr kr kr rfl rfl (zE (x0:=((rp hs2 ps.length),N,(rc hs2 ps.length))) (v:= .slice (rp hs2 ps.length) N (rc hs2 ps.length)) 2 (ps.length) rfl ty56 rfl rfl (oh_get (hSmt.hk om)) rfl) (fun _ hok14=> ?_)
       refine e_dm 4 rfl rfl rfl<|e_uw 5 rfl rfl (zd 1 ty28 rfl rfl (.t4 .nil))<|e_dm 6 rfl rfl rfl<|e_dm 7 rfl rfl rfl<|e_uw 8 rfl rfl (zca 2 (ps.length) rfl ye sz56 rfl (by first|rfl|assumption|omega|exact Mx.ints_len _|(rw [oh_len];first|exact hSm1.h|exact hSm2.h)) rfl rfl om)<|zdb 9 rfl rfl kr kr kr rfl rfl (zE (x0:=((rp hs2 ps.length),N,(rc hs2 ps.length))) (v:= .slice (rp hs2 ps.length) N (rc hs2 ps.length)) 2 (ps.length) rfl ty56 rfl rfl (oh_get (hSmt.hk om)) rfl) (fun _ hok15=> ?_)
       refine e_dm 10 rfl rfl rfl<|e_uw 11 rfl rfl (zla 0 (ps.length) t rfl (hSmt.hk om) (hSmt.mk' om) (hSmt.row om) yd sz28 rfl rfl rfl om)<|zdb 12 rfl rfl kr kr kr rfl rfl (zUa (x0:=(Mx.e (M2.set ps.length (Mx.sc (M2.getD ps.length []) xk j t)) ps.length t)) 0 (ps.length) t rfl (hSmt.hk om) (hSmt.mk' om) ty28 rfl rfl (gD (d:=(0:Rat)) (by rw [hSmt.row om];omega))) ?_
       rintro ⟨w16,w17⟩ -
       dsimp only [aq,nq,cq]
       refine zNb open1_rQ ?_
       have e18:Mx.e (M2.set ps.length (Mx.sc (M2.getD ps.length []) xk j t)) ps.length t=Mx.e M2 ps.length t:=by exact Mx.e_sc_this (hSm2.mk' om) (by rw [hSm2.row om];omega) (Nat.le_refl _)
       rw [e18]
       have hbt:=hbd2 ps.length t
       refine e_one 13 (zC rfl rfl rfl rfl (.c rfl (.c rfl .n)) ce60 (zwb (k1:=true) (u1:=u8_1) (v1:=u8_2) (q1:=xk) (k2:=true) (u2:=w16) (v2:=w17) (q2:=(Mx.e M2 ps.length t)) (hl:=cbo)) (.c (j:=1) rfl (.c (j:=0) rfl .n)) ?_)
       rintro ⟨w319,w420⟩ -
       dsimp only [aq,nq,cq]
       refine e_uw 14 rfl rfl (zla 0 (ps.length) t rfl (hSmt.hk om) (hSmt.mk' om) (hSmt.row om) yd sz28 rfl rfl rfl om)<|e_one 15 (zob (A':=fun _=>rowsM 28 rQ hs2 ((M2.set ps.length (Mx.sc (M2.getD ps.length []) xk j t)).set (ps.length) (((M2.set ps.length (Mx.sc (M2.getD ps.length []) xk j t)).getD (ps.length) []).set t (xk*(Mx.e M2 ps.length t))))) kr rfl rfl rfl (zab (r:=rQ) (k:=ps.length) (j:=t) (x0:=(xk*(Mx.e M2 ps.length t))) (γ0:=(w319,w420)) (hSmt.hk om) (hSmt.mk' om) rfl rfl (by rw [hSmt.row om];omega) rfl rfl sz28 (fun g hr=>Holds.get 0 rfl hr)) (fun _ _=> ?_))
       refine zX kr<|zM<|zc<|za<|e_mv rfl<|e_p (zH (z:=(((t+1):Nat):Int)) rfl rfl (w64 om))<|e_p (zb rfl)<|zf<|zaa (t+1) (show j≤(t+1)∧(t+1)≤N from by exact ⟨by omega,by omega⟩) (by show N - (t+1)<N - t;omega) ((.of rfl):SubM _ _) (ho:=((.c (i:=1) rfl (.e (i:=0) rfl (by first|rfl|(rw [Mx.scl_step (hSm2.mk' om) om (by rw [hSm2.row om];omega)])) (.of [0,0] rfl))):PickO _ _ _)) ((.of [2,3,4] rfl):SelR _ _ _)
      ·
       refine zda<|zi<|zi<|zr<|zc<|ze<|ze ?_
       have e21:(M2.set ps.length (Mx.sc (M2.getD ps.length []) xk j t))=(M2.set ps.length (Mx.sc (M2.getD ps.length []) xk j N)):=by rw [show t=N by omega]
       rw [e21]
       obtain ⟨M3,hM3⟩:∃z:List (List Rat),z=(M2.set ps.length (Mx.sc (M2.getD ps.length []) xk j N)):=⟨_,rfl⟩
       rw [← hM3]
       have hSm3:Mx.Sm hs2 M3 K N:=by rw [hM3];exact hSm2.setSc om
       have hbd3:Mx.bd M3 (2*Mx.H b j+1):=by rw [hM3];exact hbd2.sc (hSm2.mk' om) hxq
       refine za<|e_mv rfl<|e_p (zD ye rfl)<|e_mv rfl<|zf<|zc<|zt<|zea (X:=Nat) (fun x:Nat=>x≤K) (fun x=>[(90,.int .i64 ((x:Nat):Int)),(89,.int .i64 ((K:Nat):Int)),(7,.int .i64 ((ps.length:Nat):Int)),(6,.int .i64 ((j:Nat):Int)),(5,.slice pP (ps.length) cP),(13,.int .i64 ((j:Nat):Int)),(12,.int .i64 ((nj:Nat):Int)),(4,.slice none 0 0),(0,.slice pA K cA)]) (fun x=>[boxA u9_1 28 (cw [u8_1,u8_2]),rowsM 28 rQ hs2 (Mx.el M3 ps.length j x),rowA 56 rV pA cA (oh hs2 N),rowA 3 (rI .i64) pP cP (Mx.ints ps)]) (fun x=>[qF true u8_1 u8_2 xk,qF true u0_1 u0_2 ((1:Int):Rat),qF true w10 w11 (Mx.e M2 ps.length j)]) (fun x:Nat=>K - x) 0 (show 0≤K from by exact Nat.zero_le _) ((.e rfl (by first|rfl|(congr 1;omega)|simp_all) (.of rfl)):SubM _ _) (ho:=((.c (i:=0) rfl (.e (i:=0) rfl (by first|rfl|(rw [Mx.el_start])) (.of [0,0] rfl))):PickO _ _ _)) ((.of [0,1,2] rfl):SelR _ _ _) ?_
       rintro i hE
       replace hE:i≤K:=hE
       try dsimp only [cw]
       have hSme:Mx.Sm hs2 (Mx.el M3 ps.length j i) K N:=hSm3.el
       refine ze<|za<|e_p (zT rfl rfl)<|zf<|zc<|ze<|zB rfl (fun h22=> ?_) (fun h22=> ?_)
       ·
        refine zv<|zc<|ze<|zt<|ze<|za<|e_mv rfl<|e_p (zb rfl)<|zf<|zc<|zGa (X:=Unit) (fun x=>True) (fun x=>[(106,.bool (decide ((((i:Nat):Int)≠((ps.length:Nat):Int))∧(Big.sgq (Mx.e (Mx.el M3 ps.length j i) i j)≠0)))),(11,.int .i64 ((i:Nat):Int)),(90,.int .i64 ((i:Nat):Int)),(89,.int .i64 ((K:Nat):Int)),(7,.int .i64 ((ps.length:Nat):Int)),(6,.int .i64 ((j:Nat):Int)),(5,.slice pP (ps.length) cP),(13,.int .i64 ((j:Nat):Int)),(12,.int .i64 ((nj:Nat):Int)),(4,.slice none 0 0),(0,.slice pA K cA)]) (fun x=>[boxA u9_1 28 (cw [u8_1,u8_2]),rowsM 28 rQ hs2 (Mx.el M3 ps.length j i),rowA 56 rV pA cA (oh hs2 N),rowA 3 (rI .i64) pP cP (Mx.ints ps)]) (fun x=>[qF true u8_1 u8_2 xk,qF true u0_1 u0_2 ((1:Int):Rat),qF true w10 w11 (Mx.e M2 ps.length j)]) ?_ ?_
        ·
         refine za<|e_mv rfl<|e_mv rfl<|e_p (zAa rfl rfl)<|zW rfl rfl (zba rfl) (fun h23=> ?_) (fun h23=> ?_)
         ·
          refine e_mv rfl<|e_mv rfl<|e_ru (zca 2 i rfl ye sz56 rfl (by first|rfl|assumption|omega|exact Mx.ints_len _|(rw [oh_len];first|exact hSm1.h|exact hSm2.h)) rfl rfl om)<|r_vl rfl rfl (zE (x0:=((rp hs2 i),N,(rc hs2 i))) (v:= .slice (rp hs2 i) N (rc hs2 i)) 2 i rfl ty56 rfl rfl (oh_get (hSme.hk om)) rfl) (fun _ hok24=> ?_)
          refine e_mv rfl<|e_ru (zla 1 i j rfl (hSme.hk om) (hSme.mk' om) (hSme.row om) yd sz28 rfl rfl rfl om)<|r_vl rfl rfl (zUa (x0:=(Mx.e (Mx.el M3 ps.length j i) i j)) 1 i j rfl (hSme.hk om) (hSme.mk' om) ty28 rfl rfl (gD (d:=(0:Rat)) (by rw [hSme.row om];omega))) ?_
          rintro ⟨w25,w26⟩ -
          dsimp only [aq,nq,cq]
          refine zFb open1_rQ<|zQ rfl rfl (.c rfl .n) ce110 (zcc (k1:=true) (u1:=w25) (v1:=w26) (q1:=(Mx.e (Mx.el M3 ps.length j i) i j))) (.c (j:=0) rfl .n)<|e_p (zAa rfl rfl)<|e_p (zn rfl rfl)<|zf ?_
          exact zia () (show True from by first|trivial|omega|simp_all) ((.e rfl (congrArg Value.bool cbu) (.of rfl)):SubM _ _) (ho:=((.of [0,0,0,0] rfl):PickO _ _ _)) ((.of [1,2,3] rfl):SelR _ _ _)
         ·
          refine e_no<|e_no<|e_no<|e_no<|e_no<|e_no<|e_no<|e_no<|e_no<|e_p (zn rfl rfl)<|zf ?_
          exact zia () (show True from by first|trivial|omega|simp_all) ((.e rfl (congrArg Value.bool cbu) (.of rfl)):SubM _ _) (ho:=((.of [0,0,0,0] rfl):PickO _ _ _)) ((.of [0,1,2] rfl):SelR _ _ _)
        ·
         rintro ⟨⟩ -
         try dsimp only [cw]
         refine zB rfl (fun h106=> ?_) (fun h106=> ?_)
         ·
          refine zma (.c (i:=1) rfl (.c (i:=0) rfl (.c (i:=0) rfl (.c (i:=0) rfl .n))))<|zZ (OW:=[rowsM 28 rQ hs2 (Mx.el M3 ps.length j i)]) (O:=[boxA u9_1 28 (cw [u8_1,u8_2]),rowA 56 rV pA cA (oh hs2 N),rowA 3 (rI .i64) pP cP (Mx.ints ps)]) 16 mixed (.block (.then (.then (.block (.then (.block (.then (.then (.block (.then .ret)))))))))) kr<|e_dm 0 rfl rfl rfl<|e_dm 1 rfl rfl rfl<|e_uw 2 rfl rfl (zca 2 i rfl ye sz56 rfl (by first|rfl|assumption|omega|exact Mx.ints_len _|(rw [oh_len];first|exact hSm1.h|exact hSm2.h)) rfl rfl om)<|zdb 3 rfl rfl kr kr kr rfl rfl (zE (x0:=((rp hs2 i),N,(rc hs2 i))) (v:= .slice (rp hs2 i) N (rc hs2 i)) 2 i rfl ty56 rfl rfl (oh_get (hSme.hk om)) rfl) (fun _ hok27=> ?_)
          refine e_dm 4 rfl rfl rfl<|e_dm 5 rfl rfl rfl<|e_uw 6 rfl rfl (zca 2 (ps.length) rfl ye sz56 rfl (by first|rfl|assumption|omega|exact Mx.ints_len _|(rw [oh_len];first|exact hSm1.h|exact hSm2.h)) rfl rfl om)<|zdb 7 rfl rfl kr kr kr rfl rfl (zE (x0:=((rp hs2 ps.length),N,(rc hs2 ps.length))) (v:= .slice (rp hs2 ps.length) N (rc hs2 ps.length)) 2 (ps.length) rfl ty56 rfl rfl (oh_get (hSme.hk om)) rfl) (fun _ hok28=> ?_)
          refine e_dm 8 rfl rfl rfl<|e_dm 9 rfl rfl rfl<|e_uw 10 rfl rfl (zca 2 i rfl ye sz56 rfl (by first|rfl|assumption|omega|exact Mx.ints_len _|(rw [oh_len];first|exact hSm1.h|exact hSm2.h)) rfl rfl om)<|zdb 11 rfl rfl kr kr kr rfl rfl (zE (x0:=((rp hs2 i),N,(rc hs2 i))) (v:= .slice (rp hs2 i) N (rc hs2 i)) 2 i rfl ty56 rfl rfl (oh_get (hSme.hk om)) rfl) (fun _ hok29=> ?_)
          refine e_dm 12 rfl rfl rfl<|e_uw 13 rfl rfl (zla 0 i j rfl (hSme.hk om) (hSme.mk' om) (hSme.row om) yd sz28 rfl rfl rfl om)<|zdb 14 rfl rfl kr kr kr rfl rfl (zUa (x0:=(Mx.e (Mx.el M3 ps.length j i) i j)) 0 i j rfl (hSme.hk om) (hSme.mk' om) ty28 rfl rfl (gD (d:=(0:Rat)) (by rw [hSme.row om];omega))) ?_
          rintro ⟨w30,w31⟩ -
          dsimp only [aq,nq,cq]
          refine zNb open1_rQ ?_
          have e32:Mx.e (Mx.el M3 ps.length j i) i j=Mx.e M3 i j:=by exact Mx.e_el (hSm3.mk' om)
          rw [e32]
          have hbi:=hbd3 i j
          have hb4:Mx.bd (Mx.el M3 ps.length j i) 200000:=hbd3.el.up om
          refine e_dm 15 rfl rfl rfl<|e_one 16 (zmg (first:=[]) (cap:=[]) (A':=fun y=>rowsM 28 rQ hs2 ((Mx.el M3 ps.length j i).set i (Mx.sb ((Mx.el M3 ps.length j i).getD i []) ((Mx.el M3 ps.length j i).getD ps.length []) (Mx.e M3 i j) j N))) kr rfl rfl rfl rfl (.c rfl (.c rfl (.c rfl (.c rfl .n)))) ce145 (zLd (hs:=hs2) (M:=(Mx.el M3 ps.length j i)) (K:=K) (N:=N) (ii:=i) (rr:=ps.length) (u1:=w30) (v1:=w31) (xk:=(Mx.e M3 i j)) (j0:=j) (hSm:=cbo) (hii:=cbo) (hrr:=cbo) (hne:=cbo) (hj0:=cbo) (hN:=ass) (hx:=cbo) (hb:=cbo)) (.c (j:=0) rfl .n) ?_)
          rintro ⟨⟩ -
          dsimp only [aq,nq,cq]
          refine zX kr<|zM<|zc<|za<|e_p (zH (z:=(((i+1):Nat):Int)) rfl rfl (w64 om))<|e_mv rfl<|zf<|zaa (i+1) (show (i+1)≤K from by show i+1≤K;omega) (by show K - (i+1)<K - i;omega) ((.of rfl):SubM _ _) (ho:=((.c (i:=1) rfl (.e (i:=0) rfl (by first|rfl|(rw [Mx.el_sub (hSm3.mk' om) (hSm3.mk' om) om (hSm3.row om)])) (.of [0,0] rfl))):PickO _ _ _)) ((.of [1,2,3] rfl):SelR _ _ _)
         ·
          refine zv<|zM<|zc<|za<|e_p (zH (z:=(((i+1):Nat):Int)) rfl rfl (w64 om))<|e_mv rfl<|zf<|zaa (i+1) (show (i+1)≤K from by show i+1≤K;omega) (by show K - (i+1)<K - i;omega) ((.of rfl):SubM _ _) (ho:=((.c (i:=0) rfl (.e (i:=0) rfl (by first|rfl|(rw [Mx.el_skip (hSm3.mk' om) (by rcases Nat.decEq i ps.length with h|h;exact Or.inr (Rat.num_eq_zero.1 (yt.1 (Decidable.byContradiction fun z=>h106 ⟨by omega,z⟩)));exact Or.inl h)])) (.of [0,0] rfl))):PickO _ _ _)) ((.of [0,1,2] rfl):SelR _ _ _)
       ·
        refine zda<|zi<|zi<|zr<|zc<|za<|e_mv rfl<|e_mv rfl<|zra rfl rfl (zR (enc:=fun z:Int=>[.int .i64 z]) (ok:=InK .i64) (h1:=fun _=>rfl) (h2:=fun _=>rfl) (k:=1) yf inf3 rfl dd dd dd (.c (x:=((j:Nat):Int)) rfl rfl (fun _ _=>by exact zP.2 om) .n)) (fun b33 _=> ?_)
        refine zga 0 rfl .z<|zza 4 rfl rfl rfl (zsa 0 rfl yf inf3 dd rfl rfl (by first|rfl|assumption|omega|exact Mx.ints_len _|(rw [oh_len];first|exact hSm1.h|exact hSm2.h)) rfl (by first|rfl|assumption|omega|exact Mx.ints_len _|(rw [oh_len];first|exact hSm1.h|exact hSm2.h)) om om) (fun _=>(.s (.s (.s (.s .z))))) ?_
        rintro ⟨p34,c35⟩ -
        dsimp only [aq,nq,cq]
        refine e_p (zb rfl)<|zf<|zM<|zc<|za<|e_p (zH (z:=(((j+1):Nat):Int)) rfl rfl (w64 om))<|e_mv rfl<|zf ?_
        have hstep:=hRd.step' hk1 hkK om hpv hM2 hxk hM3
        have e36:(Mx.el M3 ps.length j i)=(Mx.el M3 ps.length j K):=by rw [show i=K by omega]
        rw [e36]
        refine zaa ((j+1),hs2,(Mx.el M3 ps.length j K),(ps++[j]),p34,c35) (show (j+1)≤nj∧Mx.Sm hs2 (Mx.el M3 ps.length j K) K N∧Mx.Rd N K M (Mx.el M3 ps.length j K) (j+1) (ps++[j])∧Mx.bd (Mx.el M3 ps.length j K) (Mx.H b (j+1)) from by exact ⟨by omega,hSm3.el,hstep,hbd3.el.up (by show _≤6*Mx.H b j+4;omega)⟩) (by show nj - (j+1)<nj - j;omega) ((.e rfl (by first|rfl|(congr 1;omega)|simp_all) (.of rfl)):SubM _ _) (ho:=((.e (i:=4) rfl (by first|rfl|(rw [Mx.ints_snoc])) (.of [3,2] rfl)):PickO _ _ _)) (.n:SelR _ _ _)
     refine zVc (X:=Wd×Wd×Wd×Wd×Nat) (k':=1) (L':=(lb 11 1023)) (fun (u0_1,u0_2,u8_1,u8_2,u9_1)=>([(9,.pointer (some ⟨u9_1,0,none⟩)),(62,.agg (cw [u8_1,u8_2]).toArray),(7,.int .i64 ((ps.length:Nat):Int)),(6,.int .i64 ((j:Nat):Int)),(5,.slice pP (ps.length) cP),(13,.int .i64 ((j:Nat):Int)),(12,.int .i64 ((nj:Nat):Int)),(4,.slice none 0 0),(0,.slice pA K cA)],[boxA u9_1 28 (cw [wz,wz])],[rowsM 28 rQ hs2 M2,rowA 56 rV pA cA (oh hs2 N),rowA 3 (rI .i64) pP cP (Mx.ints ps)],[qF true u8_1 u8_2 (((1:Int):Rat) / (Mx.e M2 ps.length j)),qF true u0_1 u0_2 ((1:Int):Rat),qF true w10 w11 (Mx.e M2 ps.length j)])) ?_ (fun hD1=> ?_)
     ·
      rintro ⟨u0_1,u0_2,u8_1,u8_2,u9_1⟩
      dsimp only [cw]
      refine zYe 10 kr ?_
      ·
       refine zG kr rfl rfl rfl rfl rfl sz28 rfl (.t4 .nil) ?_
       exact zEb (hD0 (u0_1,u0_2,u8_1,u8_2,u9_1)) kr ((.of rfl):SubM _ _) .rfl .rfl ((.of [0,1,2] rfl):SelR _ _ _)
     refine zVc (X:=Wd×Wd×Wd×Wd) (k':=2) (L':=(lb 11 511)) (fun (u0_1,u0_2,u8_1,u8_2)=>([(62,.agg (cw [u8_1,u8_2]).toArray),(7,.int .i64 ((ps.length:Nat):Int)),(6,.int .i64 ((j:Nat):Int)),(5,.slice pP (ps.length) cP),(13,.int .i64 ((j:Nat):Int)),(12,.int .i64 ((nj:Nat):Int)),(4,.slice none 0 0),(0,.slice pA K cA)],[],[rowsM 28 rQ hs2 M2,rowA 56 rV pA cA (oh hs2 N),rowA 3 (rI .i64) pP cP (Mx.ints ps)],[qF true u8_1 u8_2 (((1:Int):Rat) / (Mx.e M2 ps.length j)),qF true u0_1 u0_2 ((1:Int):Rat),qF true w10 w11 (Mx.e M2 ps.length j)])) ?_ (fun hD2=> ?_)
     ·
      rintro ⟨u0_1,u0_2,u8_1,u8_2⟩
      dsimp only [cw]
      refine zYe 9 kr ?_
      ·
       refine zie rfl rfl rfl rfl (zw zr28 rfl) (fun u9_1 _=> ?_)
       exact zEb (hD1 (u0_1,u0_2,u8_1,u8_2,u9_1)) kr ((.of rfl):SubM _ _) .rfl .rfl ((.of [0,1,2] rfl):SelR _ _ _)
     refine zVc (X:=Wd×Wd×Nat) (k':=2) (L':=(lb 11 767)) (fun (u0_1,u0_2,u9_1)=>([(9,.pointer (some ⟨u9_1,0,none⟩)),(54,.agg (cw [u0_1,u0_2]).toArray),(61,.agg (cw [w10,w11]).toArray),(7,.int .i64 ((ps.length:Nat):Int)),(6,.int .i64 ((j:Nat):Int)),(5,.slice pP (ps.length) cP),(13,.int .i64 ((j:Nat):Int)),(12,.int .i64 ((nj:Nat):Int)),(4,.slice none 0 0),(0,.slice pA K cA)],[boxA u9_1 28 (cw [wz,wz])],[rowsM 28 rQ hs2 M2,rowA 56 rV pA cA (oh hs2 N),rowA 3 (rI .i64) pP cP (Mx.ints ps)],[qF true u0_1 u0_2 ((1:Int):Rat),qF true w10 w11 (Mx.e M2 ps.length j)])) ?_ (fun hD3=> ?_)
     ·
      rintro ⟨u0_1,u0_2,u9_1⟩
      dsimp only [cw]
      refine zYe 8 kr ?_
      ·
       refine zC rfl rfl rfl rfl (.c rfl (.c rfl .n)) ce144 (zrc (u1:=u0_1) (v1:=u0_2) (q1:=((1:Int):Rat)) (u2:=w10) (v2:=w11) (q2:=(Mx.e M2 ps.length j)) (hl:=cbo) (h0:=cbo)) (.c (j:=0) rfl (.c (j:=1) rfl .n)) ?_
       rintro ⟨u8_1,u8_2⟩ -
       dsimp only [aq,nq,cq]
       exact zEb (hD1 (u0_1,u0_2,u8_1,u8_2,u9_1)) kr ((.of rfl):SubM _ _) .rfl .rfl ((.of [0,1,2] rfl):SelR _ _ _)
     refine zVc (X:=Wd×Wd) (k':=3) (L':=(lb 11 255)) (fun (u0_1,u0_2)=>([(54,.agg (cw [u0_1,u0_2]).toArray),(61,.agg (cw [w10,w11]).toArray),(7,.int .i64 ((ps.length:Nat):Int)),(6,.int .i64 ((j:Nat):Int)),(5,.slice pP (ps.length) cP),(13,.int .i64 ((j:Nat):Int)),(12,.int .i64 ((nj:Nat):Int)),(4,.slice none 0 0),(0,.slice pA K cA)],[],[rowsM 28 rQ hs2 M2,rowA 56 rV pA cA (oh hs2 N),rowA 3 (rI .i64) pP cP (Mx.ints ps)],[qF true u0_1 u0_2 ((1:Int):Rat),qF true w10 w11 (Mx.e M2 ps.length j)])) ?_ (fun hD4=> ?_)
     ·
      rintro ⟨u0_1,u0_2⟩
      dsimp only [cw]
      refine d_two 8 9 kr ?_ ?_
      ·
       refine zC rfl rfl rfl rfl (.c rfl (.c rfl .n)) ce144 (zrc (u1:=u0_1) (v1:=u0_2) (q1:=((1:Int):Rat)) (u2:=w10) (v2:=w11) (q2:=(Mx.e M2 ps.length j)) (hl:=cbo) (h0:=cbo)) (.c (j:=0) rfl (.c (j:=1) rfl .n)) ?_
       rintro ⟨u8_1,u8_2⟩ -
       dsimp only [aq,nq,cq]
       exact zEb (hD2 (u0_1,u0_2,u8_1,u8_2)) kr ((.of rfl):SubM _ _) .rfl .rfl ((.of [0,1,2] rfl):SelR _ _ _)
      ·
       refine zie rfl rfl rfl rfl (zw zr28 rfl) (fun u9_1 _=> ?_)
       exact zEb (hD3 (u0_1,u0_2,u9_1)) kr ((.of rfl):SubM _ _) .rfl .rfl ((.of [0,1] rfl):SelR _ _ _)
     refine zVc (X:=Nat) (k':=3) (L':=(lb 11 766)) (fun u9_1=>([(9,.pointer (some ⟨u9_1,0,none⟩)),(61,.agg (cw [w10,w11]).toArray),(7,.int .i64 ((ps.length:Nat):Int)),(6,.int .i64 ((j:Nat):Int)),(5,.slice pP (ps.length) cP),(13,.int .i64 ((j:Nat):Int)),(12,.int .i64 ((nj:Nat):Int)),(4,.slice none 0 0),(0,.slice pA K cA)],[boxA u9_1 28 (cw [wz,wz])],[rowsM 28 rQ hs2 M2,rowA 56 rV pA cA (oh hs2 N),rowA 3 (rI .i64) pP cP (Mx.ints ps)],[qF true w10 w11 (Mx.e M2 ps.length j)])) ?_ (fun hD5=> ?_)
     ·
      rintro u9_1
      dsimp only [cw]
      refine zYe 0 kr ?_
      ·
       refine zC rfl rfl rfl rfl (.c rfl .n) ce56 (zQa (z:=1) (hz:=cbo)) (.n) ?_
       rintro ⟨u0_1,u0_2⟩ -
       dsimp only [aq,nq,cq]
       exact zEb (hD3 (u0_1,u0_2,u9_1)) kr ((.of rfl):SubM _ _) .rfl .rfl ((.of [0,1] rfl):SelR _ _ _)
     refine d_two 0 9 kr ?_ ?_
     ·
      refine zC rfl rfl rfl rfl (.c rfl .n) ce56 (zQa (z:=1) (hz:=cbo)) (.n) ?_
      rintro ⟨u0_1,u0_2⟩ -
      dsimp only [aq,nq,cq]
      exact zEb (hD4 (u0_1,u0_2)) kr ((.of rfl):SubM _ _) .rfl .rfl ((.of [0,1] rfl):SelR _ _ _)
     ·
      refine zie rfl rfl rfl rfl (zw zr28 rfl) (fun u9_1 _=> ?_)
      exact zEb (hD5 u9_1) kr ((.of rfl):SubM _ _) .rfl .rfl ((.c (j:=0) rfl .n):SelR _ _ _)
 ·
  refine zda<|zi<|zi<|zr<|zc<|ze<|za<|e_mv rfl<|e_p (zb rfl)<|zf<|zc<|zJ ?_
  have ejn:j=nj:=by omega
  subst ejn
  exact zy Tryz.results109 (hs1,M1,ps,pP,cP) (⟨hSm1,hRd,hbd⟩) (zo rfl) rfl (ho:=((.of [1,1,0] rfl):PickO _ _ _)) (.n:SelR _ _ _)
end Go.Proofs.YtkohlohbogpooaaGreat.Sp
namespace Go.Proofs.YtkohlohbogpooaaGreat.Sp
open Go
set_option linter.unusedVariables false
set_option maxRecDepth 100000
set_option maxHeartbeats 8000000
theorem zLe {pV:Option Addr} {nV:Nat} {cV:Nat} {lV:List Rat} (hnq:lV.length=nV) (hn64:nV≤64):Con yh 108 [.slice pV nV cV] [] [slF rQ pV cV lV] (Y:=(Option Addr)×Nat) (fun y=>True) (fun y=> .slice (y.1) nV (y.2)) (fun y=>[]) (fun y=>[slF (rS rQ) (y.1) (y.2) (Mx.mk nV 1 (fun ii jj=>Mx.eC lV ii jj))]):=by
 refine zl Tryz.func108 rfl rfl rfl (fun c=> ?_)
 show RunC _ _ _ _ _ [(0,.slice pV nV cV)] [] [slF rQ pV cV lV]
 refine zY 0 rfl (fun hL0=> ?_)
 refine ze<|za<|zK rfl rfl (zU rfl rfl) (fun b1=> ?_)
 refine e_p (zb rfl)<|zf<|zc<|ze<|zgb 0 rfl .z<|za<|e_ru (zj (j:=0) 0 ty56 rfl rfl rfl rfl)<|e_p (zD yd rfl)<|e_p (zHa .n (.c rfl .n))<|zu rfl rfl (.c rfl (.c rfl (.c rfl .n))) ce103 (zHe (K:=nV) (N:=1) (bL:=b1) (pV:=pV) (nV:=nV) (cV:=cV) (lV:=lV) (hK:=ass) (hN:=cbo) (hnq:=ass) (hKq:=cbo)) (.c (j:=0) rfl (.c (j:=1) rfl .n)) ?_
 rintro ⟨p32,c33,hs4⟩ hsl
 dsimp only [aq,nq,cq]
 replace hsl:hs4.length=nV:=hsl
 refine e_p (zb rfl)<|zf<|zc<|zJ<|zQc (fun w mm=>mm.rmFreeze 0 1 rfl rfl ((Mx.mk_sm nV 1 _ hsl).hl) ((Mx.mk_sm nV 1 _ hsl).rl)) ?_
 try dsimp only [List.set]
 exact zy Tryz.results108 (p32,c33) trivial (zo rfl) rfl (ho:=(.n:PickO _ _ _)) ((.c (j:=0) rfl .n):SelR _ _ _)
theorem zMe {pA:Option Addr} {nA:Nat} {cA:Nat} {A:List (List Rat)} {pB:Option Addr} {nB:Nat} {cB:Nat} {B:List (List Rat)} {n9:Nat} {N:Nat} (hn64:n9≤64) (hnA:A.length=nA) (hnB:B.length=nB) (hA0:(A.getD 0 []).length=n9) (hAB:nB=nA) (hA1:1≤nA∧nA≤64) (hB0:N=n9+(B.getD 0 []).length) (hN:N≤70) (hAr:∀i,i<nA→(A.getD i []).length=n9) (hBr:∀i,i<nA→N=n9+(B.getD i []).length):Con yh 107 [.slice pA nA cA,.slice pB nB cB] [] [slF (rS rQ) pA cA A,slF (rS rQ) pB cB B] (Y:=(Option Addr)×Nat×HP) (fun y=>y.2.2.length=nA) (fun y=> .slice (y.1) nA (y.2.1)) (fun y=>[rowA 56 rV (y.1) (y.2.1) (oh y.2.2 N),rowsM 28 rQ (y.2.2) (Mx.mk nA N (fun ii jj=>Mx.eB A B n9 ii jj))]) (fun y=>[]):=by
 refine zl Tryz.func107 rfl rfl rfl (fun c=> ?_)
 show RunC _ _ _ _ _ [(0,.slice pA nA cA),(1,.slice pB nB cB)] [] [slF (rS rQ) pA cA A,slF (rS rQ) pB cB B]
 refine zY 0 rfl (fun hL0=> ?_)
 refine zY 1 rfl (fun hL1=> ?_)
 refine ze<|za<|zK rfl rfl (zU rfl rfl) (fun b1=> ?_)
 refine zK rfl rfl (zU rfl rfl) (fun b2=> ?_)
 refine e_p (zb rfl)<|zf<|zc<|ze<|zgb 1 rfl (.s .z)<|zgb 0 rfl .z<|zZ (OW:=[]) (O:=[emA,emA]) 100000 mixed (.then .ret) kr<|e_u 0 rfl rfl (zj (j:=0) 1 ty91 rfl rfl rfl rfl)<|e_pv 1 rfl rfl (zD ye rfl)<|e_u 2 rfl rfl (zj (j:=0) 1 ty91 rfl rfl rfl rfl)<|d_vl 3 rfl rfl kr kr rfl rfl (zka (x0:=(A.getD 0 [])) 2 0 rfl ye sz56 rfl cbs rfl rfl (gD (d:=[]) om)) ?_
 rintro ⟨b3,o4,p5,c6⟩ -
 dsimp only [aq,nq,cq]
 refine e_u 4 rfl rfl (zj (j:=0) 0 ty56 rfl rfl rfl rfl)<|e_pv 5 rfl rfl (zD yd rfl)<|e_u 6 rfl rfl (zj (j:=0) 2 ty91 rfl rfl rfl rfl)<|d_vl 7 rfl rfl kr kr rfl rfl (zka (x0:=(B.getD 0 [])) 5 0 rfl ye sz56 rfl cbs rfl rfl (gD (d:=[]) om)) ?_
 rintro ⟨b7,o8,p9,c10⟩ -
 dsimp only [aq,nq,cq]
 refine e_u 8 rfl rfl (zj (j:=0) 0 ty56 rfl rfl rfl rfl)<|e_pv 9 rfl rfl (zD yd rfl)<|e_pv 10 rfl rfl (zH (z:=(((((A.getD 0 []).length)+((B.getD 0 []).length)):Nat):Int)) rfl rfl (w64 om)) ?_
 have e11:((((((A.getD 0 []).length)+((B.getD 0 []).length)):Nat):Int):Int)=((N:Nat):Int):=by omega
 rw [e11]
 refine e_pv 11 rfl rfl (zHa .n (.c rfl (.c rfl .n)))<|e_one 12 (zC rfl rfl rfl rfl (.c rfl (.c rfl (.c rfl .n))) ce103 (zGe (K:=nA) (N:=N) (bA:=b1) (pA:=pA) (nA:=nA) (cA:=cA) (A:=A) (bB:=b2) (pB:=pB) (nB:=nB) (cB:=cB) (B:=B) (n9:=n9) (hK:=cbo) (hN:=ass) (hn9:=ass) (hnA:=ass) (hnB:=ass) (hA0:=ass) (hKA:=cbo) (hAB:=ass) (hAr:=ass) (hBr:=ass)) (.c (j:=5) rfl (.c (j:=6) rfl (.c (j:=4) rfl (.c (j:=7) rfl .n)))) ?_)
 rintro ⟨p312,c313,hs14⟩ hsl
 dsimp only [aq,nq,cq]
 replace hsl:hs14.length=nA:=hsl
 refine e_pv 13 rfl rfl (zb rfl)<|zX kr<|zc<|zJ ?_
 exact zy Tryz.results107 (p312,c313,hs14) hsl (zo rfl) rfl (ho:=((.of [0,0] rfl):PickO _ _ _)) (.n:SelR _ _ _)
theorem zxg {p:Option Addr} {n:Nat} {cap:Nat} {bq:Nat} {pL:Option Addr} {nL:Nat} {cL:Nat} {LL:List (List Int)} (hnL:LL.length=nL) (hL1:1≤nL) (heq:n=(LL.getD 0 []).length):Con yh 102 [.slice p n cap,.pointer (some ⟨bq,0,none⟩)] [] [atF bq 0 [.slice pL nL cL],slF (rS (rI .i64)) pL cL LL] (Y:=Unit) (fun y=>True) (fun y=> .bool false) (fun y=>[]) (fun y=>[]):=by
 refine zl Tryz.func102 rfl rfl rfl (fun c=> ?_)
 show RunC _ _ _ _ _ [(0,.slice p n cap),(1,.pointer (some ⟨bq,0,none⟩))] [] [atF bq 0 [.slice pL nL cL],slF (rS (rI .i64)) pL cL LL]
 refine zY 1 rfl (fun hL1=> ?_)
 refine ze<|za<|e_p (zb rfl)<|zf<|zc<|ze<|za<|e_mv rfl<|e_p (zD yf rfl)<|e_ru (zj (j:=0) 0 ty88 rfl rfl rfl rfl)<|r_vl rfl rfl (zka (x0:=(LL.getD 0 [])) 1 0 rfl yj sz42 rfl cbo rfl rfl (gD (d:=[]) om)) ?_
 rintro ⟨b1,o2,p3,c4⟩ -
 dsimp only [aq,nq,cq]
 refine e_ru (zj (j:=0) 0 ty42 rfl rfl rfl rfl)<|e_p (zD yf rfl)<|e_p (zAa rfl rfl) ?_
 rw [show (decide (((n:Nat):Int)≠(((LL.getD 0 []).length:Nat):Int)))=false from by exact decide_eq_false om]
 refine e_p (zb rfl)<|zf<|zc<|zJ ?_
 exact zy Tryz.results102 () trivial (zo rfl) rfl (ho:=(.n:PickO _ _ _)) (.n:SelR _ _ _)
theorem zNe {bq:Nat} {pL:Option Addr} {nL:Nat} {cL:Nat} {LL:List (List Int)} (hnL:LL.length=nL) (hL1:1≤nL) (hU:∀i,i<nL→(LL.getD i []).length=(LL.getD 0 []).length):Con yh 139 [.slice pL nL cL,.func (.func 102) #[] #[.pointer (some ⟨bq,0,none⟩)]] [] [atF bq 0 [.slice pL nL cL],slF (rS (rI .i64)) pL cL LL] (Y:=Unit) (fun y=>True) (fun y=> .int .i64 (-1)) (fun y=>[]) (fun y=>[]):=by
 refine zl Tryz.func139 rfl rfl rfl (fun c=> ?_)
 show RunC _ _ _ _ _ [(0,.slice pL nL cL),(1,.func (.func 102) #[] #[.pointer (some ⟨bq,0,none⟩)])] [] [atF bq 0 [.slice pL nL cL],slF (rS (rI .i64)) pL cL LL]
 refine zY 1 rfl (fun hL1=> ?_)
 refine ze<|za<|e_p (zb rfl)<|zf<|zc<|ze<|ze<|za<|e_mv rfl<|e_p (zD yj rfl)<|e_mv rfl<|zf<|zc<|zt<|zea (X:=Nat) (fun x:Nat=>x≤nL) (fun x=>[(8,.int .i64 ((x:Nat):Int)),(7,.int .i64 ((nL:Nat):Int)),(0,.slice pL nL cL),(1,.func (.func 102) #[] #[.pointer (some ⟨bq,0,none⟩)])]) (fun x=>[]) (fun x=>[atF bq 0 [.slice pL nL cL],slF (rS (rI .i64)) pL cL LL]) (fun x:Nat=>nL - x) 0 (show 0≤nL from by exact Nat.zero_le _) ((.e rfl (by first|rfl|(congr 1;omega)|simp_all) (.of rfl)):SubM _ _) (ho:=(.n:PickO _ _ _)) ((.of [0,1] rfl):SelR _ _ _) ?_
 rintro i hI
 replace hI:i≤nL:=hI
 try dsimp only
 refine ze<|za<|e_p (zT rfl rfl)<|zf<|zc<|ze<|zB rfl (fun h1=> ?_) (fun h1=> ?_)
 ·
  refine zv<|zc<|ze<|zt<|ze<|za<|e_mv rfl<|e_p (zb rfl)<|zf<|zc<|ze<|za<|e_mv rfl<|e_mv rfl<|e_mv rfl<|r_vl rfl rfl (zka (x0:=(LL.getD i [])) 1 i rfl yj sz42 rfl cbo rfl rfl (gD (d:=[]) om)) ?_
  rintro ⟨b2,o3,p4,c5⟩ -
  dsimp only [aq,nq,cq]
  refine e_ru (zj (j:=0) 0 ty42 rfl rfl rfl rfl)<|zCc (first:=[]) (cap:=[.pointer (some ⟨bq,0,none⟩)]) rfl rfl rfl (.c rfl .n) ce102 (zxg (p:=p4) (n:=(LL.getD i []).length) (cap:=c5) (bq:=bq) (pL:=pL) (nL:=nL) (cL:=cL) (LL:=LL) (hnL:=ass) (hL1:=ass) (heq:=by first|rfl|assumption|omega|exact hU _ om)) (.c (j:=2) rfl (.c (j:=3) rfl .n)) ?_
  rintro ⟨⟩ -
  dsimp only [aq,nq,cq]
  refine zf<|zc<|zua rfl rfl<|zv<|zM<|zc<|za<|e_p (zH (z:=(((i+1):Nat):Int)) rfl rfl (w64 om))<|e_mv rfl<|zf<|zaa (i+1) (show (i+1)≤nL from by show i+1≤nL;omega) (by show nL - (i+1)<nL - i;omega) ((.of rfl):SubM _ _) (ho:=(.n:PickO _ _ _)) ((.of [2,3] rfl):SelR _ _ _)
 ·
  refine zda<|zi<|zi<|zr<|zc<|ze<|za<|e_p (zb rfl)<|zf<|zc<|zJ ?_
  exact zy Tryz.results139 () trivial (zo rfl) rfl (ho:=(.n:PickO _ _ _)) (.n:SelR _ _ _)
theorem zOe {bq:Nat} {pL:Option Addr} {nL:Nat} {cL:Nat} {LL:List (List Int)} (hnL:LL.length=nL) (hL1:1≤nL) (hU:∀i,i<nL→(LL.getD i []).length=(LL.getD 0 []).length):Con yh 101 [.slice pL nL cL,.func (.func 102) #[] #[.pointer (some ⟨bq,0,none⟩)]] [] [atF bq 0 [.slice pL nL cL],slF (rS (rI .i64)) pL cL LL] (Y:=Unit) (fun y=>True) (fun y=> .bool false) (fun y=>[]) (fun y=>[]):=by
 refine zl Tryz.func101 rfl rfl rfl (fun c=> ?_)
 show RunC _ _ _ _ _ [(0,.slice pL nL cL),(1,.func (.func 102) #[] #[.pointer (some ⟨bq,0,none⟩)])] [] [atF bq 0 [.slice pL nL cL],slF (rS (rI .i64)) pL cL LL]
 refine zY 1 rfl (fun hL1=> ?_)
 refine ze<|za<|e_p (zb rfl)<|zf<|zc<|ze<|za<|e_mv rfl<|e_mv rfl<|zQ rfl rfl (.c rfl (.c rfl .n)) ce139 (zNe (bq:=bq) (pL:=pL) (nL:=nL) (cL:=cL) (LL:=LL) (hnL:=ass) (hL1:=ass) (hU:=ass)) (.c (j:=0) rfl (.c (j:=1) rfl .n))<|e_p (zIa rfl rfl)<|e_p (zb rfl)<|zf<|zc<|zJ ?_
 exact zy Tryz.results101 () trivial (zo rfl) (congrArg Value.bool (decide_eq_false (show ¬(0:Int)≤ -1 by decide)).symm) (ho:=(.n:PickO _ _ _)) (.n:SelR _ _ _)
theorem zyg {pL:Option Addr} {nL:Nat} {cL:Nat} {LL:List (List Int)} {N:Nat} (hnL:LL.length=nL) (hL1:1≤nL) (hU:∀i,i<nL→(LL.getD i []).length=(LL.getD 0 []).length) (hK:nL≤64) (hL0:(LL.getD 0 []).length=N) (hN:1≤N∧N≤64):Con yh 68 [.slice pL nL cL] [] [slF (rS (rI .i64)) pL cL LL] (Y:=(Option Addr)×Nat) (fun y=>True) (fun y=> .tuple #[.slice (y.1) nL (y.2),.int .i64 0]) (fun y=>[]) (fun y=>[slF (rS rQ) (y.1) (y.2) (Mx.mk nL N (fun ii jj=>Mx.eI LL ii jj))]):=by
 refine zl Tryz.func68 rfl rfl rfl (fun c=> ?_)
 show RunC _ _ _ _ _ [(0,.slice pL nL cL)] [] [slF (rS (rI .i64)) pL cL LL]
 refine zY 0 rfl (fun hL0=> ?_)
 refine ze<|za<|zK rfl rfl (zU rfl rfl) (fun b1=> ?_)
 refine e_p (zb rfl)<|e_p (zb rfl)<|zf<|zc<|ze<|ze<|za<|e_ru (zg 0 ty88 rfl rfl rfl)<|e_p (zD yj rfl)<|e_p (zT rfl rfl) ?_
 rw [show (decide (((nL:Nat):Int)<1))=false from by exact decide_eq_false om]
 refine e_mv rfl<|e_ru (zg 0 ty88 rfl rfl rfl)<|e_p (zD yj rfl)<|e_p (zna rfl rfl) ?_
 rw [show (decide (64<((nL:Nat):Int)))=false from by exact decide_eq_false om]
 refine e_p (zn rfl rfl)<|e_mv rfl<|e_ru (zg 0 ty88 rfl rfl rfl)<|r_vl rfl rfl (zka (x0:=(LL.getD 0 [])) 0 0 rfl yj sz42 rfl cbo rfl rfl (gD (d:=[]) om)) ?_
 rintro ⟨b2,o3,p4,c5⟩ -
 dsimp only [aq,nq,cq]
 refine e_ru (zj (j:=0) 0 ty42 rfl rfl rfl rfl)<|e_p (zD yf rfl)<|e_p (zT rfl rfl) ?_
 rw [show (decide ((((LL.getD 0 []).length:Nat):Int)<1))=false from by exact decide_eq_false om]
 refine e_p (zn rfl rfl)<|e_mv rfl<|e_ru (zg 0 ty88 rfl rfl rfl)<|r_vl rfl rfl (zka (x0:=(LL.getD 0 [])) 2 0 rfl yj sz42 rfl cbo rfl rfl (gD (d:=[]) om)) ?_
 rintro ⟨b6,o7,p8,c9⟩ -
 dsimp only [aq,nq,cq]
 refine e_ru (zj (j:=0) 0 ty42 rfl rfl rfl rfl)<|e_p (zD yf rfl)<|e_p (zna rfl rfl) ?_
 rw [show (decide (64<(((LL.getD 0 []).length:Nat):Int)))=false from by exact decide_eq_false om]
 refine e_p (zn rfl rfl)<|zf<|zc<|zua rfl rfl<|zv<|zc<|ze<|ze<|zgb 0 rfl .z<|za<|e_ru (zj (j:=0) 0 ty88 rfl rfl rfl rfl)<|e_p (zHa .n (.c rfl .n))<|zQ rfl rfl (.c rfl (.c rfl .n)) ce101 (zOe (bq:=b1) (pL:=pL) (nL:=nL) (cL:=cL) (LL:=LL) (hnL:=ass) (hL1:=ass) (hU:=ass)) (.c (j:=0) rfl (.c (j:=5) rfl .n))<|zf<|zc<|zua rfl rfl<|zv<|zc<|ze<|zZ (OW:=[]) (O:=[emA]) 100000 mixed (.then .ret) kr<|e_u 0 rfl rfl (zj (j:=0) 0 ty88 rfl rfl rfl rfl)<|e_pv 1 rfl rfl (zD yj rfl)<|e_u 2 rfl rfl (zj (j:=0) 0 ty88 rfl rfl rfl rfl)<|d_vl 3 rfl rfl kr kr rfl rfl (zka (x0:=(LL.getD 0 [])) 5 0 rfl yj sz42 rfl cbo rfl rfl (gD (d:=[]) om)) ?_
 rintro ⟨b10,o11,p12,c13⟩ -
 dsimp only [aq,nq,cq]
 refine e_u 4 rfl rfl (zj (j:=0) 0 ty42 rfl rfl rfl rfl)<|e_pv 5 rfl rfl (zD yf rfl) ?_
 have e14:((((LL.getD 0 []).length:Nat):Int):Int)=((N:Nat):Int):=by omega
 rw [e14]
 refine e_pv 6 rfl rfl (zHa .n (.c rfl .n))<|e_one 7 (zC rfl rfl rfl rfl (.c rfl (.c rfl (.c rfl .n))) ce103 (zFe (K:=nL) (N:=N) (bq:=b1) (pL:=pL) (nL:=nL) (cL:=cL) (LL:=LL) (hK:=ass) (hN:=by first|rfl|assumption|omega|(intro i hi;rw [hU i hi];assumption)) (hnL:=ass) (hKL:=by first|rfl|assumption|omega|(intro i hi;rw [hU i hi];assumption)) (hrL:=by first|rfl|assumption|omega|(intro i hi;rw [hU i hi];assumption))) (.c (j:=2) rfl (.c (j:=7) rfl .n)) ?_)
 rintro ⟨p315,c316,hs17⟩ hy18
 dsimp only [aq,nq,cq]
 replace hy18:hs17.length=nL:=hy18
 refine e_pv 8 rfl rfl (zb rfl)<|e_pv 9 rfl rfl (zb rfl)<|zX kr<|zc<|zJ<|zQc (fun w mm=>mm.rmFreeze 0 1 rfl rfl ((Mx.mk_sm nL N _ hy18).hl) ((Mx.mk_sm nL N _ hy18).rl)) ?_
 try dsimp only [List.set]
 exact zqa Tryz.results68 (p315,c316) trivial (zo rfl) (zo rfl) rfl (ho:=(.n:PickO _ _ _)) ((.c (j:=0) rfl .n):SelR _ _ _)
theorem zbe {bM:Nat} {pM:Option Addr} {nM:Nat} {cM:Nat} (hn64:nM≤64):Con yh 106 [.pointer (some ⟨bM,0,none⟩)] [] [atF bM 0 [.slice pM nM cM]] (Y:=Unit) (fun y=>True) (fun y=> .int .i64 ((nM:Nat):Int)) (fun y=>[]) (fun y=>[]):=by
 refine zl Tryz.func106 rfl rfl rfl (fun c=> ?_)
 show RunC _ _ _ _ _ [(0,.pointer (some ⟨bM,0,none⟩))] [] [atF bM 0 [.slice pM nM cM]]
 refine ze<|za<|e_p (zb rfl)<|zf<|zc<|ze<|za<|e_ru (zj (j:=0) 0 ty91 rfl rfl rfl rfl)<|e_p (zD ye rfl)<|e_p (zb rfl)<|zf<|zc<|zJ ?_
 exact zy Tryz.results106 () trivial (zo rfl) rfl (ho:=(.n:PickO _ _ _)) (.n:SelR _ _ _)
theorem zCf {bM:Nat} {pM:Option Addr} {nM:Nat} {cM:Nat} {M:List (List Rat)} {p:Option Addr} {n:Nat} {cap:Nat} {l:List Rat} (hnM:M.length=nM) (hM1:1≤nM) (hU:∀i,i<nM→(M.getD i []).length=(M.getD 0 []).length) (hK:nM≤64) (hN:1≤(M.getD 0 []).length∧(M.getD 0 []).length≤64) (hn:l.length=n) (hnn:n=nM):Con yh 105 [.slice pM nM cM,.slice p n cap,.func (.func 106) #[] #[.pointer (some ⟨bM,0,none⟩)]] [] [atF bM 0 [.slice pM nM cM],slF (rS rQ) pM cM M,slF rQ p cap l] (Y:=Unit) (fun y=>True) (fun y=> .int .i64 0) (fun y=>[]) (fun y=>[]):=by
 refine zl Tryz.func105 rfl rfl rfl (fun c=> ?_)
 show RunC _ _ _ _ _ [(0,.slice pM nM cM),(1,.slice p n cap),(2,.func (.func 106) #[] #[.pointer (some ⟨bM,0,none⟩)])] [] [atF bM 0 [.slice pM nM cM],slF (rS rQ) pM cM M,slF rQ p cap l]
 refine zY 1 rfl (fun hL1=> ?_)
 refine zY 2 rfl (fun hL2=> ?_)
 refine ze<|za<|e_p (zb rfl)<|zf<|zc<|ze<|ze<|za<|e_mv rfl<|zQ rfl rfl (.c rfl .n) ce140 (zJe (pM:=pM) (nM:=nM) (cM:=cM) (M:=M) (hnM:=ass) (hM1:=ass) (hU:=ass) (hK:=ass) (hN:=ass)) (.c (j:=1) rfl .n)<|e_p (zb rfl)<|zf<|zc<|ze<|za<|e_mv rfl<|e_p (zAa rfl rfl)<|zf<|zc<|zua rfl rfl<|zv<|zc<|ze<|ze<|za<|e_mv rfl<|zQ rfl rfl (.c rfl .n) ce141 (zOb (p:=p) (n:=n) (cap:=cap) (l:=l) (hn:=ass)) (.c (j:=2) rfl .n)<|e_p (zAb rfl)<|zf<|zc<|zua rfl rfl<|zv<|zc<|ze<|ze<|za<|e_mv rfl<|e_p (zD yd rfl)<|e_mv rfl<|zCc (first:=[]) (cap:=[.pointer (some ⟨bM,0,none⟩)]) rfl rfl rfl (.n) ce106 (zbe (bM:=bM) (pM:=pM) (nM:=nM) (cM:=cM) (hn64:=ass)) (.c (j:=0) rfl .n) ?_
 rintro ⟨⟩ -
 dsimp only [aq,nq,cq]
 refine e_p (zAa rfl rfl)<|zf<|zc<|zB rfl (fun h20=> ?_) (fun h20=> ?_)
 ·
  exact absurd (show ((n:Nat):Int)=((nM:Nat):Int) by omega) h20
 ·
  refine zv<|zc<|ze<|za<|e_p (zb rfl)<|zf<|zc<|zJ ?_
  exact zy Tryz.results105 () trivial (zo rfl) rfl (ho:=(.n:PickO _ _ _)) (.n:SelR _ _ _)
end Go.Proofs.YtkohlohbogpooaaGreat.Sp
namespace Go.Proofs.YtkohlohbogpooaaGreat.Sp
open Go
set_option linter.unusedVariables false
set_option maxRecDepth 100000
set_option maxHeartbeats 8000000
theorem zPe {pA:Option Addr} {nA:Nat} {cA:Nat} {A:List (List Rat)} {p:Option Addr} {cap:Nat} {l:List Rat} {n9:Nat} {b:Nat} (hnM:A.length=nA) (hM1:1≤nA∧nA≤64) (hAr:∀i,i<nA→(A.getD i []).length=n9) (hN:1≤n9∧n9≤64) (hn:l.length=nA) (hb1:1≤b) (hbA:∀i c,ym (Mx.e A i c)≤b) (hbl:∀i,ym (l.getD i 0)≤b) (hH:Mx.H b n9≤200000) (hcons:Mx.Cons A l n9 nA):Con yh 69 [.slice pA nA cA,.slice p nA cap] [] [slF (rS rQ) pA cA A,slF rQ p cap l] (Y:=(Option Addr)×Nat×(List Rat)) (fun y=>y.2.2.length=n9∧(∀i,i<nA→Mx.sm n9 (fun c=>Mx.e A i c*y.2.2.getD c 0)=l.getD i 0)∧(∀c,ym (y.2.2.getD c 0)≤Mx.H b n9)) (fun y=> .tuple #[.slice (y.1) n9 (y.2.1),.int .i64 0]) (fun y=>[]) (fun y=>[slF rQ (y.1) (y.2.1) (y.2.2)]):=by
 refine zl Tryz.func69 rfl rfl rfl (fun c=> ?_)
 show RunC _ _ _ _ _ [(0,.slice pA nA cA),(1,.slice p nA cap)] [] [slF (rS rQ) pA cA A,slF rQ p cap l]
 refine zY 0 rfl (fun hL0=> ?_)
 refine zY 1 rfl (fun hL1=> ?_)
 have hA0:=hAr 0 om
 have hAu:∀i,i<nA→(A.getD i []).length=(A.getD 0 []).length:=fun i hi=>by rw [hAr i hi,hA0]
 refine ze<|za<|zK rfl rfl (zU rfl rfl) (fun b1=> ?_)
 refine e_p (zb rfl)<|e_p (zb rfl)<|zf<|zc<|ze<|ze<|zgb 0 rfl .z<|za<|e_ru (zj (j:=0) 0 ty91 rfl rfl rfl rfl)<|e_mv rfl<|e_p (zHa .n (.c rfl .n))<|zQ rfl rfl (.c rfl (.c rfl (.c rfl .n))) ce105 (zCf (bM:=b1) (pM:=pA) (nM:=nA) (cM:=cA) (M:=A) (p:=p) (n:=nA) (cap:=cap) (l:=l) (hnM:=ass) (hM1:=cbo) (hU:=cbo) (hK:=cbo) (hN:=cbo) (hn:=ass) (hnn:=cbo)) (.c (j:=0) rfl (.c (j:=1) rfl (.c (j:=2) rfl .n)))<|e_p (zb rfl)<|zf<|zc<|ze<|za<|e_mv rfl<|e_p (zAa rfl rfl)<|zf<|zc<|zua rfl rfl<|zv<|zc<|ze<|za<|e_ru (zj (j:=0) 0 ty91 rfl rfl rfl rfl)<|r_vl rfl rfl (zka (x0:=(A.getD 0 [])) 1 0 rfl ye sz56 rfl (by first|rfl|assumption|omega|exact Mx.ints_len _) rfl rfl (gD (d:=[]) om)) ?_
 rintro ⟨b2,o3,p4,c5⟩ -
 dsimp only [aq,nq,cq]
 refine e_ru (zj (j:=0) 0 ty56 rfl rfl rfl rfl)<|e_p (zD yd rfl) ?_
 have e6:((((A.getD 0 []).length:Nat):Int):Int)=((n9:Nat):Int):=by omega
 rw [e6]
 refine e_p (zb rfl)<|zf<|zc<|ze<|zZ (OW:=[]) (O:=[emA]) 100000 mixed (.then .ret) kr<|e_u 0 rfl rfl (zj (j:=0) 2 ty91 rfl rfl rfl rfl)<|e_dm 1 rfl rfl rfl<|e_one 2 (zC rfl rfl rfl rfl (.c rfl .n) ce108 (zLe (pV:=p) (nV:=nA) (cV:=cap) (lV:=l) (hnq:=ass) (hn64:=cbo)) (.c (j:=4) rfl .n) ?_)
 rintro ⟨p37,c38⟩ -
 dsimp only [aq,nq,cq]
 refine e_one 3 (zC rfl rfl rfl rfl (.c rfl (.c rfl .n)) ce107 (zMe (pA:=pA) (nA:=nA) (cA:=cA) (A:=A) (pB:=p37) (nB:=nA) (cB:=c38) (B:=(Mx.mk nA 1 (fun ii jj=>Mx.eC l ii jj))) (n9:=n9) (N:=(n9+1)) (hn64:=by first|rfl|assumption|omega|exact Mx.mk_len _ _ _|(rw [Mx.mk_row om];simp;done)|(intro i hi;rw [Mx.mk_row hi];simp;done)) (hnA:=by first|rfl|assumption|omega|exact Mx.mk_len _ _ _|(rw [Mx.mk_row om];simp;done)|(intro i hi;rw [Mx.mk_row hi];simp;done)) (hnB:=by first|rfl|assumption|omega|exact Mx.mk_len _ _ _|(rw [Mx.mk_row om];simp;done)|(intro i hi;rw [Mx.mk_row hi];simp;done)) (hA0:=by first|rfl|assumption|omega|exact Mx.mk_len _ _ _|(rw [Mx.mk_row om];simp;done)|(intro i hi;rw [Mx.mk_row hi];simp;done)) (hAB:=by first|rfl|assumption|omega|exact Mx.mk_len _ _ _|(rw [Mx.mk_row om];simp;done)|(intro i hi;rw [Mx.mk_row hi];simp;done)) (hA1:=by first|rfl|assumption|omega|exact Mx.mk_len _ _ _|(rw [Mx.mk_row om];simp;done)|(intro i hi;rw [Mx.mk_row hi];simp;done)) (hB0:=by first|rfl|assumption|omega|exact Mx.mk_len _ _ _|(rw [Mx.mk_row om];simp;done)|(intro i hi;rw [Mx.mk_row hi];simp;done)) (hN:=by first|rfl|assumption|omega|exact Mx.mk_len _ _ _|(rw [Mx.mk_row om];simp;done)|(intro i hi;rw [Mx.mk_row hi];simp;done)) (hAr:=by first|rfl|assumption|omega|exact Mx.mk_len _ _ _|(rw [Mx.mk_row om];simp;done)|(intro i hi;rw [Mx.mk_row hi];simp;done)) (hBr:=by first|rfl|assumption|omega|exact Mx.mk_len _ _ _|(rw [Mx.mk_row om];simp;done)|(intro i hi;rw [Mx.mk_row hi];simp;done))) (.c (j:=4) rfl (.c (j:=0) rfl .n)) ?_)
 rintro ⟨p39,c310,hs11⟩ hsl
 dsimp only [aq,nq,cq]
 replace hsl:hs11.length=nA:=hsl
 refine e_pv 4 rfl rfl (zb rfl)<|zX kr<|zc<|ze<|za<|e_mv rfl<|e_mv rfl<|zgg (zfa (i:=1) rfl)<|zgg (zfa (i:=1) rfl)<|zcf (A:=[rowA 56 rV p39 c310 (oh hs11 (n9+1)),rowsM 28 rQ hs11 (Mx.mk nA (n9+1) (fun ii jj=>Mx.eB A (Mx.mk nA 1 (fun ii jj=>Mx.eC l ii jj)) n9 ii jj))]) (F:=[emA]) (first:=[]) (cap:=[]) rfl rfl rfl (.c rfl (.c rfl .n)) ce109 (zKe (pA:=p39) (cA:=c310) (hs:=hs11) (M:=(Mx.mk nA (n9+1) (fun ii jj=>Mx.eB A (Mx.mk nA 1 (fun ii jj=>Mx.eC l ii jj)) n9 ii jj))) (K:=nA) (N:=(n9+1)) (nj:=n9) (b:=b) (hSm:=by exact Mx.mk_sm _ _ _ hsl) (hK:=cbo) (hN:=cbo) (hnN:=cbo) (hb0:=by exact Mx.aug_bd hb1 hbA hbl) (hH:=ass)) (.n) ?_
 rintro ⟨hs512,M5,qs,p313,c314⟩ hred
 dsimp only [aq,nq,cq]
 replace hred:Mx.Sm hs512 M5 nA (n9+1)∧Mx.Rd (n9+1) nA (Mx.mk nA (n9+1) (fun ii jj=>Mx.eB A (Mx.mk nA 1 (fun ii jj=>Mx.eC l ii jj)) n9 ii jj)) M5 n9 qs∧Mx.bd M5 (Mx.H b n9):=hred
 refine e_p (zb rfl)<|zf<|zc<|ze<|ze ?_
 obtain ⟨hS5,hRd,hb5⟩:=hred
 have hM5:=hS5.l
 have hqk:=hRd.plk
 have hqi:=Mx.ints_len qs
 refine zxd (fun w mm=>mm.rmFreeze 0 1 rfl rfl (hS5.hl) (hS5.rl)) ?_
 try dsimp only [List.set]
 refine zY 0 rfl (fun hLm=> ?_)
 have hdl:((M5.take nA).drop qs.length).length=nA - qs.length:=by rw [List.length_drop,List.length_take];omega
 refine za<|e_mv rfl<|e_mv rfl<|e_p (zD yf rfl)<|e_p (zdd (lo:=qs.length) (hi:=nA) ye sz56 rfl (.s rfl) .n (.inr ⟨_,rfl⟩) (.inl ⟨rfl,rfl⟩) om om)<|zCb (zee 0 rfl (qs.length) nA om om) (fun _ _=> ?_)
 refine e_p (zD ye rfl)<|e_mv rfl<|zf<|zc<|zt<|zea (X:=Nat) (fun x:Nat=>x≤nA - qs.length) (fun x=>[(39,.int .i64 ((x:Nat):Int)),(38,.int .i64 ((nA - qs.length:Nat):Int)),(37,.slice (newP p39 c310 (qs.length) 1) (nA - qs.length) (c310 - qs.length)),(9,.slice p313 (qs.length) c314),(8,.slice p39 nA c310),(7,.int .i64 ((n9:Nat):Int))]) (fun x=>[rowA 3 (rI .i64) p313 c314 (Mx.ints qs)]) (fun x=>[slF (rS rQ) (newP p39 c310 (qs.length) 1) (c310 - qs.length) ((M5.take nA).drop (qs.length)),slF (rS rQ) p39 c310 M5,slF (rS rQ) p37 c38 (Mx.mk nA 1 (fun ii jj=>Mx.eC l ii jj)),atF b2 o3 [.slice p4 ((A.getD 0 []).length) c5],slF rQ p4 c5 (A.getD 0 []),atF b1 0 [.slice pA nA cA],slF (rS rQ) pA cA A,slF rQ p cap l]) (fun x:Nat=>nA - qs.length - x) 0 (show 0≤nA - qs.length from by exact Nat.zero_le _) ((.e rfl (by first|rfl|(congr 1;omega)|simp_all) (.of rfl)):SubM _ _) (ho:=((.c (i:=2) rfl .n):PickO _ _ _)) ((.of [0,1,2,3,4,5,6,7] rfl):SelR _ _ _) ?_
 rintro i hI
 replace hI:i≤nA - qs.length:=hI
 try dsimp only
 refine ze<|za<|e_p (zT rfl rfl)<|zf<|zc<|ze<|zB rfl (fun h15=> ?_) (fun h15=> ?_)
 ·
  refine zv<|zc<|ze<|zt<|ze<|za<|r_vl rfl rfl (zka (x0:=(((M5.take nA).drop (qs.length)).getD i [])) 0 i rfl ye sz56 rfl (by first|rfl|assumption|omega|exact Mx.ints_len _) rfl rfl (gD (d:=[]) om)) ?_
  rintro ⟨b16,o17,p18,c19⟩ -
  dsimp only [aq,nq,cq]
  have e20:((M5.take nA).drop (qs.length)).getD i []=M5.getD (qs.length+i) []:=by exact Mx.td_getD om om
  rw [e20]
  have hrw:=hS5.row (show qs.length+i<nA by omega)
  refine e_ru (zj (j:=0) 0 ty56 rfl rfl rfl rfl)<|e_p (zb rfl)<|zf<|zc<|ze<|za<|e_mv rfl<|e_mv rfl<|r_vl rfl rfl (zka (x0:=((M5.getD (qs.length+i) []).getD n9 (0:Rat))) 1 n9 rfl yd sz28 rfl (by first|rfl|assumption|omega|exact Mx.ints_len _) rfl rfl (gD (d:=(0:Rat)) om)) ?_
  rintro ⟨b21,o22,w23,w24⟩ -
  dsimp only [aq,nq,cq]
  refine zFb open_rQ<|e_ru (zha (j:=0) 0 ty28 rfl rfl rfl (.t4 .nil))<|zQ rfl rfl (.c rfl .n) ce110 (zcc (k1:=true) (u1:=w23) (v1:=w24) (q1:=((M5.getD (qs.length+i) []).getD n9 (0:Rat)))) (.c (j:=1) rfl .n)<|e_p (zAa rfl rfl)<|zf<|zc<|zB rfl (fun h48=> ?_) (fun h48=> ?_)
  ·
   exact absurd (show Big.sgq ((M5.getD (qs.length+i) []).getD n9 0)=0 by rw [show (M5.getD (qs.length+i) []).getD n9 0=0 from Mx.cons_zero hcons hRd om om];rfl) h48
  ·
   refine zv<|zM<|zc<|za<|e_p (zH (z:=(((i+1):Nat):Int)) rfl rfl (w64 om))<|e_mv rfl<|zf<|zaa (i+1) (show (i+1)≤nA - qs.length from by show i+1≤nA - qs.length;omega) (by show nA - qs.length - (i+1)<nA - qs.length - i;omega) ((.of rfl):SubM _ _) (ho:=((.c (i:=0) rfl .n):PickO _ _ _)) ((.of [4,5,6,7,8,9,10,11] rfl):SelR _ _ _)
 ·
  refine zda<|zi<|zi<|zr<|zc<|ze<|za<|e_mv rfl<|zra rfl rfl (zCa (r:=rE) (k:=n9) (x0:=(none:Option Rat)) (γ0:=(wz,wz)) yd inf28 rfl rfl rfl rfl om om rfl (fun g _=>eF_wz g) dd) (fun b25 _=> ?_)
  refine e_p (zb rfl)<|zf<|zc<|ze<|ze<|za<|e_mv rfl<|e_p (zD yd rfl)<|e_mv rfl<|zf<|zc<|zt<|zea (X:=Nat) (fun x:Nat=>x≤n9) (fun x=>[(54,.int .i64 ((x:Nat):Int)),(53,.int .i64 ((n9:Nat):Int)),(12,.slice (some ⟨b25,0,none⟩) n9 n9),(9,.slice p313 (qs.length) c314),(8,.slice p39 nA c310),(7,.int .i64 ((n9:Nat):Int))]) (fun x=>[rowA 28 rE (some ⟨b25,0,none⟩) n9 (Mx.fil x n9 (fun _=>((0:Int):Rat))),rowA 3 (rI .i64) p313 c314 (Mx.ints qs)]) (fun x=>[slF (rS rQ) (newP p39 c310 (qs.length) 1) (c310 - qs.length) ((M5.take nA).drop (qs.length)),slF (rS rQ) p39 c310 M5,slF (rS rQ) p37 c38 (Mx.mk nA 1 (fun ii jj=>Mx.eC l ii jj)),atF b2 o3 [.slice p4 ((A.getD 0 []).length) c5],slF rQ p4 c5 (A.getD 0 []),atF b1 0 [.slice pA nA cA],slF (rS rQ) pA cA A,slF rQ p cap l]) (fun x:Nat=>n9 - x) 0 (show 0≤n9 from by exact Nat.zero_le _) ((.e rfl (by first|rfl|(congr 1;omega)|simp_all) (.of rfl)):SubM _ _) (ho:=((.e (i:=0) rfl (by first|rfl|exact congrArg _ (Mx.fil_start _ _)|(rw [Mx.fil_start])) (.c (i:=0) rfl .n)):PickO _ _ _)) ((.of [0,1,2,3,4,5,6,7] rfl):SelR _ _ _) ?_
  rintro j hJ
  replace hJ:j≤n9:=hJ
  try dsimp only
  refine ze<|za<|e_p (zT rfl rfl)<|zf<|zc<|ze<|zB rfl (fun h26=> ?_) (fun h26=> ?_)
  ·
   refine zv<|zc<|ze<|zt<|ze<|za<|e_mv rfl<|e_p (zb rfl)<|zf<|zc<|za<|e_mv rfl<|e_mv rfl<|zu rfl rfl (.c rfl .n) ce56 (zQa (z:=0) (hz:=cbo)) (.n) ?_
   rintro ⟨w327,w428⟩ -
   dsimp only [aq,nq,cq]
   refine e_p (zI (j:=j) yd sz28 rfl rfl rfl om)<|zza 0 rfl rfl rfl (zL (r:=rE) (j:=j) (x0:=(some ((0:Int):Rat))) (γ0:=(w327,w428)) rfl rfl (by first|omega|(rw [Mx.fil_len];omega)|(rw [Mx.xs_len];omega)) rfl rfl sz28 (fun g hr=>qF_e (Holds.get 0 rfl hr))) (fun _=> .z) (fun _ _=> ?_)
   refine zf<|zM<|zc<|za<|e_p (zH (z:=(((j+1):Nat):Int)) rfl rfl (w64 om))<|e_mv rfl<|zf<|zaa (j+1) (show (j+1)≤n9 from by show j+1≤n9;omega) (by show n9 - (j+1)<n9 - j;omega) ((.of rfl):SubM _ _) (ho:=((.e (i:=0) rfl (by first|rfl|(rw [Mx.fil_step om])) (.c (i:=0) rfl .n)):PickO _ _ _)) ((.of [1,2,3,4,5,6,7,8] rfl):SelR _ _ _)
  ·
   refine zda<|zi<|zi<|zr<|zc<|ze<|ze<|zxd (fun w mm=>mm.rowEQ (l2:=(Mx.xs M5 n9 qs 0)) 0 rfl (by rw [show j=n9 by omega];exact Mx.fil_xs _ _ _)) ?_
   try dsimp only [List.eraseIdx]
   refine za<|e_mv rfl<|e_p (zD yf rfl)<|e_mv rfl<|zf<|zc<|zt<|zea (X:=Nat) (fun x:Nat=>x≤qs.length) (fun x=>[(64,.int .i64 ((x:Nat):Int)),(63,.int .i64 ((qs.length:Nat):Int)),(62,.slice p313 (qs.length) c314),(12,.slice (some ⟨b25,0,none⟩) n9 n9),(8,.slice p39 nA c310),(7,.int .i64 ((n9:Nat):Int))]) (fun x=>[rowA 28 rQ (some ⟨b25,0,none⟩) n9 (Mx.xs M5 n9 qs x),rowA 3 (rI .i64) p313 c314 (Mx.ints qs)]) (fun x=>[slF (rS rQ) (newP p39 c310 (qs.length) 1) (c310 - qs.length) ((M5.take nA).drop (qs.length)),slF (rS rQ) p39 c310 M5,slF (rS rQ) p37 c38 (Mx.mk nA 1 (fun ii jj=>Mx.eC l ii jj)),atF b2 o3 [.slice p4 ((A.getD 0 []).length) c5],slF rQ p4 c5 (A.getD 0 []),atF b1 0 [.slice pA nA cA],slF (rS rQ) pA cA A,slF rQ p cap l]) (fun x:Nat=>qs.length - x) 0 (show 0≤qs.length from by exact Nat.zero_le _) ((.e rfl (by first|rfl|(congr 1;omega)|simp_all) (.of rfl)):SubM _ _) (ho:=((.of [0,0] rfl):PickO _ _ _)) ((.of [0,1,2,3,4,5,6,7] rfl):SelR _ _ _) ?_
   rintro i hT
   replace hT:i≤qs.length:=hT
   try dsimp only
   refine ze<|za<|e_p (zT rfl rfl)<|zf<|zc<|ze<|zB rfl (fun h29=> ?_) (fun h29=> ?_)
   ·
    refine zv<|zc<|ze<|zt<|ze<|za<|e_mv rfl<|e_ru (zca 1 i rfl yf sz3 rfl (by first|rfl|assumption|omega|exact Mx.ints_len _) rfl rfl om)<|r_vl rfl rfl (zE 1 i rfl ty3 rfl rfl (gD (d:=0) om) rfl) (fun _ hok30=> ?_)
    replace hok30:=zP.1 hok30
    have e31:(((Mx.ints qs).getD i 0):Int)=(((qs.getD i 0):Nat):Int):=by exact Mx.ints_get
    rw [e31]
    refine e_p (zb rfl)<|e_p (zb rfl)<|zf<|zc<|za<|e_mv rfl<|e_mv rfl<|e_mv rfl<|e_mv rfl<|r_vl rfl rfl (zka (x0:=(M5.getD i [])) 1 i rfl ye sz56 rfl (by first|rfl|assumption|omega|exact Mx.ints_len _) rfl rfl (gD (d:=[]) om)) ?_
    rintro ⟨b32,o33,p34,c35⟩ -
    dsimp only [aq,nq,cq]
    have hrw3:=hS5.row (show i<nA by omega)
    have hpl:=hRd.plt i om
    refine e_ru (zj (j:=0) 0 ty56 rfl rfl rfl rfl)<|e_mv rfl<|r_vl rfl rfl (zka (x0:=((M5.getD i []).getD n9 (0:Rat))) 1 n9 rfl yd sz28 rfl (by first|rfl|assumption|omega|exact Mx.ints_len _) rfl rfl (gD (d:=(0:Rat)) om)) ?_
    rintro ⟨b36,o37,w38,w39⟩ -
    dsimp only [aq,nq,cq]
    refine zFb open_rQ<|e_ru (zha (j:=0) 0 ty28 rfl rfl rfl (.t4 .nil))<|e_p (zI (j:=(qs.getD i 0)) yd sz28 rfl rfl rfl om)<|zza 0 rfl rfl rfl (zL (r:=rQ) (j:=(qs.getD i 0)) (x0:=((M5.getD i []).getD n9 (0:Rat))) (γ0:=(w38,w39)) rfl rfl (by first|omega|(rw [Mx.fil_len];omega)|(rw [Mx.xs_len];omega)) rfl rfl sz28 (fun g hr=>Holds.get 1 rfl hr)) (fun _=> .z) (fun _ _=> ?_)
    refine zf<|zM<|zc<|za<|e_p (zH (z:=(((i+1):Nat):Int)) rfl rfl (w64 om))<|e_mv rfl<|zf<|zaa (i+1) (show (i+1)≤qs.length from by show i+1≤qs.length;omega) (by show qs.length - (i+1)<qs.length - i;omega) ((.of rfl):SubM _ _) (ho:=((.e (i:=0) rfl (by first|rfl|(congr 1;omega)|simp_all) (.c (i:=0) rfl .n)):PickO _ _ _)) ((.of [4,5,6,7,8,9,10,11] rfl):SelR _ _ _)
   ·
    refine zda<|zi<|zi<|zr<|zc<|ze<|za<|e_mv rfl<|e_p (zb rfl)<|e_p (zb rfl)<|zf<|zc<|zJ ?_
    have e40:(Mx.xs M5 n9 qs i)=(Mx.xs M5 n9 qs qs.length):=by rw [show i=qs.length by omega]
    rw [e40]
    refine zbb 0 rfl .z ?_
    exact zqa Tryz.results69 (some ⟨b25,0,none⟩,n9,(Mx.xs M5 n9 qs qs.length)) (⟨Mx.xs_len _ _ _ _,Mx.sol_of hcons hRd,Mx.xs_hq (Nat.le_trans hb1 (Mx.H_mono b (Nat.zero_le n9))) hb5 qs.length⟩) (zo rfl) (zo rfl) rfl (ho:=(.n:PickO _ _ _)) ((.c (j:=0) rfl .n):SelR _ _ _)
end Go.Proofs.YtkohlohbogpooaaGreat.Sp
namespace Go.Proofs.YtkohlohbogpooaaGreat.Bl
def ok (ar l t r b sx sy xx xy yy ms mx my:Int):Prop:=
  (1≤ar∧ar≤4096)∧(0≤l∧l≤r)∧r≤63∧(0≤t∧t≤b)∧b≤63∧(ar*l≤sx∧sx≤ar*r)∧(ar*t≤sy∧sy≤ar*b)∧
  (0≤xx∧xx≤ar*63*63)∧(0≤xy∧xy≤ar*63*63)∧(0≤yy∧yy≤ar*63*63)∧(0≤ms∧ms≤ar*65535)∧(ms*l≤mx∧mx≤ms*r)∧(ms*t≤my∧my≤ms*b)
instance (ar l t r b sx sy xx xy yy ms mx my:Int):Decidable (ok ar l t r b sx sy xx xy yy ms mx my):=inferInstanceAs (Decidable (_∧_))
theorem mul_b {x y m n:Int} (hx:0≤x∧x≤m) (hy:0≤y∧y≤n):0≤x*y∧x*y≤m*n:=
  ⟨Int.mul_nonneg hx.1 hy.1,Int.mul_le_mul hx.2 hy.2 hy.1 (Int.le_trans hx.1 hx.2)⟩
def bd (ar l t r b sx sy xx xy yy ms mx my:Int):Prop:=
  (0≤ar∧ar≤1000000000000)∧(0≤sx∧sx≤1000000000000)∧(0≤sy∧sy≤1000000000000)∧(0≤xx∧xx≤1000000000000)∧(0≤xy∧xy≤1000000000000)∧(0≤yy∧yy≤1000000000000)∧(0≤ms∧ms≤1000000000000)∧(0≤mx∧mx≤1000000000000)∧(0≤my∧my≤1000000000000)
theorem c0 {p:Prop} [Decidable p]:(if p then (0:Int) else 1)=0↔p:=by split <;> simp_all
def rok (w h m:Int) (l:List Int):Prop:=(1≤w∧w≤64)∧(1≤h∧h≤64)∧(1≤m∧m≤65535)∧(l.length:Int)=w*h∧¬∃x∈l,x<0∨m<x
instance (w h m:Int) (l:List Int):Decidable (rok w h m l):=inferInstanceAs (Decidable (_∧_))
end Go.Proofs.YtkohlohbogpooaaGreat.Bl
namespace Go.Proofs.YtkohlohbogpooaaGreat.Rd
open Big
set_option linter.unusedVariables false
theorem getD_take {α:Type} {l:List α} {i:Nat} {d:α} (h:i<l.length):l.take (i+1)=l.take i++[l.getD i d]:=by
  rw [List.take_add_one,List.getD_eq_getElem?_getD,List.getElem?_eq_getElem h];rfl
theorem len18 {n:Nat} (h:n≤999999999999999999):(digs n).length≤2:=by
  have e:pw 2=1000000000000000000:=by decide
  exact digs_len (by omega)
theorem drop_le {l:List Int} (h:okL l) (k:Nat):valL (l.drop k)≤valL l:=by
  induction k with
  |zero=>rw [List.drop_zero];exact Int.le_refl _
  |succ k ih=>
    have a:=valL_drop l k
    have b:=valL_nonneg (okL_drop h (k+1))
    have c:=(okL_getD h k).1
    omega
theorem quo18 {nv d:Int} (h0:0≤nv) (h1:0≤d) (h2:d<1000000000) (h:nv*1000000000+d≤999999999999999999):nv≤(9223372036854775808 - d) / 1000000000:=by omega
theorem fq_floor (q:Rat):fq q.num (q.den:Int)=q.floor:=by
  have:(0:Int)<(q.den:Int):=by have:=q.den_pos;omega
  rw [Rat.floor_def];unfold fq;rw [if_pos this]
def sumL (l:List Rat):Rat:=l.foldl (· + ·) ((0:Int):Rat)
theorem sumL_take {l:List Rat} {i:Nat} (h:i<l.length):sumL (l.take (i+1))=sumL (l.take i)+l.getD i 0:=by
  unfold sumL;rw [getD_take (d:=0) h,List.foldl_append];rfl
def hqA (b:Nat) (l:List Rat):Prop:=∀i,hq (l.getD i 0)≤b
theorem hqA_cons {b:Nat} {x:Rat} {l:List Rat} (h:hq x≤b) (k:hqA b l):hqA b (x :: l):=fun i=>by
  cases i with
  |zero=>exact h
  |succ i=>exact k i
theorem hqA_nil {b:Nat} (h:1≤b):hqA b []:=fun i=>by show hq (0:Rat)≤b;rw [hq_zero];exact h
theorem sumL_hq {b:Nat} {l:List Rat} (h:hqA b l):∀i,hq (sumL (l.take i))≤1+i*(b+1)
  |0=>by show hq ((0:Int):Rat)≤_;have:hq ((0:Int):Rat)=1:=hq_zero;omega
  |i+1=>by
    have ih:=sumL_hq h i
    by_cases k:i<l.length
    · rw [sumL_take k]
      have a:=hq_add (sumL (l.take i)) (l.getD i 0)
      have c:=h i
      have e:(i+1)*(b+1)=i*(b+1)+(b+1):=by rw [Nat.add_mul,Nat.one_mul]
      omega
    · rw [show l.take (i + 1) = l.take i by rw [List.take_of_length_le (by omega), List.take_of_length_le (by omega)]]
      have e:(i+1)*(b+1)=i*(b+1)+(b+1):=by rw [Nat.add_mul,Nat.one_mul]
      omega
theorem dq {n d:Int} (hd:d≠0) (h1: -9223372036854775808≤n∧n≤9223372036854775807) (h2: -9223372036854775808≤d∧d≤9223372036854775807):hq (Rat.divInt n d)≤3:=by
  have a:=zgd h1.1 h1.2
  have b:=zgd h2.1 h2.2
  have:=hq_divInt (n:=n) hd;omega
def r2 (cx cy x y:Int):Rat:=Rat.divInt ((64*x+32 - cx)*(64*x+32 - cx)+(64*y+32 - cy)*(64*y+32 - cy)) 4096
def gn (A B:Rat) (cx cy x y:Int):Rat:=1+A*r2 cx cy x y+B*(r2 cx cy x y*r2 cx cy x y)
theorem sq_b {x N:Int} (h: -N≤x∧x≤N):0≤x*x∧x*x≤N*N:=by
  have h1:0≤N:=by omega
  have e:N*N - x*x=(N - x)*(N+x):=by grind
  have k:0≤(N - x)*(N+x):=Int.mul_nonneg (by omega) (by omega)
  exact ⟨by rcases Int.le_total 0 x with z|z;exact Int.mul_nonneg z z;exact Int.mul_nonneg_of_nonpos_of_nonpos z z,by omega⟩
theorem r2_hq {cx cy x y:Int} (hx: -1052736≤64*x+32 - cx∧64*x+32 - cx≤1052736) (hy: -1052736≤64*y+32 - cy∧64*y+32 - cy≤1052736):hq (r2 cx cy x y)≤3:=by
  have a:=sq_b hx
  have b:=sq_b hy
  unfold r2
  have h1:=zgd (z:=(64*x+32 - cx)*(64*x+32 - cx)+(64*y+32 - cy)*(64*y+32 - cy)) (by omega) (by omega)
  have h2:=zgd (z:=4096) (by decide) (by decide)
  have:=hq_divInt (n:=(64*x+32 - cx)*(64*x+32 - cx)+(64*y+32 - cy)*(64*y+32 - cy)) (d:=4096) (by decide)
  omega
theorem gn_sum (A B:Rat) (cx cy x y:Int):sumL [((1:Int):Rat),A*r2 cx cy x y,B*(r2 cx cy x y*r2 cx cy x y)]=gn A B cx cy x y:=by
  have h0:((0:Int):Rat)=0:=rfl
  have h1:((1:Int):Rat)=1:=rfl
  show ((((0:Int):Rat)+((1:Int):Rat))+A*r2 cx cy x y)+B*(r2 cx cy x y*r2 cx cy x y)=_
  rw [h0,h1];unfold gn;grind
def fl (q:Rat):Int:=(q+Rat.divInt 1 2).floor
def gr (q:Rat) (m:Int):Int:=if fl q<0 then 0 else if fl q<m then fl q else m
theorem int_div (k:Int):(k:Rat)=Rat.divInt k 1:=by
  rw [Rat.divInt_eq_div]
  have:((1:Int):Rat)=1:=rfl
  rw [this];grind
theorem half:Rat.divInt 1 2=1 / 2:=by decide +kernel
theorem lt_half {q:Rat} {k:Int}:q<Rat.divInt (2*k+1) 2↔fl q≤k:=by
  have e:Rat.divInt (2*k+1) 2+Rat.divInt 1 2=((k+1:Int):Rat):=by
    rw [Rat.divInt_add_divInt _ _ (by decide) (by decide),int_div (k+1),Rat.divInt_eq_divInt_iff (by decide) (by decide)]
    grind
  have:=Rat.floor_lt_iff (a:=q+Rat.divInt 1 2) (x:=k+1)
  unfold fl
  rw [← e] at this
  constructor
  · intro h
    have:=this.2 (by grind)
    omega
  · intro h
    have:=this.1 (by omega)
    grind
theorem fl_le {q:Rat} {k:Int} (h:q≤(k:Rat)):fl q≤k:=by
  refine lt_half.1 ?_
  have e:Rat.divInt (2*k+1) 2=(k:Rat)+Rat.divInt 1 2:=by
    rw [int_div k,Rat.divInt_add_divInt _ _ (by decide) (by decide),Rat.divInt_eq_divInt_iff (by decide) (by decide)]
    grind
  rw [e,half];grind
theorem gr_range (q:Rat) {m:Int} (hm:0≤m):0≤gr q m∧gr q m≤m:=by unfold gr;split;omega;split <;> omega
def in16 (g:Rat):Prop:=¬(sgq (g - Rat.divInt 1 16)<0∨0<sgq (g - ((16:Int):Rat)))
instance (g:Rat):Decidable (in16 g):=inferInstanceAs (Decidable (¬_))
def all16 (A B:Rat) (cx cy:Int) (w h:Nat):Prop:=∀y,y<h→∀x,x<w→in16 (gn A B cx cy (x:Int) (y:Int))
instance (A B:Rat) (cx cy:Int) (w h:Nat):Decidable (all16 A B cx cy w h):=inferInstanceAs (Decidable (∀y,y<h→∀x,x<w→in16 (gn A B cx cy (x:Int) (y:Int))))
def cent (cx cy:Int):Prop:= -0x100000≤cx∧cx≤0x100000∧ -0x100000≤cy∧cy≤0x100000
instance (cx cy:Int):Decidable (cent cx cy):=inferInstanceAs (Decidable (_∧_))
def ckC (x1 x2:Option Rat) (cx cy w h:Int):Int:=
  if x1.isSome=true∧x2.isSome=true then (if cent cx cy∧1≤w∧w≤64∧1≤h∧h≤64 then (if all16 (x1.getD 0) (x2.getD 0) cx cy w.toNat h.toNat then 0 else 15) else 2) else 1
theorem ckC_1 {x1 x2:Option Rat} {cx cy w h:Int} (k:¬(x1.isSome=true∧x2.isSome=true)):ckC x1 x2 cx cy w h=1:=if_neg k
theorem ckC_2 {x1 x2:Option Rat} {cx cy w h:Int} (k:x1.isSome=true∧x2.isSome=true) (k2:¬(cent cx cy∧1≤w∧w≤64∧1≤h∧h≤64)):ckC x1 x2 cx cy w h=2:=by unfold ckC;rw [if_pos k,if_neg k2]
theorem ckC_3 {x1 x2:Option Rat} {cx cy w h:Int} (k:x1.isSome=true∧x2.isSome=true) (k2:cent cx cy∧1≤w∧w≤64∧1≤h∧h≤64) {x y:Nat} (hx:x<w.toNat) (hy:y<h.toNat) (k3:¬in16 (gn (x1.getD 0) (x2.getD 0) cx cy (x:Int) (y:Int))):ckC x1 x2 cx cy w h=15:=by
  unfold ckC;rw [if_pos k,if_pos k2,if_neg fun z=>k3 (z y hy x hx)]
theorem ckC_0 {x1 x2:Option Rat} {cx cy w h:Int} (k:x1.isSome=true∧x2.isSome=true) (k2:cent cx cy∧1≤w∧w≤64∧1≤h∧h≤64) (k3:all16 (x1.getD 0) (x2.getD 0) cx cy w.toNat h.toNat):ckC x1 x2 cx cy w h=0:=by
  unfold ckC;rw [if_pos k,if_pos k2,if_pos k3]
theorem ckC_ok {x1 x2:Option Rat} {cx cy w h:Int} (k:ckC x1 x2 cx cy w h=0):(x1.isSome=true∧x2.isSome=true)∧(cent cx cy∧1≤w∧w≤64∧1≤h∧h≤64)∧all16 (x1.getD 0) (x2.getD 0) cx cy w.toNat h.toNat:=by
  unfold ckC at k
  by_cases h1:x1.isSome=true∧x2.isSome=true
  · rw [if_pos h1] at k
    by_cases h2:cent cx cy∧1≤w∧w≤64∧1≤h∧h≤64
    · rw [if_pos h2] at k
      by_cases h3:all16 (x1.getD 0) (x2.getD 0) cx cy w.toNat h.toNat
      · exact ⟨h1,h2,h3⟩
      · rw [if_neg h3] at k;exact absurd k (by decide)
    · rw [if_neg h2] at k;exact absurd k (by decide)
  · rw [if_neg h1] at k;exact absurd k (by decide)
theorem gn_hq {A B:Rat} {cx cy x y:Int} (hc:cent cx cy) (hx:0≤x∧x≤64) (hy:0≤y∧y≤64) (hA:hq A≤100) (hB:hq B≤100):hq (gn A B cx cy x y)≤300:=by
  unfold cent at hc
  have h1:=r2_hq (cx:=cx) (cy:=cy) (x:=x) (y:=y) (by omega) (by omega)
  have h2:=hq_mul A (r2 cx cy x y)
  have h3:=hq_mul (r2 cx cy x y) (r2 cx cy x y)
  have h4:=hq_mul B (r2 cx cy x y*r2 cx cy x y)
  have h5:=hq_add 1 (A*r2 cx cy x y)
  have h6:=hq_add (1+A*r2 cx cy x y) (B*(r2 cx cy x y*r2 cx cy x y))
  have h7:=hq_one
  unfold gn;omega
theorem sgn_neg {z:Int}:z.sign<0↔z<0:=by
  rcases Int.lt_trichotomy z 0 with h|h|h
  · have:=Int.sign_eq_neg_one_of_neg h;omega
  · subst h;decide
  · have:=Int.sign_eq_one_of_pos h;omega
theorem sumL2 (q r:Rat):sumL [q,r]=q+r:=by
  have h0:((0:Int):Rat)=0:=rfl
  show (((0:Int):Rat)+q)+r=_
  rw [h0];grind
theorem in16_le {g:Rat} (h:in16 g):0≤g∧g≤16:=by
  unfold in16 at h
  have h1:¬(g - Rat.divInt 1 16<0):=fun k=>h (.inl (sgq_lt.2 k))
  have h2:¬(0<g - ((16:Int):Rat)):=fun k=>h (.inr (sgq_pos.2 k))
  have e:Rat.divInt 1 16=1 / 16:=by decide +kernel
  have e2:((16:Int):Rat)=16:=rfl
  rw [e] at h1
  rw [e2] at h2
  grind
theorem fl_in {g:Rat} {p:Int} (hg:0≤g∧g≤16) (hp:0≤p∧p≤65535):fl ((p:Rat)*g)≤999999999999999999:=by
  have h1:(p:Rat)≤((65535:Int):Rat):=Rat.intCast_le_intCast.2 hp.2
  have h0:((0:Int):Rat)≤(p:Rat):=Rat.intCast_le_intCast.2 hp.1
  have e0:((0:Int):Rat)=0:=rfl
  have e1:((65535:Int):Rat)=65535:=rfl
  have e2:((999999999999999999:Int):Rat)=999999999999999999:=rfl
  refine fl_le ?_
  have a:=Rat.mul_nonneg (show 0≤(p:Rat) by rw [← e0];exact h0) (show 0≤16 - g by grind)
  rw [e2];rw [e1] at h1
  grind
def cor (A B:Rat) (cx cy:Int) (w:Nat) (m:Int) (l:List Int) (i:Nat):Int:=gr (((l.getD i 0:Int):Rat)*gn A B cx cy ((i%w:Nat):Int) ((i / w:Nat):Int)) m
theorem nat_of {a w:Nat} {h:Int} (e:(a:Int)=(w:Int)*h) (hh:0≤h):a=w*h.toNat:=by
  have e8:((h.toNat:Nat):Int)=h:=by omega
  rw [← e8] at e
  exact_mod_cast e
theorem xy_of {w h i:Nat} (hw:0<w) (hi:i<w*h):i%w<w∧i / w<h:=⟨Nat.mod_lt _ hw,Nat.div_lt_of_lt_mul hi⟩
def pz (i:Nat) (l:List Int) (f:Nat→Int):List Int:=(List.range l.length).map fun c=>if c<i then f c else l.getD c 0
theorem pz_len (i:Nat) (l:List Int) (f:Nat→Int):(pz i l f).length=l.length:=by unfold pz;simp
theorem pz_get {i c:Nat} {l:List Int} {f:Nat→Int} (h:c<l.length):(pz i l f).getD c 0=if c<i then f c else l.getD c 0:=by
  unfold pz;rw [List.getD_eq_getElem?_getD,List.getElem?_map,List.getElem?_range h];rfl
theorem ext_getI {a b:List Int} (h:a.length=b.length) (k:∀c,c<a.length→a.getD c 0=b.getD c 0):a=b:=by
  refine List.ext_getElem h fun i h1 h2=> ?_
  have:=k i h1
  rw [List.getD_eq_getElem?_getD,List.getD_eq_getElem?_getD,List.getElem?_eq_getElem h1,List.getElem?_eq_getElem h2] at this
  exact this
theorem getI_set {l:List Int} {i j:Nat} {x:Int} (h:i<l.length):(l.set i x).getD j 0=if j=i then x else l.getD j 0:=by
  rw [List.getD_eq_getElem?_getD,List.getElem?_set,List.getD_eq_getElem?_getD]
  by_cases k:i=j
  · subst k;simp [h]
  · rw [if_neg k,if_neg (fun x=>k x.symm)]
theorem pz_start (l:List Int) (f:Nat→Int):l=pz 0 l f:=ext_getI (by rw [pz_len]) fun c hc=>by rw [pz_get hc,if_neg (by omega)]
theorem pz_read {i:Nat} {l:List Int} {f:Nat→Int} (h:i<l.length):(pz i l f).getD i 0=l.getD i 0:=by rw [pz_get h,if_neg (by omega)]
theorem pz_step {i:Nat} {l:List Int} {f:Nat→Int} (h:i<l.length):(pz i l f).set i (f i)=pz (i+1) l f:=by
  refine ext_getI (by rw [List.length_set,pz_len,pz_len]) fun c hc=> ?_
  rw [List.length_set,pz_len] at hc
  rw [getI_set (by rw [pz_len];exact h),pz_get hc,pz_get hc]
  by_cases k:c=i
  · subst k;rw [if_pos rfl,if_pos (by omega)]
  · rw [if_neg k]
    by_cases q:c<i
    · rw [if_pos q,if_pos (by omega)]
    · rw [if_neg q,if_neg (by omega)]
def out (l:List Int) (f:Nat→Int):List Int:=(List.range l.length).map f
theorem pz_end (l:List Int) (f:Nat→Int):pz l.length l f=out l f:=by
  unfold pz out;exact List.map_congr_left fun c hc=>by rw [if_pos (List.mem_range.1 hc)]
theorem out_len (l:List Int) (f:Nat→Int):(out l f).length=l.length:=by unfold out;simp
end Go.Proofs.YtkohlohbogpooaaGreat.Rd
namespace Go.Proofs.YtkohlohbogpooaaGreat.Sp
open Go
set_option linter.unusedVariables false
set_option maxRecDepth 100000
set_option maxHeartbeats 8000000
theorem zQe {z:Int} {p:Option Addr} {cap:Nat} (hz:0≤z∧z≤999999999999999999):Con yh 93 [.agg #[.bool (decide (z<0)),.slice p ((yi ((z).natAbs)).length) cap]] [] [slF (rI .u32) p cap (yi ((z).natAbs))] (Y:=Unit) (fun y=>True) (fun y=> .tuple #[ya yb z,.bool true]) (fun y=>[]) (fun y=>[]):=by
 refine zIb Tryz.func93 rfl rfl rfl (fun c=> ?_)
 show RunC _ _ _ _ _ [(0,.agg #[.bool (decide (z<0)),.slice p ((yi ((z).natAbs)).length) cap])] [] [slF (rI .u32) p cap (yi ((z).natAbs))]
 refine zY 0 rfl (fun hL0=> ?_)
 have hdo:=Big.digs_ok z.natAbs
 have hdv:yu (yi z.natAbs)=z:=by rw [Big.valL_digs];omega
 have hdl:(yi z.natAbs).length≤2:=Rd.len18 om
 have hrz:Big.raw (decide (z<0)) (yi z.natAbs)=z:=Big.raw_big z
 refine ze<|za<|zK rfl rfl (zU rfl rfl) (fun b1=> ?_)
 refine zK rfl rfl (zw zr3 rfl) (fun b2=> ?_)
 refine zK rfl rfl (zw zr4 rfl) (fun b3=> ?_)
 refine zf<|zc<|ze<|za<|e_ru (zd 2 ty26 rfl rfl (.t2 .nil))<|zu rfl rfl (.c rfl .n) ce130 (zhb (z:=z) (p:=p) (cap:=cap)) (.c (j:=0) rfl .n) ?_
 rintro ⟨p24,c25⟩ -
 dsimp only [aq,nq,cq]
 refine e_p (zb rfl)<|zf<|zc<|ze<|ze<|za<|e_mv rfl<|e_p (zD Tryz.underlying24 rfl)<|e_p (zna rfl rfl)<|zf<|zc<|zB rfl (fun h12=> ?_) (fun h12=> ?_)
 ·
  exact absurd h12 om
 ·
  refine zv<|zc<|ze<|za<|zK rfl rfl (zw zr128 rfl) (fun b6=> ?_)
  refine zk 0 rfl rfl rfl rfl rfl sz128 rfl (.take .nil) .z<|zf<|zc<|ze<|ze<|za<|e_mv rfl<|zu rfl rfl (.c rfl .n) ce133 (zlb (p:=p24) (n:=(yi ((z).natAbs)).length) (cap:=c25)) (.n) ?_
  rintro b7 -
  dsimp only [aq,nq,cq]
  refine zf<|zc<|zt<|zfd (fa:=[atF b7 0 [.slice p24 ((yi ((z).natAbs)).length) c25],slF (rI .u32) p24 c25 (yi ((z).natAbs))]) (N:=((yi ((z).natAbs)).length)) (encs:=fun k=>[ya yb ((k:Nat):Int),.int .u32 ((yi ((z).natAbs)).getD k 0)]) rfl ce160 (back_u32 cbs) (fun _=>rfl) rfl (X:=Int) (Y:=Unit) (fun x k=>k≤(yi z.natAbs).length∧x=yu ((yi z.natAbs).drop k)) (fun y=>False) (fun x=>[boxA b6 128 [.int .u64 x],boxA b3 4 [.bool false],boxA b2 3 [ya yb 0],boxA b1 26 [.bool (decide (z<0)),.slice p ((yi ((z).natAbs)).length) cap]]) (fun x=>[slF (rI .u32) p cap (yi ((z).natAbs))]) (fun y=>[]) (fun y=>[]) (fun k=>[(7,.int .u32 ((yi ((z).natAbs)).getD k 0)),(16,.int .u32 ((yi ((z).natAbs)).getD k 0)),(15,ya yb ((k:Nat):Int)),(14,.func (.func 160) #[] #[yc (some ⟨b7,0,none⟩)]),(13,.slice p24 ((yi ((z).natAbs)).length) c25),(5,yc (some ⟨b6,0,none⟩)),(12,.bool (decide (3<(((yi ((z).natAbs)).length:Nat):Int)))),(11,ya yb (((yi ((z).natAbs)).length:Nat):Int)),(10,.slice p24 ((yi ((z).natAbs)).length) c25),(4,.slice p24 ((yi ((z).natAbs)).length) c25),(9,.slice p24 ((yi ((z).natAbs)).length) c25),(8,.agg #[.bool (decide (z<0)),.slice p ((yi ((z).natAbs)).length) cap]),(3,yc (some ⟨b3,0,none⟩)),(2,yc (some ⟨b2,0,none⟩)),(1,yc (some ⟨b1,0,none⟩)),(0,.agg #[.bool (decide (z<0)),.slice p ((yi ((z).natAbs)).length) cap])]) (0:Int) (show ((yi ((z).natAbs)).length)≤(yi z.natAbs).length∧(0:Int)=yu ((yi z.natAbs).drop ((yi ((z).natAbs)).length)) from by exact ⟨Nat.le_refl _,by rw [List.drop_length];rfl⟩) (ho:=((.e (i:=0) rfl (by first|rfl|(congr 1;omega)|simp_all) (.of [0,0,0] rfl)):PickO _ _ _)) ((.of [0,1,2] rfl):SelR _ _ _) ?_ ?_ ?_ ?_
  ·
   intro l k O' R' Q' hP
   refine za<|e_p (zb rfl)<|zf ?_
   exact hP
  ·
   rintro l8 D9 o10 o11 nv k hkN hI
   replace hI:(k+1)≤(yi z.natAbs).length∧nv=yu ((yi z.natAbs).drop (k+1)):=hI
   try dsimp only
   have hg1:=Big.okL_getD hdo k
   have hvd:=Big.valL_drop (yi z.natAbs) k
   have hv0:=Big.valL_nonneg (Big.okL_drop hdo (k+1))
   have hvk:=Rd.drop_le hdo k
   have hq1:=Rd.quo18 (nv:=yu ((yi z.natAbs).drop (k+1))) hv0 hg1.1 hg1.2 (show yu ((yi z.natAbs).drop (k+1))*1000000000+(yi z.natAbs).getD k 0≤999999999999999999 by omega)
   refine zt<|ze<|ze<|za<|e_ru (zg 2 ty128 rfl rfl rfl)<|e_mv rfl<|e_p (zA (z:=((yi ((z).natAbs)).getD k 0)) rfl (by rw [Tryz.underlying115];rfl) yo (wu64 om))<|e_p (zja (z:=(9223372036854775808 - ((yi ((z).natAbs)).getD k 0))) rfl rfl (wu64 om))<|e_p (zSa (z:=((9223372036854775808 - ((yi ((z).natAbs)).getD k 0)) / 1000000000)) rfl rfl om (by rw [quoN (z:=((9223372036854775808 - ((yi ((z).natAbs)).getD k 0)) / 1000000000)) om om];exact wu64 om))<|e_p (zna rfl rfl)<|zf<|zc<|zB rfl (fun h22=> ?_) (fun h22=> ?_)
   ·
    exact absurd h22 om
   ·
    refine zv<|zc<|za<|e_ru (zg 2 ty128 rfl rfl rfl)<|e_p (zwa (z:=(nv*1000000000)) rfl rfl (wu64 om))<|e_mv rfl<|e_p (zA (z:=((yi ((z).natAbs)).getD k 0)) rfl (by rw [Tryz.underlying115];rfl) yo (wu64 om))<|e_p (zH (z:=((nv*1000000000)+((yi ((z).natAbs)).getD k 0))) rfl rfl (wu64 om))<|zk 2 rfl rfl rfl rfl rfl sz128 rfl (.take .nil) (.s (.s .z))<|zf<|zM ?_
    exact zed ((nv*1000000000)+((yi ((z).natAbs)).getD k 0)) (show k≤(yi z.natAbs).length∧((nv*1000000000)+((yi ((z).natAbs)).getD k 0))=yu ((yi z.natAbs).drop k) from by exact ⟨by omega,by omega⟩) (ho:=((.of [0,0,0,0,0,0] rfl):PickO _ _ _)) ((.of [0,1,2] rfl):SelR _ _ _)
  ·
   rintro D12 nv hI
   replace hI:0≤(yi z.natAbs).length∧nv=yu ((yi z.natAbs).drop 0):=hI
   try dsimp only
   have hnz:nv=z:=by have h9:=hI.2;rw [List.drop_zero] at h9;omega
   refine zM<|zc<|ze<|zt<|zGa (X:=Unit) (fun x=>True) (fun x=>[(28,.bool (decide ((0<(((yi ((z).natAbs)).length:Nat):Int))∧((decide (z<0))=true)))),(5,yc (some ⟨b6,0,none⟩)),(3,yc (some ⟨b3,0,none⟩)),(2,yc (some ⟨b2,0,none⟩))]) (fun x=>[objA D12 (.deferred (some [])),boxA b6 128 [.int .u64 nv],boxA b3 4 [.bool false],boxA b2 3 [ya yb 0],boxA b1 26 [.bool (decide (z<0)),.slice p ((yi ((z).natAbs)).length) cap]]) (fun x=>[atF b7 0 [.slice p24 ((yi ((z).natAbs)).length) c25],slF (rI .u32) p24 c25 (yi ((z).natAbs)),slF (rI .u32) p cap (yi ((z).natAbs))]) ?_ ?_
   ·
    refine za<|e_mv rfl<|e_p (zD Tryz.underlying24 rfl)<|e_p (zna rfl rfl)<|zW rfl rfl (zba rfl) (fun h13=> ?_) (fun h13=> ?_)
    ·
     refine e_p (zh Tryz.underlying26 rfl sz4 rfl rfl)<|e_ru (zg 4 ty4 rfl rfl rfl)<|e_p (zn rfl rfl)<|e_p (zb rfl)<|zf ?_
     exact zia () (show True from by first|trivial|omega|simp_all) ((.e rfl (congrArg Value.bool cbu) (.of rfl)):SubM _ _) (ho:=((.of [0,0,0,0,0] rfl):PickO _ _ _)) ((.of [0,1,2] rfl):SelR _ _ _)
    ·
     refine e_no<|e_no<|e_p (zn rfl rfl)<|e_p (zb rfl)<|zf ?_
     exact zia () (show True from by first|trivial|omega|simp_all) ((.e rfl (congrArg Value.bool cbu) (.of rfl)):SubM _ _) (ho:=((.of [0,0,0,0,0] rfl):PickO _ _ _)) ((.of [0,1,2] rfl):SelR _ _ _)
   ·
    rintro ⟨⟩ -
    try dsimp only
    refine zB rfl (fun h28=> ?_) (fun h28=> ?_)
    ·
     exact absurd h28.2 (by simp;omega)
    ·
     refine ze<|za<|e_ru (zg 1 ty128 rfl rfl rfl)<|e_p (zta rfl rfl)<|e_p (zb rfl)<|zf<|zc<|zB rfl (fun h39=> ?_) (fun h39=> ?_)
     ·
      exact absurd h39 om
     ·
      refine zv<|zM<|zc<|ze<|za<|e_ru (zg 1 ty128 rfl rfl rfl)<|e_p (zA (z:=nv) rfl (by rw [yo];rfl) Tryz.underlying3 (w64 om))<|zk 3 rfl rfl rfl rfl rfl sz3 rfl (.take .nil) (.s (.s (.s .z)))<|zk 2 rfl rfl rfl rfl rfl sz4 rfl (.take .nil) (.s (.s .z))<|zf<|zc<|zJ<|zwd 0 rfl rfl ?_
      exact zqa Tryz.results93 () trivial (zZa 2 ty3 rfl rfl rfl) (zZa 1 ty4 rfl rfl rfl) (by rw [hnz]) (ho:=(.n:PickO _ _ _)) (.n:SelR _ _ _)
  ·
   intro _ _ h;exact h.elim
theorem zRe {w1:Wd} {z:Int} (hz:0≤z∧z≤999999999999999999):Con yh 93 [.agg #[w1.b,w1.l]] [] [zF w1 (z)] (Y:=Unit) (fun y=>True) (fun y=> .tuple #[ya yb (z),.bool true]) (fun y=>[]) (fun y=>[]):=by
  exact zXc (fun p c=>zQe hz)
theorem zDf {k1:Bool} {u1:Wd} {v1:Wd} {q1:Rat} (hl:ym q1≤1099511627776):Con yh 91 [.agg #[u1.b,u1.l,v1.b,v1.l]] [] [qF k1 u1 v1 q1] (Y:=Wd) (fun y=>True) (fun y=> .agg #[y.b,y.l]) (fun y=>[]) (fun y=>[zF y (q1.floor)]):=by
 refine zl Tryz.func91 rfl rfl rfl (fun c=> ?_)
 show RunC _ _ _ _ _ [(0,.agg #[u1.b,u1.l,v1.b,v1.l])] [] [qF k1 u1 v1 q1]
 have a1:=Big.hq_num q1
 have a2:=Big.hq_den q1
 have hdn:=Big.den_ne q1
 refine ze<|za<|zK rfl rfl (zU rfl rfl) (fun b1=> ?_)
 refine zK rfl rfl (zw zr26 rfl) (fun b2=> ?_)
 refine zf<|zc<|ze<|za<|e_ru (zd 1 ty28 rfl rfl (.t4 .nil))<|zu rfl rfl (.c rfl .n) ce87 (zya (k1:=k1) (u1:=u1) (v1:=v1) (q1:=q1)) (.c (j:=0) rfl .n) ?_
 rintro ⟨w33,w44⟩ -
 dsimp only [aq,nq,cq]
 refine zk 1 rfl rfl rfl rfl rfl sz28 rfl (.t4 .nil) (.s .z)<|zf<|zc<|ze<|za<|e_p (zh yn rfl sz26 rfl rfl)<|e_ru (zd 1 ty26 rfl rfl (.t2 .nil))<|e_p (zh yn rfl sz26 rfl rfl)<|e_ru (zd 1 ty26 rfl rfl (.s2 (.t2 .nil)))<|zCb (qF_open 0 rfl) (fun _ _=> ?_)
 refine zu rfl rfl (.c rfl (.c rfl .n)) ce132 (zib (w1:=w33) (w2:=w44) (x1:=(q1).num) (x2:=(((q1).den:Nat):Int)) (hb1:=by first|rfl|assumption|omega|(rw [Big.zO];omega)|(decide +kernel)) (hb2:=by first|rfl|assumption|omega|(rw [Big.zO];omega)|(decide +kernel)) (hy:=by first|rfl|assumption|omega|(rw [Big.zO];omega)|(decide +kernel))) (.c (j:=0) rfl (.c (j:=1) rfl .n)) ?_
 rintro ⟨w35,w46⟩ -
 dsimp only [aq,nq,cq]
 refine e_mv rfl<|e_p (zq rfl rfl)<|e_p (zq rfl rfl)<|e_p (zq rfl rfl)<|zK rfl rfl (zw zr26 rfl) (fun b7=> ?_)
 refine zK rfl rfl (zw zr26 rfl) (fun b8=> ?_)
 refine zk 1 rfl rfl rfl rfl rfl sz26 rfl (.t2 .nil) (.s .z)<|zk 0 rfl rfl rfl rfl rfl sz26 rfl (.t2 .nil) .z<|e_p (zb rfl)<|zf<|zc<|ze<|za<|e_ru (zd 1 ty26 rfl rfl (.t2 .nil))<|zk 2 rfl rfl rfl rfl rfl sz26 rfl (.t2 .nil) (.s (.s .z))<|zf<|zc<|zJ ?_
 exact zy Tryz.results91 w35 trivial (zp 2 ty26 rfl rfl (.t2 .nil)) rfl (ho:=(.n:PickO _ _ _)) ((.e (j:=0) rfl (by rw [Rd.fq_floor]) .n):SelR _ _ _)
theorem zzg {p:Option Addr} {n:Nat} {cap:Nat} {l:List Rat} (hn:l.length=n) (hn9:n≤9) (hl:Rd.hqA 5000 l):Con yh 118 [.slice p n cap] [] [slF rQ p cap l] (Y:=Wd×Wd) (fun y=>True) (fun y=> .agg #[y.1.b,y.1.l,y.2.b,y.2.l]) (fun y=>[]) (fun y=>[qF true y.1 y.2 (Rd.sumL l)]):=by
 refine zl Tryz.func118 rfl rfl rfl (fun c=> ?_)
 show RunC _ _ _ _ _ [(0,.slice p n cap)] [] [slF rQ p cap l]
 refine zY 0 rfl (fun hL0=> ?_)
 refine ze<|za<|zK rfl rfl (zw zr28 rfl) (fun b1=> ?_)
 refine zf<|zc<|ze<|za<|zu rfl rfl (.c rfl .n) ce56 (zQa (z:=0) (hz:=by first|rfl|assumption|omega|(have h1:=Rd.sumL_hq hl i;have h2:=hl i;have h3:i*5001≤9*5001:=Nat.mul_le_mul_right _ om;omega))) (.n) ?_
 rintro ⟨w32,w43⟩ -
 dsimp only [aq,nq,cq]
 refine zK rfl rfl (zw zr28 rfl) (fun b4=> ?_)
 refine zk 0 rfl rfl rfl rfl rfl sz28 rfl (.t4 .nil) .z<|zf<|zc<|ze<|ze<|za<|e_mv rfl<|e_p (zD yd rfl)<|e_mv rfl<|zf<|zc<|zt<|zea (X:=Nat×Wd×Wd) (fun x:Nat×Wd×Wd=>x.1≤n) (fun x=>[(9,ya yb ((x.1:Nat):Int)),(8,ya yb ((n:Nat):Int)),(7,.slice p n cap),(3,yc (some ⟨b4,0,none⟩)),(2,yc (some ⟨b1,0,none⟩))]) (fun x=>[boxA b4 28 (cw [x.2.1,x.2.2]),boxA b1 28 (cw [wz,wz])]) (fun x=>[qF true x.2.1 x.2.2 (Rd.sumL (l.take x.1)),qF true w32 w43 ((0:Int):Rat),slF rQ p cap l]) (fun x:Nat×Wd×Wd=>n - x.1) (0,w32,w43) (show 0≤n from by exact Nat.zero_le _) ((.e rfl (by first|rfl|(congr 1;omega)|simp_all) (.of rfl)):SubM _ _) (ho:=((.of [0,0] rfl):PickO _ _ _)) ((.e (j:=0) rfl (by rfl) (.of [0,1] rfl)):SelR _ _ _) ?_
 rintro ⟨i,wa,wb⟩ hI
 replace hI:i≤n:=hI
 try dsimp only [cw]
 refine ze<|za<|e_p (zT rfl rfl)<|zf<|zc<|ze<|zB rfl (fun h5=> ?_) (fun h5=> ?_)
 ·
  refine zv<|zc<|ze<|zt<|ze<|za<|r_vl rfl rfl (zka (x0:=(l.getD i (0:Rat))) 2 i rfl yd sz28 rfl cbs rfl rfl (gD (d:=(0:Rat)) om)) ?_
  rintro ⟨b6,o7,w8,w9⟩ -
  dsimp only [aq,nq,cq]
  refine zFb open_rQ<|e_ru (zha (j:=0) 0 ty28 rfl rfl rfl (.t4 .nil))<|zK rfl rfl (zw zr28 rfl) (fun b10=> ?_)
  refine zk 0 rfl rfl rfl rfl rfl sz28 rfl (.t4 .nil) .z<|zf<|zc<|za<|e_ru (zd 1 ty28 rfl rfl (.t4 .nil))<|e_ru (zd 0 ty28 rfl rfl (.t4 .nil))<|zu rfl rfl (.c rfl (.c rfl .n)) ce114 (zre (k1:=true) (u1:=wa) (v1:=wb) (q1:=(Rd.sumL (l.take i))) (k2:=true) (u2:=w8) (v2:=w9) (q2:=(l.getD i (0:Rat))) (hl:=by first|rfl|assumption|omega|(have h1:=Rd.sumL_hq hl i;have h2:=hl i;have h3:i*5001≤9*5001:=Nat.mul_le_mul_right _ om;omega))) (.c (j:=2) rfl (.c (j:=1) rfl .n)) ?_
  rintro ⟨w311,w412⟩ -
  dsimp only [aq,nq,cq]
  refine zk 1 rfl rfl rfl rfl rfl sz28 rfl (.t4 .nil) (.s .z)<|zf<|zM<|zc<|za<|e_p (zH (z:=(((i+1):Nat):Int)) rfl rfl (w64 om))<|e_mv rfl<|zf<|zaa ((i+1),w311,w412) (show (i+1)≤n from by show i+1≤n;omega) (by show n - (i+1)<n - i;omega) ((.of rfl):SubM _ _) (ho:=((.of [1,1] rfl):PickO _ _ _)) ((.e (j:=0) rfl (by rw [Rd.sumL_take om]) (.of [4,5] rfl)):SelR _ _ _)
 ·
  refine zda<|zi<|zi<|zr<|zc<|ze<|za<|e_ru (zd 0 ty28 rfl rfl (.t4 .nil))<|zk 1 rfl rfl rfl rfl rfl sz28 rfl (.t4 .nil) (.s .z)<|zf<|zc<|zJ ?_
  have hfin:l.take i=l:=List.take_of_length_le om
  exact zy Tryz.results118 (wa,wb) trivial (zp 1 ty28 rfl rfl (.t4 .nil)) rfl (ho:=(.n:PickO _ _ _)) ((.e (j:=0) rfl (by rw [hfin]) .n):SelR _ _ _)
theorem zte {p:Option Addr} {n:Nat} {cap:Nat} {l:List Rat} (hn:l.length=n) (hn9:n≤9) (hl:Rd.hqA 5000 l):Con yh 80 [.slice p n cap] [] [slF rQ p cap l] (Y:=Wd×Wd) (fun y=>True) (fun y=> .agg #[y.1.b,y.1.l,y.2.b,y.2.l]) (fun y=>[]) (fun y=>[qF true y.1 y.2 (Rd.sumL l)]):=by
 refine zl Tryz.func80 rfl rfl rfl (fun c=> ?_)
 show RunC _ _ _ _ _ [(0,.slice p n cap)] [] [slF rQ p cap l]
 refine zY 0 rfl (fun hL0=> ?_)
 refine ze<|za<|zK rfl rfl (zw zr28 rfl) (fun b1=> ?_)
 refine zf<|zc<|ze<|za<|e_mv rfl<|zu rfl rfl (.c rfl .n) ce118 (zzg (p:=p) (n:=n) (cap:=cap) (l:=l) (hn:=ass) (hn9:=ass) (hl:=ass)) (.c (j:=0) rfl .n) ?_
 rintro ⟨w32,w43⟩ -
 dsimp only [aq,nq,cq]
 refine zk 0 rfl rfl rfl rfl rfl sz28 rfl (.t4 .nil) .z<|zf<|zc<|zJ ?_
 exact zy Tryz.results80 (w32,w43) trivial (zp 0 ty28 rfl rfl (.t4 .nil)) rfl (ho:=(.n:PickO _ _ _)) ((.c (j:=0) rfl .n):SelR _ _ _)
theorem zpd {cx:Int} {cy:Int} {u1:Wd} {v1:Wd} {q1:Rat} {u2:Wd} {v2:Wd} {q2:Rat} {x9:Int} {y9:Int} (hce: -0x100000≤(cx:Int)∧(cx:Int)≤0x100000∧ -0x100000≤(cy:Int)∧(cy:Int)≤0x100000) (hxy:0≤x9∧x9≤64∧0≤y9∧y9≤64) (hqA:ym q1≤100) (hqB:ym q2≤100):Con yh 52 [.agg #[ya yb cx,ya yb cy,u1.b,u1.l,v1.b,v1.l,u2.b,u2.l,v2.b,v2.l],ya yb x9,ya yb y9] [] [qF true u1 v1 q1,qF true u2 v2 q2] (Y:=Wd×Wd) (fun y=>True) (fun y=> .agg #[y.1.b,y.1.l,y.2.b,y.2.l]) (fun y=>[]) (fun y=>[qF true y.1 y.2 (Rd.gn q1 q2 cx cy x9 y9)]):=by
 refine zl Tryz.func52 rfl rfl rfl (fun c=> ?_)
 show RunC _ _ _ _ _ [(0,.agg #[ya yb cx,ya yb cy,u1.b,u1.l,v1.b,v1.l,u2.b,u2.l,v2.b,v2.l]),(1,ya yb x9),(2,ya yb y9)] [] [qF true u1 v1 q1,qF true u2 v2 q2]
 obtain ⟨hc1,hc2,hc3,hc4⟩:=hce
 obtain ⟨hx1,hx2,hy1,hy2⟩:=hxy
 have hs1:=Rd.sq_b (x:=64*x9+32 - cx) (N:=1052736) om
 have hs2:=Rd.sq_b (x:=64*y9+32 - cy) (N:=1052736) om
 have hr2:=Rd.r2_hq (cx:=cx) (cy:=cy) (x:=x9) (y:=y9) om om
 have hm1:=yr q1 (Rd.r2 cx cy x9 y9)
 have hm2:=yr (Rd.r2 cx cy x9 y9) (Rd.r2 cx cy x9 y9)
 have hm3:=yr q2 ((Rd.r2 cx cy x9 y9)*(Rd.r2 cx cy x9 y9))
 have h1q:ym ((1:Int):Rat)=1:=Big.hq_one
 refine ze<|za<|zK rfl rfl (zU rfl rfl) (fun b1=> ?_)
 refine zK rfl rfl (zw zr28 rfl) (fun b2=> ?_)
 refine zf<|zc<|ze<|zZ (OW:=[]) (O:=[boxA b2 28 (cw [wz,wz]),boxA b1 30 [ya yb cx,ya yb cy,u1.b,u1.l,v1.b,v1.l,u2.b,u2.l,v2.b,v2.l]]) 100000 mixed (.then .ret) kr<|e_dm 0 rfl rfl rfl<|e_pv 1 rfl rfl (zwa (z:=(64*x9)) rfl rfl (w64 om))<|e_pv 2 rfl rfl (zH (z:=((64*x9)+32)) rfl rfl (w64 om))<|e_pv 3 rfl rfl (zh yk rfl sz23 rfl rfl)<|e_pv 4 rfl rfl (zh yl rfl sz3 rfl rfl)<|e_u 5 rfl rfl (zg 1 ty3 rfl rfl rfl)<|e_pv 6 rfl rfl (zja (z:=(((64*x9)+32) - cx)) rfl rfl (w64 om))<|e_dm 7 rfl rfl rfl<|e_pv 8 rfl rfl (zwa (z:=(64*y9)) rfl rfl (w64 om))<|e_pv 9 rfl rfl (zH (z:=((64*y9)+32)) rfl rfl (w64 om))<|e_pv 10 rfl rfl (zh yk rfl sz23 rfl rfl)<|e_pv 11 rfl rfl (zh yl rfl sz3 rfl rfl)<|e_u 12 rfl rfl (zg 1 ty3 rfl rfl rfl)<|e_pv 13 rfl rfl (zja (z:=(((64*y9)+32) - cy)) rfl rfl (w64 om))<|e_pv 14 rfl rfl (zb rfl)<|e_pv 15 rfl rfl (zb rfl)<|zX kr<|zc<|ze<|za<|e_mv rfl<|e_mv rfl<|e_p (zwa (z:=((((64*x9)+32) - cx)*(((64*x9)+32) - cx))) rfl rfl (w64 om))<|e_mv rfl<|e_mv rfl<|e_p (zwa (z:=((((64*y9)+32) - cy)*(((64*y9)+32) - cy))) rfl rfl (w64 om))<|e_p (zH (z:=(((((64*x9)+32) - cx)*(((64*x9)+32) - cx))+((((64*y9)+32) - cy)*(((64*y9)+32) - cy)))) rfl rfl (w64 om))<|zu rfl rfl (.c rfl (.c rfl .n)) ce54 (zsb (z1:=(((((64*x9)+32) - cx)*(((64*x9)+32) - cx))+((((64*y9)+32) - cy)*(((64*y9)+32) - cy)))) (z2:=4096) (hz1:=cbo) (hz2:=cbo) (hy:=cbo)) (.n) ?_
 rintro ⟨w33,w44⟩ -
 dsimp only [aq,nq,cq]
 refine e_mv rfl<|e_p (zq rfl rfl)<|e_p (zq rfl rfl)<|zK rfl rfl (zw zr28 rfl) (fun b5=> ?_)
 refine zk 0 rfl rfl rfl rfl rfl sz28 rfl (.t4 .nil) .z<|e_p (zb rfl)<|zf<|zc<|ze ?_
 have e6:(Rat.divInt (((((64*x9)+32) - cx)*(((64*x9)+32) - cx))+((((64*y9)+32) - cy)*(((64*y9)+32) - cy))) 4096:Rat)=(Rd.r2 cx cy x9 y9):=by rfl
 rw [e6]
 refine zma (.c (i:=1) rfl (.c (i:=0) rfl (.c (i:=0) rfl .n)))<|zZ (OW:=[boxA b2 28 (cw [wz,wz])]) (O:=[boxA b5 28 (cw [w33,w44]),boxA b1 30 [ya yb cx,ya yb cy,u1.b,u1.l,v1.b,v1.l,u2.b,u2.l,v2.b,v2.l]]) 13 mixed (.then .ret) kr<|e_pv 1 rfl rfl (zh yk rfl sz28 rfl rfl)<|e_uw 2 rfl rfl (zd 2 ty28 rfl rfl (.s2 (.t4 .nil)))<|e_uw 3 rfl rfl (zd 1 ty28 rfl rfl (.t4 .nil))<|e_pv 5 rfl rfl (zh yk rfl sz28 rfl rfl)<|e_uw 6 rfl rfl (zd 2 ty28 rfl rfl (.s4 (.s2 (.t4 .nil))))<|e_uw 7 rfl rfl (zd 1 ty28 rfl rfl (.t4 .nil))<|e_uw 8 rfl rfl (zd 1 ty28 rfl rfl (.t4 .nil))<|e_one 0 (zC rfl rfl rfl rfl (.c rfl .n) ce56 (zQa (z:=1) (hz:=cbo)) (.n) ?_)
 rintro ⟨w37,w48⟩ -
 dsimp only [aq,nq,cq]
 refine e_one 4 (zC rfl rfl rfl rfl (.c rfl (.c rfl .n)) ce60 (zwb (k1:=true) (u1:=u1) (v1:=v1) (q1:=q1) (k2:=true) (u2:=w33) (v2:=w44) (q2:=(Rd.r2 cx cy x9 y9)) (hl:=cbo)) (.c (j:=2) rfl (.c (j:=1) rfl .n)) ?_)
 rintro ⟨w39,w410⟩ -
 dsimp only [aq,nq,cq]
 refine e_one 9 (zC rfl rfl rfl rfl (.c rfl (.c rfl .n)) ce60 (zwb (k1:=true) (u1:=w33) (v1:=w44) (q1:=(Rd.r2 cx cy x9 y9)) (k2:=true) (u2:=w33) (v2:=w44) (q2:=(Rd.r2 cx cy x9 y9)) (hl:=cbo)) (.c (j:=2) rfl (.c (j:=2) rfl .n)) ?_)
 rintro ⟨w311,w412⟩ -
 dsimp only [aq,nq,cq]
 refine e_one 10 (zC rfl rfl rfl rfl (.c rfl (.c rfl .n)) ce60 (zwb (k1:=true) (u1:=u2) (v1:=v2) (q1:=q2) (k2:=true) (u2:=w311) (v2:=w412) (q2:=(Rd.r2 cx cy x9 y9)*(Rd.r2 cx cy x9 y9)) (hl:=cbo)) (.c (j:=5) rfl (.c (j:=0) rfl .n)) ?_)
 rintro ⟨w313,w414⟩ -
 dsimp only [aq,nq,cq]
 refine e_one 11 (zZe rfl rfl rfl rfl (zYa (r:=rQ) (k:=3) yd inf28 rfl dd dd dd (.c (x:=((1:Int):Rat)) (cs:=[w37.b,w37.l,w48.b,w48.l]) (w37,w48) rfl rfl rfl (fun g hr=>Holds.get 3 rfl hr) (.c (x:=(q1*(Rd.r2 cx cy x9 y9))) (cs:=[w39.b,w39.l,w410.b,w410.l]) (w39,w410) rfl rfl rfl (fun g hr=>Holds.get 2 rfl hr) (.c (x:=(q2*((Rd.r2 cx cy x9 y9)*(Rd.r2 cx cy x9 y9)))) (cs:=[w313.b,w313.l,w414.b,w414.l]) (w313,w414) rfl rfl rfl (fun g hr=>Holds.get 0 rfl hr) .n)))) (fun b15 _=> ?_))
 refine zUb 0 rfl .z<|e_one 12 (zC rfl rfl rfl rfl (.c rfl .n) ce80 (zte (p:=some ⟨b15,0,none⟩) (n:=3) (cap:=3) (l:=[((1:Int):Rat),(q1*(Rd.r2 cx cy x9 y9)),(q2*((Rd.r2 cx cy x9 y9)*(Rd.r2 cx cy x9 y9)))]) (hn:=cbo) (hn9:=cbo) (hl:=by exact Rd.hqA_cons om (Rd.hqA_cons om (Rd.hqA_cons om (Rd.hqA_nil dd))))) (.c (j:=0) rfl .n) ?_)
 rintro ⟨w316,w417⟩ -
 dsimp only [aq,nq,cq]
 refine e_one 13 (zG kr rfl rfl rfl rfl rfl sz28 rfl (.t4 .nil) ?_)
 refine zX kr<|zc<|zJ ?_
 exact zy Tryz.results52 (w316,w417) trivial (zp 0 ty28 rfl rfl (.t4 .nil)) rfl (ho:=(.n:PickO _ _ _)) ((.e (j:=0) rfl (by rw [← Rd.gn_sum]) .n):SelR _ _ _)
theorem zEf {cx:Int} {cy:Int}:Con yh 51 [.agg #[ya yb cx,ya yb cy]] [] [] (Y:=Unit) (fun y=>True) (fun y=> .bool (decide (¬(-0x100000≤(cx:Int)∧(cx:Int)≤0x100000∧ -0x100000≤(cy:Int)∧(cy:Int)≤0x100000)))) (fun y=>[]) (fun y=>[]):=by
 refine zl Tryz.func51 rfl rfl rfl (fun c=> ?_)
 show RunC _ _ _ _ _ [(0,.agg #[ya yb cx,ya yb cy])] [] []
 refine ze<|za<|zK rfl rfl (zU rfl rfl) (fun b1=> ?_)
 refine e_p (zb rfl)<|zf<|zc<|zGa (X:=Unit) (fun x=>True) (fun x=>[(2,.bool (decide (¬(-0x100000≤(cx:Int)∧(cx:Int)≤0x100000∧ -0x100000≤(cy:Int)∧(cy:Int)≤0x100000))))]) (fun x=>[boxA b1 23 [ya yb cx,ya yb cy]]) (fun x=>[]) ?_ ?_
 ·
  refine za<|e_p (zh yl rfl sz3 rfl rfl)<|e_ru (zg 0 ty3 rfl rfl rfl)<|e_p (zT rfl rfl)<|zW rfl rfl (zba rfl) (fun h2=> ?_) (fun h2=> ?_)
  ·
   refine e_no<|e_no<|e_no<|e_p (zn rfl rfl)<|e_mv rfl<|e_no<|e_no<|e_no<|e_p (zn rfl rfl)<|e_mv rfl<|e_no<|e_no<|e_no<|e_p (zn rfl rfl)<|e_p (zb rfl)<|zf ?_
   exact zia () (show True from by first|trivial|omega|simp_all) ((.e rfl (congrArg Value.bool (by first|exact (decide_eq_true om).symm|exact decide_eq_decide.2 om)) .n):SubM _ _) (ho:=((.c (i:=0) rfl .n):PickO _ _ _)) (.n:SelR _ _ _)
  ·
   refine e_p (zh yl rfl sz3 rfl rfl)<|e_ru (zg 0 ty3 rfl rfl rfl)<|e_p (zna rfl rfl)<|e_p (zn rfl rfl)<|zW rfl rfl (zba rfl) (fun h3=> ?_) (fun h3=> ?_)
   ·
    refine e_no<|e_no<|e_no<|e_p (zn rfl rfl)<|e_mv rfl<|e_no<|e_no<|e_no<|e_p (zn rfl rfl)<|e_p (zb rfl)<|zf ?_
    exact zia () (show True from by first|trivial|omega|simp_all) ((.e rfl (congrArg Value.bool (by first|exact (decide_eq_true om).symm|exact decide_eq_decide.2 om)) .n):SubM _ _) (ho:=((.c (i:=0) rfl .n):PickO _ _ _)) (.n:SelR _ _ _)
   ·
    refine e_p (zh yl rfl sz3 rfl rfl)<|e_ru (zg 0 ty3 rfl rfl rfl)<|e_p (zT rfl rfl)<|e_p (zn rfl rfl)<|zW rfl rfl (zba rfl) (fun h4=> ?_) (fun h4=> ?_)
    ·
     refine e_no<|e_no<|e_no<|e_p (zn rfl rfl)<|e_p (zb rfl)<|zf ?_
     exact zia () (show True from by first|trivial|omega|simp_all) ((.e rfl (congrArg Value.bool (by first|exact (decide_eq_true om).symm|exact decide_eq_decide.2 om)) .n):SubM _ _) (ho:=((.c (i:=0) rfl .n):PickO _ _ _)) (.n:SelR _ _ _)
    ·
     refine e_p (zh yl rfl sz3 rfl rfl)<|e_ru (zg 0 ty3 rfl rfl rfl)<|e_p (zna rfl rfl)<|e_p (zn rfl rfl)<|e_p (zb rfl)<|zf ?_
     exact zia () (show True from by first|trivial|omega|simp_all) ((.e rfl (congrArg Value.bool (by first|exact (decide_eq_true om).symm|exact decide_eq_decide.2 om)) .n):SubM _ _) (ho:=((.c (i:=0) rfl .n):PickO _ _ _)) (.n:SelR _ _ _)
 ·
  rintro ⟨⟩ -
  try dsimp only
  refine zJ ?_
  exact zy Tryz.results51 () trivial (zo rfl) rfl (ho:=(.n:PickO _ _ _)) (.n:SelR _ _ _)
theorem zNc {u1:Wd} {v1:Wd} {x1:Option Rat}:Con yh 79 [.agg #[u1.b,u1.l,v1.b,v1.l]] [] [eF u1 v1 (x1)] (Y:=Unit) (fun y=>True) (fun y=> .bool (x1.isSome)) (fun y=>[]) (fun y=>[]):=by
  exact con_e1 (fun y hy h1 h2=>by subst hy;have h:= @zic y.1.1 u1.p _ u1.c y.1.2 y.2.1 v1.p _ v1.c y.2.2 rfl rfl h1 h2;rw [qo_s];exact h)
theorem zdc {cx:Int} {cy:Int} {u1:Wd} {v1:Wd} {x1:Option Rat} {u2:Wd} {v2:Wd} {x2:Option Rat}:Con yh 50 [.agg #[ya yb cx,ya yb cy,u1.b,u1.l,v1.b,v1.l,u2.b,u2.l,v2.b,v2.l]] [] [eF u1 v1 x1,eF u2 v2 x2] (Y:=Unit) (fun y=>True) (fun y=> .bool (decide (x1.isSome=true∧x2.isSome=true))) (fun y=>[]) (fun y=>[]):=by
 refine zl Tryz.func50 rfl rfl rfl (fun c=> ?_)
 show RunC _ _ _ _ _ [(0,.agg #[ya yb cx,ya yb cy,u1.b,u1.l,v1.b,v1.l,u2.b,u2.l,v2.b,v2.l])] [] [eF u1 v1 x1,eF u2 v2 x2]
 refine ze<|za<|zK rfl rfl (zU rfl rfl) (fun b1=> ?_)
 refine e_p (zb rfl)<|zf<|zc<|zGa (X:=Unit) (fun x=>True) (fun x=>[(2,.bool (decide ((x1.isSome=true)∧(x2.isSome=true))))]) (fun x=>[boxA b1 30 [ya yb cx,ya yb cy,u1.b,u1.l,v1.b,v1.l,u2.b,u2.l,v2.b,v2.l]]) (fun x=>[eF u1 v1 x1,eF u2 v2 x2]) ?_ ?_
 ·
  refine za<|e_p (zh yk rfl sz28 rfl rfl)<|e_ru (zd 0 ty28 rfl rfl (.s2 (.t4 .nil)))<|zQ rfl rfl (.c rfl .n) ce79 (zNc (u1:=u1) (v1:=v1) (x1:=x1)) (.c (j:=0) rfl .n)<|zfg rfl rfl (zba rfl) (fun h2=> ?_) (fun h2=> ?_)
  ·
   refine e_p (zh yk rfl sz28 rfl rfl)<|e_ru (zd 0 ty28 rfl rfl (.s4 (.s2 (.t4 .nil))))<|zQ rfl rfl (.c rfl .n) ce79 (zNc (u1:=u2) (v1:=v2) (x1:=x2)) (.c (j:=1) rfl .n)<|e_p (zn rfl rfl)<|e_p (zb rfl)<|zf ?_
   exact zia () (show True from by first|trivial|omega|simp_all) ((.e rfl (congrArg Value.bool cbu) .n):SubM _ _) (ho:=((.c (i:=0) rfl .n):PickO _ _ _)) ((.of [0,1] rfl):SelR _ _ _)
  ·
   refine e_no<|e_no<|e_no<|e_p (zn rfl rfl)<|e_p (zb rfl)<|zf ?_
   exact zia () (show True from by first|trivial|omega|simp_all) ((.e rfl (congrArg Value.bool cbu) .n):SubM _ _) (ho:=((.c (i:=0) rfl .n):PickO _ _ _)) ((.of [0,1] rfl):SelR _ _ _)
 ·
  rintro ⟨⟩ -
  try dsimp only
  refine zJ ?_
  exact zy Tryz.results50 () trivial (zo rfl) rfl (ho:=(.n:PickO _ _ _)) (.n:SelR _ _ _)
theorem con_At {cx:Int} {cy:Int} {u1:Wd} {v1:Wd} {x1:Option Rat} {u2:Wd} {v2:Wd} {x2:Option Rat} {x9:Int} {y9:Int} (hq1:ym (x1.getD 0)≤100) (hq2:ym (x2.getD 0)≤100):Con yh 12 [.agg #[ya yb cx,ya yb cy,u1.b,u1.l,v1.b,v1.l,u2.b,u2.l,v2.b,v2.l],ya yb x9,ya yb y9] [] [eF u1 v1 x1,eF u2 v2 x2] (Y:=Wd×Wd) (fun y=>(¬((x1.isSome=true∧x2.isSome=true)∧(-0x100000≤(cx:Int)∧(cx:Int)≤0x100000∧ -0x100000≤(cy:Int)∧(cy:Int)≤0x100000∧0≤(x9:Int)∧(x9:Int)<64∧0≤(y9:Int)∧(y9:Int)<64))→y.1=wz∧y.2=wz)) (fun y=> .tuple #[.agg #[y.1.b,y.1.l,y.2.b,y.2.l],ya yb (if (x1.isSome=true∧x2.isSome=true) then (if (-0x100000≤(cx:Int)∧(cx:Int)≤0x100000∧ -0x100000≤(cy:Int)∧(cy:Int)≤0x100000∧0≤(x9:Int)∧(x9:Int)<64∧0≤(y9:Int)∧(y9:Int)<64) then 0 else 2) else 1)]) (fun y=>[]) (fun y=>[qF (decide ((x1.isSome=true∧x2.isSome=true)∧(-0x100000≤(cx:Int)∧(cx:Int)≤0x100000∧ -0x100000≤(cy:Int)∧(cy:Int)≤0x100000∧0≤(x9:Int)∧(x9:Int)<64∧0≤(y9:Int)∧(y9:Int)<64))) y.1 y.2 (if (x1.isSome=true∧x2.isSome=true)∧(-0x100000≤(cx:Int)∧(cx:Int)≤0x100000∧ -0x100000≤(cy:Int)∧(cy:Int)≤0x100000∧0≤(x9:Int)∧(x9:Int)<64∧0≤(y9:Int)∧(y9:Int)<64) then (Rd.gn (x1.getD 0) (x2.getD 0) cx cy x9 y9) else 0)]):=by
 refine zl Tryz.func12 rfl rfl rfl (fun c=> ?_)
 show RunC _ _ _ _ _ [(0,.agg #[ya yb cx,ya yb cy,u1.b,u1.l,v1.b,v1.l,u2.b,u2.l,v2.b,v2.l]),(1,ya yb x9),(2,ya yb y9)] [] [eF u1 v1 x1,eF u2 v2 x2]
 refine ze<|za<|zK rfl rfl (zU rfl rfl) (fun b1=> ?_)
 refine zK rfl rfl (zw zr28 rfl) (fun b2=> ?_)
 refine e_p (zb rfl)<|zf<|zc<|ze<|ze<|za<|e_ru (zd 1 ty30 rfl rfl (.t8 (.t2 .nil)))<|zQ rfl rfl (.c rfl .n) ce50 (zdc (cx:=cx) (cy:=cy) (u1:=u1) (v1:=v1) (x1:=x1) (u2:=u2) (v2:=v2) (x2:=x2)) (.c (j:=0) rfl (.c (j:=1) rfl .n))<|e_p (znb rfl)<|zf<|zc<|zB rfl (fun hc=> ?_) (fun hc=> ?_)
 ·
  refine ze<|za<|e_p (zN zr28 rfl yn (.c sz26 (.c sz26 .n)) .n .n)<|zk 0 rfl rfl rfl rfl rfl sz28 rfl (.t4 .nil) .z<|e_p (zb rfl)<|zf<|zc<|zJ<|zm<|zjb (qF false wz wz 0) (fun g _=>qF_none g) ?_
  exact zqa Tryz.results12 (wz,wz) (fun _=>⟨rfl,rfl⟩) (zp 0 ty28 rfl rfl (.t4 .nil)) (zo rfl) (by rw [if_neg hc];rfl) (ho:=(.n:PickO _ _ _)) ((.e (j:=0) rfl (by rw [if_neg (fun k=>hc k.1),decide_eq_false (fun k=>hc k.1)]) .n):SelR _ _ _)
 ·
  have hcc:(x1.isSome=true∧x2.isSome=true):=Decidable.not_not.1 hc
  refine zWc (qF x1.isSome u1 v1 (x1.getD 0)) (eF_weak 0 rfl)<|zWc (qF x2.isSome u2 v2 (x2.getD 0)) (eF_weak 2 rfl) ?_
  have e3:x1.isSome=true:=by exact hcc.1
  rw [e3]
  have e4:x2.isSome=true:=by exact hcc.2
  rw [e4]
  have hT:(true=true∧true=true):=⟨rfl,rfl⟩
  refine zv<|zc<|ze<|zGa (X:=Unit) (fun x=>True) (fun x=>[(30,.bool (decide (¬(-0x100000≤(cx:Int)∧(cx:Int)≤0x100000∧ -0x100000≤(cy:Int)∧(cy:Int)≤0x100000∧0≤(x9:Int)∧(x9:Int)<64∧0≤(y9:Int)∧(y9:Int)<64)))),(7,ya yb 0),(6,yc (some ⟨b2,0,none⟩)),(3,yc (some ⟨b1,0,none⟩)),(1,ya yb x9),(2,ya yb y9)]) (fun x=>[boxA b2 28 (cw [wz,wz]),boxA b1 30 [ya yb cx,ya yb cy,u1.b,u1.l,v1.b,v1.l,u2.b,u2.l,v2.b,v2.l]]) (fun x=>[qF true u2 v2 (x2.getD 0),qF true u1 v1 (x1.getD 0),eF u1 v1 x1,eF u2 v2 x2]) ?_ ?_
  ·
   refine za<|e_p (zh yk rfl sz23 rfl rfl)<|e_ru (zd 1 ty23 rfl rfl (.t2 .nil))<|zQ rfl rfl (.c rfl .n) ce51 (zEf (cx:=cx) (cy:=cy)) (.n)<|zW rfl rfl (zba rfl) (fun h5=> ?_) (fun h5=> ?_)
   ·
    refine e_no<|e_no<|e_p (zn rfl rfl)<|e_mv rfl<|e_no<|e_no<|e_p (zn rfl rfl)<|e_mv rfl<|e_no<|e_no<|e_p (zn rfl rfl)<|e_mv rfl<|e_no<|e_no<|e_p (zn rfl rfl)<|zf ?_
    exact zia () (show True from by first|trivial|omega|simp_all) ((.e rfl (congrArg Value.bool (by first|exact (decide_eq_true om).symm|exact decide_eq_decide.2 om)) (.of rfl)):SubM _ _) (ho:=((.of [0,0] rfl):PickO _ _ _)) ((.of [0,1,2,3] rfl):SelR _ _ _)
   ·
    refine e_mv rfl<|e_p (zT rfl rfl)<|e_p (zn rfl rfl)<|zW rfl rfl (zba rfl) (fun h6=> ?_) (fun h6=> ?_)
    ·
     refine e_no<|e_no<|e_p (zn rfl rfl)<|e_mv rfl<|e_no<|e_no<|e_p (zn rfl rfl)<|e_mv rfl<|e_no<|e_no<|e_p (zn rfl rfl)<|zf ?_
     exact zia () (show True from by first|trivial|omega|simp_all) ((.e rfl (congrArg Value.bool (by first|exact (decide_eq_true om).symm|exact decide_eq_decide.2 om)) (.of rfl)):SubM _ _) (ho:=((.of [0,0] rfl):PickO _ _ _)) ((.of [0,1,2,3] rfl):SelR _ _ _)
    ·
     refine e_mv rfl<|e_p (zIa rfl rfl)<|e_p (zn rfl rfl)<|zW rfl rfl (zba rfl) (fun h7=> ?_) (fun h7=> ?_)
     ·
      refine e_no<|e_no<|e_p (zn rfl rfl)<|e_mv rfl<|e_no<|e_no<|e_p (zn rfl rfl)<|zf ?_
      exact zia () (show True from by first|trivial|omega|simp_all) ((.e rfl (congrArg Value.bool (by first|exact (decide_eq_true om).symm|exact decide_eq_decide.2 om)) (.of rfl)):SubM _ _) (ho:=((.of [0,0] rfl):PickO _ _ _)) ((.of [0,1,2,3] rfl):SelR _ _ _)
     ·
      refine e_mv rfl<|e_p (zT rfl rfl)<|e_p (zn rfl rfl)<|zW rfl rfl (zba rfl) (fun h8=> ?_) (fun h8=> ?_)
      ·
       refine e_no<|e_no<|e_p (zn rfl rfl)<|zf ?_
       exact zia () (show True from by first|trivial|omega|simp_all) ((.e rfl (congrArg Value.bool (by first|exact (decide_eq_true om).symm|exact decide_eq_decide.2 om)) (.of rfl)):SubM _ _) (ho:=((.of [0,0] rfl):PickO _ _ _)) ((.of [0,1,2,3] rfl):SelR _ _ _)
      ·
       refine e_mv rfl<|e_p (zIa rfl rfl)<|e_p (zn rfl rfl)<|zf ?_
       exact zia () (show True from by first|trivial|omega|simp_all) ((.e rfl (congrArg Value.bool (by first|exact (decide_eq_true om).symm|exact decide_eq_decide.2 om)) (.of rfl)):SubM _ _) (ho:=((.of [0,0] rfl):PickO _ _ _)) ((.of [0,1,2,3] rfl):SelR _ _ _)
  ·
   rintro ⟨⟩ -
   try dsimp only [cw]
   refine zB rfl (fun hr=> ?_) (fun hr=> ?_)
   ·
    refine ze<|za<|e_p (zN zr28 rfl yn (.c sz26 (.c sz26 .n)) .n .n)<|zk 0 rfl rfl rfl rfl rfl sz28 rfl (.t4 .nil) .z<|e_p (zb rfl)<|zf<|zc<|zJ<|zm<|zjb (qF false wz wz 0) (fun g _=>qF_none g) ?_
    exact zqa Tryz.results12 (wz,wz) (fun _=>⟨rfl,rfl⟩) (zp 0 ty28 rfl rfl (.t4 .nil)) (zo rfl) (by rw [if_pos hT,if_neg hr];rfl) (ho:=(.n:PickO _ _ _)) ((.e (j:=0) rfl (by rw [if_neg (fun k=>hr k.2),decide_eq_false (fun k=>hr k.2)]) .n):SelR _ _ _)
   ·
    have hrr:(-0x100000≤(cx:Int)∧(cx:Int)≤0x100000∧ -0x100000≤(cy:Int)∧(cy:Int)≤0x100000∧0≤(x9:Int)∧(x9:Int)<64∧0≤(y9:Int)∧(y9:Int)<64):=Decidable.not_not.1 hr
    refine zv<|zc<|ze<|za<|e_ru (zd 1 ty30 rfl rfl (.t8 (.t2 .nil)))<|e_mv rfl<|e_mv rfl<|zu rfl rfl (.c rfl (.c rfl (.c rfl .n))) ce52 (zpd (cx:=cx) (cy:=cy) (u1:=u1) (v1:=v1) (q1:=(x1.getD 0)) (u2:=u2) (v2:=v2) (q2:=(x2.getD 0)) (x9:=x9) (y9:=y9) (hce:=cbo) (hxy:=cbo) (hqA:=ass) (hqB:=ass)) (.c (j:=1) rfl (.c (j:=0) rfl .n)) ?_
    rintro ⟨w39,w410⟩ -
    dsimp only [aq,nq,cq]
    refine zk 0 rfl rfl rfl rfl rfl sz28 rfl (.t4 .nil) .z<|e_p (zb rfl)<|zf<|zc<|zJ ?_
    exact zqa Tryz.results12 (w39,w410) (fun k=>absurd ⟨hT,hrr⟩ k) (zp 0 ty28 rfl rfl (.t4 .nil)) (zo rfl) (by rw [if_pos hT,if_pos hrr]) (ho:=(.n:PickO _ _ _)) ((.e (j:=0) rfl (by rw [if_pos ⟨hT,hrr⟩,decide_eq_true ⟨hT,hrr⟩]) .n):SelR _ _ _)
end Go.Proofs.YtkohlohbogpooaaGreat.Sp
namespace Go.Proofs.YtkohlohbogpooaaGreat.Sp
open Go
set_option linter.unusedVariables false
set_option maxRecDepth 100000
set_option maxHeartbeats 8000000
theorem zag {u1:Wd} {v1:Wd} {q1:Rat} {mm:Int} (hl:ym q1≤3000) (hm:0≤mm∧mm≤65535) (hub:Rd.fl q1≤999999999999999999):Con yh 59 [.agg #[u1.b,u1.l,v1.b,v1.l],ya yb mm] [] [qF true u1 v1 q1] (Y:=Unit) (fun y=>True) (fun y=> ya yb (Rd.gr q1 mm)) (fun y=>[]) (fun y=>[]):=by
 refine zl Tryz.func59 rfl rfl rfl (fun c=> ?_)
 show RunC _ _ _ _ _ [(0,.agg #[u1.b,u1.l,v1.b,v1.l]),(1,ya yb mm)] [] [qF true u1 v1 q1]
 have hh:=Big.hq_divInt (n:=1) (d:=2) dd
 have hh2:max (Big.ln 1) (Big.ln 2)≤1:=by decide
 have hs:=Big.hq_add q1 (Rat.divInt 1 2)
 refine ze<|za<|zK rfl rfl (zU rfl rfl) (fun b1=> ?_)
 refine e_p (zb rfl)<|zf<|zc<|ze<|za<|zu rfl rfl (.c rfl (.c rfl .n)) ce54 (zsb (z1:=1) (z2:=2) (hz1:=cbo) (hz2:=cbo) (hy:=cbo)) (.n) ?_
 rintro ⟨w32,w43⟩ -
 dsimp only [aq,nq,cq]
 refine e_mv rfl<|e_p (zq rfl rfl)<|e_p (zq rfl rfl)<|zK rfl rfl (zw zr28 rfl) (fun b4=> ?_)
 refine zk 0 rfl rfl rfl rfl rfl sz28 rfl (.t4 .nil) .z<|e_p (zb rfl)<|zf<|zc<|ze<|za<|e_ru (zd 1 ty28 rfl rfl (.t4 .nil))<|e_ru (zd 0 ty28 rfl rfl (.t4 .nil))<|zra rfl rfl (zYa (r:=rQ) (k:=2) yd inf28 rfl dd dd dd (.c (x:=q1) (cs:=[u1.b,u1.l,v1.b,v1.l]) (u1,v1) rfl rfl rfl (fun g hr=>Holds.get 1 rfl hr) (.c (x:=(Rat.divInt 1 2)) (cs:=[w32.b,w32.l,w43.b,w43.l]) (w32,w43) rfl rfl rfl (fun g hr=>Holds.get 0 rfl hr) .n))) (fun b5 _=> ?_)
 refine zga 0 rfl .z<|zu rfl rfl (.c rfl .n) ce80 (zte (p:=some ⟨b5,0,none⟩) (n:=2) (cap:=2) (l:=[q1,(Rat.divInt 1 2)]) (hn:=cbo) (hn9:=cbo) (hl:=by exact Rd.hqA_cons om (Rd.hqA_cons om (Rd.hqA_nil dd)))) (.c (j:=0) rfl .n) ?_
 rintro ⟨w36,w47⟩ -
 dsimp only [aq,nq,cq]
 refine zu rfl rfl (.c rfl .n) ce91 (zDf (k1:=true) (u1:=w36) (v1:=w47) (q1:=(Rd.sumL ([q1,(Rat.divInt 1 2)]))) (hl:=by rw [Rd.sumL2];omega)) (.c (j:=0) rfl .n) ?_
 rintro w38 -
 dsimp only [aq,nq,cq]
 refine zK rfl rfl (zw zr26 rfl) (fun b9=> ?_)
 refine zk 0 rfl rfl rfl rfl rfl sz26 rfl (.t2 .nil) .z<|zf<|zc<|ze<|ze ?_
 have e10:((Rd.sumL ([q1,(Rat.divInt 1 2)])).floor:Int)=(Rd.fl q1):=by rw [Rd.sumL2];rfl
 rw [e10]
 refine za<|e_ru (zd 0 ty26 rfl rfl (.t2 .nil))<|zQ rfl rfl (.c rfl .n) ce92 (zGb (w1:=w38) (x1:=(Rd.fl q1))) (.c (j:=0) rfl .n)<|e_p (zT rfl rfl)<|zf<|zc<|zB rfl (fun h21=> ?_) (fun h21=> ?_)
 ·
  have hn:=Rd.sgn_neg.1 h21
  refine ze<|za<|e_p (zb rfl)<|zf<|zc<|zJ<|zm ?_
  exact zy Tryz.results59 () trivial (zo rfl) (by rw [show Rd.gr q1 mm=0 from if_pos hn]) (ho:=(.n:PickO _ _ _)) (.n:SelR _ _ _)
 ·
  have hn:¬Rd.fl q1<0:=fun k=>h21 (Rd.sgn_neg.2 k)
  refine zv<|zc<|ze<|ze<|za<|e_ru (zd 0 ty26 rfl rfl (.t2 .nil))<|zQ rfl rfl (.c rfl .n) ce93 (zRe (w1:=w38) (z:=(Rd.fl q1)) (hz:=cbo)) (.c (j:=0) rfl .n)<|e_mv rfl<|e_p (zq rfl rfl)<|e_p (zq rfl rfl)<|e_p (zb rfl)<|e_p (zb rfl)<|zf<|zc<|zGa (X:=Unit) (fun x=>True) (fun x=>[(32,.bool (decide ((Rd.fl q1)<mm))),(8,ya yb (Rd.fl q1)),(4,ya yb 0),(1,ya yb mm)]) (fun x=>[boxA b9 26 [w38.b,w38.l],boxA b4 28 (cw [w32,w43]),boxA b1 28 (cw [u1,v1])]) (fun x=>[zF w38 (Rd.fl q1),qF true w36 w47 (Rd.sumL ([q1,(Rat.divInt 1 2)])),slF rQ (some ⟨b5,0,none⟩) 2 ([q1,(Rat.divInt 1 2)]),qF true w32 w43 (Rat.divInt 1 2),qF true u1 v1 q1]) ?_ ?_
  ·
   refine za<|e_mv rfl<|e_mv rfl<|e_mv rfl<|e_mv rfl<|e_p (zT rfl rfl)<|e_p (zn rfl rfl)<|zf ?_
   exact zia () (show True from by first|trivial|omega|simp_all) ((.of rfl):SubM _ _) (ho:=((.of [0,1,1] rfl):PickO _ _ _)) ((.of [0,1,2,3,4] rfl):SelR _ _ _)
  ·
   rintro ⟨⟩ -
   try dsimp only [cw]
   refine zB rfl (fun h32=> ?_) (fun h32=> ?_)
   ·
    refine ze<|za<|e_mv rfl<|e_p (zb rfl)<|zf<|zc<|zJ<|zm ?_
    exact zy Tryz.results59 () trivial (zo rfl) (by rw [show Rd.gr q1 mm=Rd.fl q1 by unfold Rd.gr;rw [if_neg hn,if_pos (by first|exact h32|omega)]]) (ho:=(.n:PickO _ _ _)) (.n:SelR _ _ _)
   ·
    refine zv<|zc<|ze<|za<|e_mv rfl<|e_p (zb rfl)<|zf<|zc<|zJ ?_
    exact zy Tryz.results59 () trivial (zo rfl) (by rw [show Rd.gr q1 mm=mm by unfold Rd.gr;rw [if_neg hn,if_neg (by first|exact h32|omega)]]) (ho:=(.n:PickO _ _ _)) (.n:SelR _ _ _)
theorem zSe {cx:Int} {cy:Int} {u1:Wd} {v1:Wd} {x1:Option Rat} {u2:Wd} {v2:Wd} {x2:Option Rat} {w:Int} {h:Int} (hq1:ym (x1.getD 0)≤100) (hq2:ym (x2.getD 0)≤100):Con yh 15 [.agg #[ya yb cx,ya yb cy,u1.b,u1.l,v1.b,v1.l,u2.b,u2.l,v2.b,v2.l],ya yb w,ya yb h] [] [eF u1 v1 x1,eF u2 v2 x2] (Y:=Unit) (fun y=>True) (fun y=> ya yb (Rd.ckC x1 x2 cx cy w h)) (fun y=>[]) (fun y=>[]):=by
 refine zl Tryz.func15 rfl rfl rfl (fun c=> ?_)
 show RunC _ _ _ _ _ [(0,.agg #[ya yb cx,ya yb cy,u1.b,u1.l,v1.b,v1.l,u2.b,u2.l,v2.b,v2.l]),(1,ya yb w),(2,ya yb h)] [] [eF u1 v1 x1,eF u2 v2 x2]
 refine ze<|za<|zK rfl rfl (zU rfl rfl) (fun b1=> ?_)
 refine e_p (zb rfl)<|zf<|zc<|ze<|ze<|za<|e_ru (zd 0 ty30 rfl rfl (.t8 (.t2 .nil)))<|zQ rfl rfl (.c rfl .n) ce50 (zdc (cx:=cx) (cy:=cy) (u1:=u1) (v1:=v1) (x1:=x1) (u2:=u2) (v2:=v2) (x2:=x2)) (.c (j:=0) rfl (.c (j:=1) rfl .n))<|e_p (znb rfl)<|zf<|zc<|zB rfl (fun hc=> ?_) (fun hc=> ?_)
 ·
  refine ze<|za<|e_p (zb rfl)<|zf<|zc<|zJ<|zm ?_
  exact zy yp () trivial (zo rfl) (by rw [Rd.ckC_1 hc]) (ho:=(.n:PickO _ _ _)) (.n:SelR _ _ _)
 ·
  have hcc:(x1.isSome=true∧x2.isSome=true):=Decidable.not_not.1 hc
  refine zWc (qF x1.isSome u1 v1 (x1.getD 0)) (eF_weak 0 rfl)<|zWc (qF x2.isSome u2 v2 (x2.getD 0)) (eF_weak 2 rfl) ?_
  have e2:x1.isSome=true:=by exact hcc.1
  rw [e2]
  have e3:x2.isSome=true:=by exact hcc.2
  rw [e3]
  refine zv<|zc<|ze<|zGa (X:=Unit) (fun x=>True) (fun x=>[(33,.bool (decide (¬(Rd.cent cx cy∧1≤w∧w≤64∧1≤h∧h≤64)))),(6,ya yb 0),(3,yc (some ⟨b1,0,none⟩)),(1,ya yb w),(2,ya yb h)]) (fun x=>[boxA b1 30 [ya yb cx,ya yb cy,u1.b,u1.l,v1.b,v1.l,u2.b,u2.l,v2.b,v2.l]]) (fun x=>[qF true u2 v2 (x2.getD 0),qF true u1 v1 (x1.getD 0),eF u1 v1 x1,eF u2 v2 x2]) ?_ ?_
  ·
   refine za<|e_mv rfl<|e_p (zT rfl rfl)<|zW rfl rfl (zba rfl) (fun h4=> ?_) (fun h4=> ?_)
   ·
    refine e_no<|e_no<|e_p (zn rfl rfl)<|e_mv rfl<|e_no<|e_no<|e_p (zn rfl rfl)<|e_mv rfl<|e_no<|e_no<|e_p (zn rfl rfl)<|e_mv rfl<|e_no<|e_no<|e_no<|e_p (zn rfl rfl)<|zf ?_
    exact zia () (show True from by first|trivial|omega|simp_all) ((.e rfl (congrArg Value.bool (by first|exact (decide_eq_true (by unfold Rd.cent;omega)).symm|exact decide_eq_decide.2 (by unfold Rd.cent;omega))) (.of rfl)):SubM _ _) (ho:=((.c (i:=0) rfl .n):PickO _ _ _)) ((.of [0,1,2,3] rfl):SelR _ _ _)
   ·
    refine e_mv rfl<|e_p (zna rfl rfl)<|e_p (zn rfl rfl)<|zW rfl rfl (zba rfl) (fun h5=> ?_) (fun h5=> ?_)
    ·
     refine e_no<|e_no<|e_p (zn rfl rfl)<|e_mv rfl<|e_no<|e_no<|e_p (zn rfl rfl)<|e_mv rfl<|e_no<|e_no<|e_no<|e_p (zn rfl rfl)<|zf ?_
     exact zia () (show True from by first|trivial|omega|simp_all) ((.e rfl (congrArg Value.bool (by first|exact (decide_eq_true (by unfold Rd.cent;omega)).symm|exact decide_eq_decide.2 (by unfold Rd.cent;omega))) (.of rfl)):SubM _ _) (ho:=((.c (i:=0) rfl .n):PickO _ _ _)) ((.of [0,1,2,3] rfl):SelR _ _ _)
    ·
     refine e_mv rfl<|e_p (zT rfl rfl)<|e_p (zn rfl rfl)<|zW rfl rfl (zba rfl) (fun h6=> ?_) (fun h6=> ?_)
     ·
      refine e_no<|e_no<|e_p (zn rfl rfl)<|e_mv rfl<|e_no<|e_no<|e_no<|e_p (zn rfl rfl)<|zf ?_
      exact zia () (show True from by first|trivial|omega|simp_all) ((.e rfl (congrArg Value.bool (by first|exact (decide_eq_true (by unfold Rd.cent;omega)).symm|exact decide_eq_decide.2 (by unfold Rd.cent;omega))) (.of rfl)):SubM _ _) (ho:=((.c (i:=0) rfl .n):PickO _ _ _)) ((.of [0,1,2,3] rfl):SelR _ _ _)
     ·
      refine e_mv rfl<|e_p (zna rfl rfl)<|e_p (zn rfl rfl)<|zW rfl rfl (zba rfl) (fun h7=> ?_) (fun h7=> ?_)
      ·
       refine e_no<|e_no<|e_no<|e_p (zn rfl rfl)<|zf ?_
       exact zia () (show True from by first|trivial|omega|simp_all) ((.e rfl (congrArg Value.bool (by first|exact (decide_eq_true (by unfold Rd.cent;omega)).symm|exact decide_eq_decide.2 (by unfold Rd.cent;omega))) (.of rfl)):SubM _ _) (ho:=((.c (i:=0) rfl .n):PickO _ _ _)) ((.of [0,1,2,3] rfl):SelR _ _ _)
      ·
       refine e_p (zh yk rfl sz23 rfl rfl)<|e_ru (zd 0 ty23 rfl rfl (.t2 .nil))<|zQ rfl rfl (.c rfl .n) ce51 (zEf (cx:=cx) (cy:=cy)) (.n)<|e_p (zn rfl rfl)<|zf ?_
       exact zia () (show True from by first|trivial|omega|simp_all) ((.e rfl (congrArg Value.bool (by first|exact (decide_eq_true (by unfold Rd.cent;omega)).symm|exact decide_eq_decide.2 (by unfold Rd.cent;omega))) (.of rfl)):SubM _ _) (ho:=((.c (i:=0) rfl .n):PickO _ _ _)) ((.of [0,1,2,3] rfl):SelR _ _ _)
  ·
   rintro ⟨⟩ -
   try dsimp only
   refine zB rfl (fun hr=> ?_) (fun hr=> ?_)
   ·
    refine ze<|za<|e_p (zb rfl)<|zf<|zc<|zJ<|zm ?_
    exact zy yp () trivial (zo rfl) (by rw [Rd.ckC_2 hcc hr]) (ho:=(.n:PickO _ _ _)) (.n:SelR _ _ _)
   ·
    have hrr:(Rd.cent cx cy∧1≤w∧w≤64∧1≤h∧h≤64):=Decidable.not_not.1 hr
    have hce:=hrr.1
    unfold Rd.cent at hce
    obtain ⟨wn,e8⟩:∃q:Nat,w=(q:Int):=⟨w.toNat,by omega⟩
    subst e8
    obtain ⟨hn,e9⟩:∃q:Nat,h=(q:Int):=⟨h.toNat,by omega⟩
    subst e9
    refine zv<|zc<|ze<|za<|zu rfl rfl (.c rfl (.c rfl .n)) ce54 (zsb (z1:=1) (z2:=16) (hz1:=cbo) (hz2:=cbo) (hy:=cbo)) (.n) ?_
    rintro ⟨w310,w411⟩ -
    dsimp only [aq,nq,cq]
    refine e_mv rfl<|e_p (zq rfl rfl)<|e_p (zq rfl rfl)<|zK rfl rfl (zw zr28 rfl) (fun b12=> ?_)
    refine zk 0 rfl rfl rfl rfl rfl sz28 rfl (.t4 .nil) .z<|e_p (zb rfl)<|zf<|zc<|ze<|ze<|za<|e_mv rfl<|e_mv rfl<|zf<|zc<|zt<|zea (X:=Nat) (fun x:Nat=>x≤hn∧∀yy:Nat,yy<x→∀xx:Nat,xx<wn→Rd.in16 (Rd.gn (x1.getD 0) (x2.getD 0) cx cy ((xx:Nat):Int) ((yy:Nat):Int))) (fun x=>[(39,ya yb ((x:Nat):Int)),(38,ya yb ((hn:Nat):Int)),(7,yc (some ⟨b12,0,none⟩)),(3,yc (some ⟨b1,0,none⟩)),(1,ya yb ((wn:Nat):Int))]) (fun x=>[boxA b12 28 (cw [w310,w411]),boxA b1 30 [ya yb cx,ya yb cy,u1.b,u1.l,v1.b,v1.l,u2.b,u2.l,v2.b,v2.l]]) (fun x=>[qF true w310 w411 (Rat.divInt 1 16),qF true u2 v2 (x2.getD 0),qF true u1 v1 (x1.getD 0),eF u1 v1 x1,eF u2 v2 x2]) (fun x:Nat=>hn - x) 0 (show 0≤hn∧∀yy:Nat,yy<0→∀xx:Nat,xx<wn→Rd.in16 (Rd.gn (x1.getD 0) (x2.getD 0) cx cy ((xx:Nat):Int) ((yy:Nat):Int)) from by exact ⟨Nat.zero_le _,fun y h=>by omega⟩) ((.e rfl (by first|rfl|(congr 1;omega)|simp_all) (.of rfl)):SubM _ _) (ho:=((.of [0,0] rfl):PickO _ _ _)) ((.of [0,1,2,3,4] rfl):SelR _ _ _) ?_
    rintro jy hY
    replace hY:jy≤hn∧∀yy:Nat,yy<jy→∀xx:Nat,xx<wn→Rd.in16 (Rd.gn (x1.getD 0) (x2.getD 0) cx cy ((xx:Nat):Int) ((yy:Nat):Int)):=hY
    try dsimp only [cw]
    obtain ⟨hy,hally⟩:=hY
    refine ze<|za<|e_p (zT rfl rfl)<|zf<|zc<|ze<|zB rfl (fun h13=> ?_) (fun h13=> ?_)
    ·
     refine zv<|zc<|ze<|zt<|ze<|za<|e_mv rfl<|e_p (zb rfl)<|zf<|zc<|ze<|za<|e_mv rfl<|e_mv rfl<|zf<|zc<|zt<|zea (X:=Nat) (fun x:Nat=>x≤wn∧∀xx:Nat,xx<x→Rd.in16 (Rd.gn (x1.getD 0) (x2.getD 0) cx cy ((xx:Nat):Int) ((jy:Nat):Int))) (fun x=>[(43,ya yb ((x:Nat):Int)),(42,ya yb ((wn:Nat):Int)),(9,ya yb ((jy:Nat):Int)),(39,ya yb ((jy:Nat):Int)),(38,ya yb ((hn:Nat):Int)),(7,yc (some ⟨b12,0,none⟩)),(3,yc (some ⟨b1,0,none⟩)),(1,ya yb ((wn:Nat):Int))]) (fun x=>[boxA b12 28 (cw [w310,w411]),boxA b1 30 [ya yb cx,ya yb cy,u1.b,u1.l,v1.b,v1.l,u2.b,u2.l,v2.b,v2.l]]) (fun x=>[qF true w310 w411 (Rat.divInt 1 16),qF true u2 v2 (x2.getD 0),qF true u1 v1 (x1.getD 0),eF u1 v1 x1,eF u2 v2 x2]) (fun x:Nat=>wn - x) 0 (show 0≤wn∧∀xx:Nat,xx<0→Rd.in16 (Rd.gn (x1.getD 0) (x2.getD 0) cx cy ((xx:Nat):Int) ((jy:Nat):Int)) from by exact ⟨Nat.zero_le _,fun x h=>by omega⟩) ((.e rfl (by first|rfl|(congr 1;omega)|simp_all) (.of rfl)):SubM _ _) (ho:=((.of [0,0] rfl):PickO _ _ _)) ((.of [0,1,2,3,4] rfl):SelR _ _ _) ?_
     rintro jx hX
     replace hX:jx≤wn∧∀xx:Nat,xx<jx→Rd.in16 (Rd.gn (x1.getD 0) (x2.getD 0) cx cy ((xx:Nat):Int) ((jy:Nat):Int)):=hX
     try dsimp only [cw]
     obtain ⟨hx,hallx⟩:=hX
     refine ze<|za<|e_p (zT rfl rfl)<|zf<|zc<|ze<|zB rfl (fun h14=> ?_) (fun h14=> ?_)
     ·
      refine zv<|zc<|ze<|zt<|ze<|za<|e_mv rfl<|e_p (zb rfl)<|zf<|zc<|ze<|za<|e_ru (zd 1 ty30 rfl rfl (.t8 (.t2 .nil)))<|e_mv rfl<|e_mv rfl<|zu rfl rfl (.c rfl (.c rfl (.c rfl .n))) ce52 (zpd (cx:=cx) (cy:=cy) (u1:=u1) (v1:=v1) (q1:=(x1.getD 0)) (u2:=u2) (v2:=v2) (q2:=(x2.getD 0)) (x9:=((jx:Nat):Int)) (y9:=((jy:Nat):Int)) (hce:=cbo) (hxy:=cbo) (hqA:=ass) (hqB:=ass)) (.c (j:=2) rfl (.c (j:=1) rfl .n)) ?_
      rintro ⟨w315,w416⟩ -
      dsimp only [aq,nq,cq]
      refine zK rfl rfl (zw zr28 rfl) (fun b17=> ?_)
      refine zk 0 rfl rfl rfl rfl rfl sz28 rfl (.t4 .nil) .z<|zf<|zc<|zGa (X:=Unit) (fun x=>True) (fun x=>[(59,.bool (decide ((Big.sgq ((Rd.gn (x1.getD 0) (x2.getD 0) cx cy ((jx:Nat):Int) ((jy:Nat):Int)) - (Rat.divInt 1 16))<0)∨(0<Big.sgq ((Rd.gn (x1.getD 0) (x2.getD 0) cx cy ((jx:Nat):Int) ((jy:Nat):Int)) - ((16:Int):Rat)))))),(43,ya yb ((jx:Nat):Int)),(42,ya yb ((wn:Nat):Int)),(9,ya yb ((jy:Nat):Int)),(39,ya yb ((jy:Nat):Int)),(38,ya yb ((hn:Nat):Int)),(7,yc (some ⟨b12,0,none⟩)),(3,yc (some ⟨b1,0,none⟩)),(1,ya yb ((wn:Nat):Int))]) (fun x=>[boxA b17 28 (cw [w315,w416]),boxA b12 28 (cw [w310,w411]),boxA b1 30 [ya yb cx,ya yb cy,u1.b,u1.l,v1.b,v1.l,u2.b,u2.l,v2.b,v2.l]]) (fun x=>[qF true w315 w416 (Rd.gn (x1.getD 0) (x2.getD 0) cx cy ((jx:Nat):Int) ((jy:Nat):Int)),qF true w310 w411 (Rat.divInt 1 16),qF true u2 v2 (x2.getD 0),qF true u1 v1 (x1.getD 0),eF u1 v1 x1,eF u2 v2 x2]) ?_ ?_
      ·
       have hgq:=Rd.gn_hq (x:=((jx:Nat):Int)) (y:=((jy:Nat):Int)) hrr.1 om om hq1 hq2
       have hhs:ym (Rat.divInt 1 16)≤1:=by decide +kernel
       have hh16:ym ((16:Int):Rat)=1:=by decide +kernel
       refine zZ (OW:=[]) (O:=[boxA b17 28 (cw [w315,w416]),boxA b12 28 (cw [w310,w411]),boxA b1 30 [ya yb cx,ya yb cy,u1.b,u1.l,v1.b,v1.l,u2.b,u2.l,v2.b,v2.l]]) 100000 mixed (.then (.block (.then (.then (.block (.block (.then (.then (.block (.then .ret)))))))))) kr<|e_u 0 rfl rfl (zd 0 ty28 rfl rfl (.t4 .nil))<|e_u 1 rfl rfl (zd 1 ty28 rfl rfl (.t4 .nil))<|e_one 2 (zMa rfl rfl rfl rfl (.c rfl (.c rfl .n)) ce55 (zoc (k1:=true) (u1:=w315) (v1:=w416) (q1:=(Rd.gn (x1.getD 0) (x2.getD 0) cx cy ((jx:Nat):Int) ((jy:Nat):Int))) (k2:=true) (u2:=w310) (v2:=w411) (q2:=Rat.divInt 1 16) (hl:=cbo)) (.c (j:=0) rfl (.c (j:=1) rfl .n)) ?_)
       refine e_pv 3 rfl rfl (zT rfl rfl)<|zge 4 rfl rfl kr kr rfl rfl (zba rfl) (fun h18=> ?_) (fun h18=> ?_)
       ·
        refine e_skip 5 rfl rfl<|e_skip 6 rfl rfl<|e_skip 7 rfl rfl<|e_skip 8 rfl rfl<|e_pv 9 rfl rfl (zn rfl rfl)<|zX kr ?_
        exact zia () (show True from by first|trivial|omega|simp_all) ((.e rfl (congrArg Value.bool cbu) (.of rfl)):SubM _ _) (ho:=((.of [0,0,0] rfl):PickO _ _ _)) ((.of [0,1,2,3,4,5] rfl):SelR _ _ _)
       ·
        refine e_u 5 rfl rfl (zd 0 ty28 rfl rfl (.t4 .nil))<|e_one 6 (zC rfl rfl rfl rfl (.c rfl .n) ce56 (zQa (z:=16) (hz:=cbo)) (.n) ?_)
        rintro ⟨w319,w420⟩ -
        dsimp only [aq,nq,cq]
        refine e_one 7 (zMa rfl rfl rfl rfl (.c rfl (.c rfl .n)) ce55 (zoc (k1:=true) (u1:=w315) (v1:=w416) (q1:=(Rd.gn (x1.getD 0) (x2.getD 0) cx cy ((jx:Nat):Int) ((jy:Nat):Int))) (k2:=true) (u2:=w319) (v2:=w420) (q2:=((16:Int):Rat)) (hl:=cbo)) (.c (j:=1) rfl (.c (j:=0) rfl .n)) ?_)
        refine e_pv 8 rfl rfl (zna rfl rfl)<|e_pv 9 rfl rfl (zn rfl rfl)<|zX kr ?_
        exact zia () (show True from by first|trivial|omega|simp_all) ((.e rfl (congrArg Value.bool cbu) (.of rfl)):SubM _ _) (ho:=((.of [0,0,0] rfl):PickO _ _ _)) ((.of [1,2,3,4,5,6] rfl):SelR _ _ _)
      ·
       rintro ⟨⟩ -
       try dsimp only [cw]
       refine zB rfl (fun hg=> ?_) (fun hg=> ?_)
       ·
        refine ze<|za<|e_p (zb rfl)<|zf<|zc<|zJ<|zS<|zm<|zm<|zS<|zS<|zm<|zm<|zS<|zm ?_
        exact zy yp () trivial (zo rfl) (by rw [Rd.ckC_3 hcc hrr (x:=jx) (y:=jy) om om (fun z=>z hg)]) (ho:=(.n:PickO _ _ _)) (.n:SelR _ _ _)
       ·
        refine zv<|zM<|zc<|za<|e_p (zH (z:=(((jx+1):Nat):Int)) rfl rfl (w64 om))<|e_mv rfl<|zf<|zaa (jx+1) (show (jx+1)≤wn∧∀xx:Nat,xx<(jx+1)→Rd.in16 (Rd.gn (x1.getD 0) (x2.getD 0) cx cy ((xx:Nat):Int) ((jy:Nat):Int)) from by refine ⟨by omega,fun x hx2=> ?_⟩;by_cases e:x=jx;subst e;exact hg;exact hallx x om) (by show wn - (jx+1)<wn - jx;omega) ((.of rfl):SubM _ _) (ho:=((.of [1,1] rfl):PickO _ _ _)) ((.of [1,2,3,4,5] rfl):SelR _ _ _)
     ·
      refine zda<|zi<|zi<|zr<|zM<|zc<|za<|e_p (zH (z:=(((jy+1):Nat):Int)) rfl rfl (w64 om))<|e_mv rfl<|zf<|zaa (jy+1) (show (jy+1)≤hn∧∀yy:Nat,yy<(jy+1)→∀xx:Nat,xx<wn→Rd.in16 (Rd.gn (x1.getD 0) (x2.getD 0) cx cy ((xx:Nat):Int) ((yy:Nat):Int)) from by refine ⟨by omega,fun y hy2 x hx2=> ?_⟩;by_cases e:y=jy;subst e;exact hallx x om;exact hally y om x hx2) (by show hn - (jy+1)<hn - jy;omega) ((.of rfl):SubM _ _) (ho:=((.of [0,0] rfl):PickO _ _ _)) ((.of [0,1,2,3,4] rfl):SelR _ _ _)
    ·
     refine zda<|zi<|zi<|zr<|zc<|ze<|za<|e_p (zb rfl)<|zf<|zc<|zJ ?_
     exact zy yp () trivial (zo rfl) (by rw [Rd.ckC_0 hcc hrr (fun y h1 x h2=>hally y om x om)]) (ho:=(.n:PickO _ _ _)) (.n:SelR _ _ _)
end Go.Proofs.YtkohlohbogpooaaGreat.Sp
namespace Go.Proofs.YtkohlohbogpooaaGreat.Sp
open Go
set_option linter.unusedVariables false
set_option maxRecDepth 100000
set_option maxHeartbeats 8000000
theorem zce {w:Int} {h:Int} {m:Int} {p:Option Addr} {n:Nat} {cap:Nat} {bb:Nat} {u:Int}:Con yh 90 [ya yb u,yc (some ⟨bb,0,none⟩)] [] [atF bb 0 [ya yb w,ya yb h,ya yb m,.slice p n cap]] (Y:=Unit) (fun y=>True) (fun y=> .bool (decide (u<0∨m<u))) (fun y=>[]) (fun y=>[]):=by
 refine zl Tryz.func90 rfl rfl rfl (fun c=> ?_)
 show RunC _ _ _ _ _ [(0,ya yb u),(1,yc (some ⟨bb,0,none⟩))] [] [atF bb 0 [ya yb w,ya yb h,ya yb m,.slice p n cap]]
 refine ze<|za<|e_p (zb rfl)<|zf<|zc<|zGa (X:=Unit) (fun x=>True) (fun x=>[(3,.bool (decide ((u<0)∨(m<u))))]) (fun x=>[]) (fun x=>[atF bb 0 [ya yb w,ya yb h,ya yb m,.slice p n cap]]) ?_ ?_
 ·
  refine za<|e_mv rfl<|e_p (zT rfl rfl)<|zW rfl rfl (zba rfl) (fun h1=> ?_) (fun h1=> ?_)
  ·
   refine e_no<|e_no<|e_no<|e_no<|e_p (zn rfl rfl)<|e_p (zb rfl)<|zf ?_
   exact zia () (show True from by first|trivial|omega|simp_all) ((.e rfl (congrArg Value.bool cbu) .n):SubM _ _) (ho:=(.n:PickO _ _ _)) ((.c (j:=0) rfl .n):SelR _ _ _)
  ·
   refine e_mv rfl<|e_p (zh yg rfl sz3 rfl rfl)<|e_ru (zj (j:=2) 0 ty3 rfl rfl rfl rfl)<|e_p (zna rfl rfl)<|e_p (zn rfl rfl)<|e_p (zb rfl)<|zf ?_
   exact zia () (show True from by first|trivial|omega|simp_all) ((.e rfl (congrArg Value.bool cbu) .n):SubM _ _) (ho:=(.n:PickO _ _ _)) ((.c (j:=0) rfl .n):SelR _ _ _)
 ·
  rintro ⟨⟩ -
  try dsimp only
  refine zJ ?_
  exact zy Tryz.results90 () trivial (zo rfl) rfl (ho:=(.n:PickO _ _ _)) (.n:SelR _ _ _)
theorem zSc {w:Int} {h:Int} {m:Int} {p:Option Addr} {n:Nat} {cap:Nat} {l:List Int} {bb:Nat} (hn:l.length=n):Con yh 112 [.slice p n cap,.func (.func 90) #[] #[yc (some ⟨bb,0,none⟩)]] [] [slF (rI .i64) p cap l,atF bb 0 [ya yb w,ya yb h,ya yb m,.slice p n cap]] (Y:=Int) (fun y=>(0≤y↔∃g∈l,g<0∨m<g)) (fun y=> ya yb y) (fun y=>[]) (fun y=>[]):=by
 refine zl Tryz.func112 rfl rfl rfl (fun c=> ?_)
 show RunC _ _ _ _ _ [(0,.slice p n cap),(1,.func (.func 90) #[] #[yc (some ⟨bb,0,none⟩)])] [] [slF (rI .i64) p cap l,atF bb 0 [ya yb w,ya yb h,ya yb m,.slice p n cap]]
 refine zY 0 rfl (fun hL0=> ?_)
 refine ze<|za<|e_p (zb rfl)<|zf<|zc<|ze<|ze<|za<|e_mv rfl<|e_p (zD yf rfl)<|e_mv rfl<|zf<|zc<|zt<|zea (X:=Nat) (fun x:Nat=>x≤n∧∀j,j<x→¬(l.getD j 0<0∨m<l.getD j 0)) (fun x=>[(8,ya yb ((x:Nat):Int)),(7,ya yb ((n:Nat):Int)),(0,.slice p n cap),(1,.func (.func 90) #[] #[yc (some ⟨bb,0,none⟩)])]) (fun x=>[]) (fun x=>[slF (rI .i64) p cap l,atF bb 0 [ya yb w,ya yb h,ya yb m,.slice p n cap]]) (fun x:Nat=>n - x) 0 (show 0≤n∧∀j,j<0→¬(l.getD j 0<0∨m<l.getD j 0) from by exact ⟨by omega,fun j h=>by omega⟩) ((.e rfl (by first|rfl|(congr 1;omega)|simp_all) (.of rfl)):SubM _ _) (ho:=(.n:PickO _ _ _)) ((.of [0,1] rfl):SelR _ _ _) ?_
 rintro i hI
 replace hI:i≤n∧∀j,j<i→¬(l.getD j 0<0∨m<l.getD j 0):=hI
 try dsimp only
 obtain ⟨hi,hall⟩:=hI
 refine ze<|za<|e_p (zT rfl rfl)<|zf<|zc<|ze<|zB rfl (fun h1=> ?_) (fun h1=> ?_)
 ·
  refine zv<|zc<|ze<|zt<|ze<|za<|e_mv rfl<|e_p (zb rfl)<|zf<|zc<|ze<|za<|e_mv rfl<|e_mv rfl<|e_mv rfl<|zV (x0:=(l.getD i 0)) 0 i rfl yf sz3 rfl rfl rfl cbs rfl rfl (gD (d:=0) om) (fun b2 o3 hok4=> ?_)
  replace hok4:=zP.1 hok4
  refine e_ru (zj (j:=0) 0 ty3 rfl rfl rfl rfl)<|zCc (first:=[]) (cap:=[yc (some ⟨bb,0,none⟩)]) rfl rfl rfl (.c rfl .n) ce90 (zce (w:=w) (h:=h) (m:=m) (p:=p) (n:=n) (cap:=cap) (bb:=bb) (u:=(l.getD i 0))) (.c (j:=2) rfl .n) ?_
  rintro ⟨⟩ -
  dsimp only [aq,nq,cq]
  refine zf<|zc<|zB rfl (fun hb=> ?_) (fun hb=> ?_)
  ·
   refine ze<|za<|e_mv rfl<|e_p (zb rfl)<|zf<|zc<|zJ<|zS<|zm<|zm<|zS<|zm ?_
   exact zy Tryz.results112 ((i:Nat):Int) (⟨fun _=>⟨l.getD i 0,Big.getD_mem om,hb⟩,fun _=>by omega⟩) (zo rfl) rfl (ho:=(.n:PickO _ _ _)) (.n:SelR _ _ _)
  ·
   refine zv<|zM<|zc<|za<|e_p (zH (z:=(((i+1):Nat):Int)) rfl rfl (w64 om))<|e_mv rfl<|zf<|zaa (i+1) (show (i+1)≤n∧∀j,j<(i+1)→¬(l.getD j 0<0∨m<l.getD j 0) from by refine ⟨by omega,fun j hj=> ?_⟩;by_cases e:j=i;subst e;exact hb;exact hall j om) (by show n - (i+1)<n - i;omega) ((.of rfl):SubM _ _) (ho:=(.n:PickO _ _ _)) ((.of [1,2] rfl):SelR _ _ _)
 ·
  refine zda<|zi<|zi<|zr<|zc<|ze<|za<|e_p (zb rfl)<|zf<|zc<|zJ ?_
  exact zy Tryz.results112 (-1) (⟨fun h=>by omega,fun ⟨g,hg,hb⟩=>by obtain ⟨j,hj,e⟩:=Big.mem_getD hg;have:=hall j om;rw [e] at this;exact absurd hb this⟩) (zo rfl) rfl (ho:=(.n:PickO _ _ _)) (.n:SelR _ _ _)
theorem zjc {w:Int} {h:Int} {m:Int} {p:Option Addr} {n:Nat} {cap:Nat} {l:List Int} {bb:Nat} (hn:l.length=n):Con yh 74 [.slice p n cap,.func (.func 90) #[] #[yc (some ⟨bb,0,none⟩)]] [] [slF (rI .i64) p cap l,atF bb 0 [ya yb w,ya yb h,ya yb m,.slice p n cap]] (Y:=Unit) (fun y=>True) (fun y=> .bool (decide (∃g∈l,g<0∨m<g))) (fun y=>[]) (fun y=>[]):=by
 refine zl Tryz.func74 rfl rfl rfl (fun c=> ?_)
 show RunC _ _ _ _ _ [(0,.slice p n cap),(1,.func (.func 90) #[] #[yc (some ⟨bb,0,none⟩)])] [] [slF (rI .i64) p cap l,atF bb 0 [ya yb w,ya yb h,ya yb m,.slice p n cap]]
 refine zY 0 rfl (fun hL0=> ?_)
 refine ze<|za<|e_p (zb rfl)<|zf<|zc<|ze<|za<|e_mv rfl<|e_mv rfl<|zu rfl rfl (.c rfl (.c rfl .n)) ce112 (zSc (w:=w) (h:=h) (m:=m) (p:=p) (n:=n) (cap:=cap) (l:=l) (bb:=bb) (hn:=ass)) (.c (j:=0) rfl (.c (j:=1) rfl .n)) ?_
 rintro r1 hr
 dsimp only [aq,nq,cq]
 replace hr:(0≤r1↔∃g∈l,g<0∨m<g):=hr
 refine e_p (zIa rfl rfl)<|e_p (zb rfl)<|zf<|zc<|zJ ?_
 exact zy Tryz.results74 () trivial (zo rfl) (congrArg Value.bool (decide_eq_decide.2 hr.symm)) (ho:=(.n:PickO _ _ _)) (.n:SelR _ _ _)
theorem zTe {w:Int} {h:Int} {m:Int} {p:Option Addr} {n:Nat} {cap:Nat} {l:List Int} (hn:l.length=n):Con yh 57 [.agg #[ya yb w,ya yb h,ya yb m,.slice p n cap]] [] [slF (rI .i64) p cap l] (Y:=Unit) (fun y=>True) (fun y=> ya yb (if Bl.rok w h m l then 0 else 1)) (fun y=>[]) (fun y=>[]):=by
 refine zl Tryz.func57 rfl rfl rfl (fun c=> ?_)
 show RunC _ _ _ _ _ [(0,.agg #[ya yb w,ya yb h,ya yb m,.slice p n cap])] [] [slF (rI .i64) p cap l]
 refine zY 0 rfl (fun hL0=> ?_)
 refine ze<|za<|zK rfl rfl (zU rfl rfl) (fun b1=> ?_)
 refine e_p (zb rfl)<|zf<|zc<|ze<|zGa (X:=Unit) (fun x=>True) (fun x=>[(34,.bool (decide (¬((1≤w∧w≤64)∧(1≤h∧h≤64)∧(1≤m∧m≤65535)∧(n:Int)=w*h)))),(2,ya yb 0),(1,yc (some ⟨b1,0,none⟩))]) (fun x=>[boxA b1 44 [ya yb w,ya yb h,ya yb m,.slice p n cap]]) (fun x=>[slF (rI .i64) p cap l]) ?_ ?_
 ·
  refine za<|e_p (zh yg rfl sz3 rfl rfl)<|e_ru (zg 0 ty3 rfl rfl rfl)<|e_p (zh yg rfl sz3 rfl rfl)<|e_ru (zg 0 ty3 rfl rfl rfl)<|e_p (zh yg rfl sz3 rfl rfl)<|e_ru (zg 0 ty3 rfl rfl rfl)<|e_p (zpg rfl rfl rfl)<|e_p (zT rfl rfl)<|zW rfl rfl (zba rfl) (fun h2=> ?_) (fun h2=> ?_)
  ·
   refine e_no<|e_no<|e_no<|e_no<|e_no<|e_no<|e_p (zn rfl rfl)<|e_mv rfl<|e_no<|e_no<|e_no<|e_p (zn rfl rfl)<|e_mv rfl<|e_no<|e_no<|e_no<|e_no<|e_no<|e_no<|e_no<|e_no<|e_no<|e_p (zn rfl rfl)<|zf ?_
   exact zia () (show True from by first|trivial|omega|simp_all) ((.e rfl (congrArg Value.bool (by exact Eq.symm (decide_eq_true om))) (.c rfl (.c rfl .n))):SubM _ _) (ho:=((.c (i:=0) rfl .n):PickO _ _ _)) ((.c (j:=0) rfl .n):SelR _ _ _)
  ·
   refine e_p (zh yg rfl sz3 rfl rfl)<|e_ru (zg 0 ty3 rfl rfl rfl)<|e_p (zh yg rfl sz3 rfl rfl)<|e_ru (zg 0 ty3 rfl rfl rfl)<|e_p (zeg rfl rfl)<|e_p (zna rfl rfl)<|e_p (zn rfl rfl)<|zW rfl rfl (zba rfl) (fun h3=> ?_) (fun h3=> ?_)
   ·
    refine e_no<|e_no<|e_no<|e_p (zn rfl rfl)<|e_mv rfl<|e_no<|e_no<|e_no<|e_no<|e_no<|e_no<|e_no<|e_no<|e_no<|e_p (zn rfl rfl)<|zf ?_
    exact zia () (show True from by first|trivial|omega|simp_all) ((.e rfl (congrArg Value.bool (by exact Eq.symm (decide_eq_true om))) (.c rfl (.c rfl .n))):SubM _ _) (ho:=((.c (i:=0) rfl .n):PickO _ _ _)) ((.c (j:=0) rfl .n):SelR _ _ _)
   ·
    refine e_p (zh yg rfl sz3 rfl rfl)<|e_ru (zg 0 ty3 rfl rfl rfl)<|e_p (zna rfl rfl)<|e_p (zn rfl rfl)<|zW rfl rfl (zba rfl) (fun h4=> ?_) (fun h4=> ?_)
    ·
     refine e_no<|e_no<|e_no<|e_no<|e_no<|e_no<|e_no<|e_no<|e_no<|e_p (zn rfl rfl)<|zf ?_
     exact zia () (show True from by first|trivial|omega|simp_all) ((.e rfl (congrArg Value.bool (by exact Eq.symm (decide_eq_true om))) (.c rfl (.c rfl .n))):SubM _ _) (ho:=((.c (i:=0) rfl .n):PickO _ _ _)) ((.c (j:=0) rfl .n):SelR _ _ _)
    ·
     refine e_p (zh yg rfl sz42 rfl rfl)<|e_ru (zg 0 ty42 rfl rfl rfl)<|e_p (zD yf rfl)<|e_p (zh yg rfl sz3 rfl rfl)<|e_ru (zg 0 ty3 rfl rfl rfl)<|e_p (zh yg rfl sz3 rfl rfl)<|e_ru (zg 0 ty3 rfl rfl rfl)<|e_p (zwa (z:=(w*h)) rfl rfl (w64 (by first|omega|(have:=Bl.mul_b (x:=w) (y:=h) (m:=64) (n:=64) om om;omega))))<|e_p (zAa rfl rfl)<|e_p (zn rfl rfl)<|zf ?_
     exact zia () (show True from by first|trivial|omega|simp_all) ((.e rfl (congrArg Value.bool (by exact decide_eq_decide.2 (by constructor <;> intro k <;> omega))) (.c rfl (.c rfl .n))):SubM _ _) (ho:=((.c (i:=0) rfl .n):PickO _ _ _)) ((.c (j:=0) rfl .n):SelR _ _ _)
 ·
  rintro ⟨⟩ -
  try dsimp only
  refine zB rfl (fun h5=> ?_) (fun h5=> ?_)
  ·
   refine ze<|za<|e_p (zb rfl)<|zf<|zc<|zJ<|zm ?_
   exact zy Tryz.results57 () trivial (zo rfl) (by rw [if_neg (fun k=>by unfold Bl.rok at k;omega)]) (ho:=(.n:PickO _ _ _)) (.n:SelR _ _ _)
  ·
   refine zv<|zc<|ze<|ze<|zgb 0 rfl .z<|za<|e_p (zh yg rfl sz42 rfl rfl)<|e_ru (zj (j:=3) 0 ty42 rfl rfl rfl rfl)<|e_p (zHa .n (.c rfl .n))<|zQ rfl rfl (.c rfl (.c rfl .n)) ce74 (zjc (w:=w) (h:=h) (m:=m) (p:=p) (n:=n) (cap:=cap) (l:=l) (bb:=b1) (hn:=ass)) (.c (j:=1) rfl (.c (j:=0) rfl .n))<|zf<|zc<|zB rfl (fun hx=> ?_) (fun hx=> ?_)
   ·
    refine ze<|za<|e_p (zb rfl)<|zf<|zc<|zJ<|zm ?_
    exact zy Tryz.results57 () trivial (zo rfl) (by rw [if_neg (fun k=>k.2.2.2.2 hx)]) (ho:=(.n:PickO _ _ _)) (.n:SelR _ _ _)
   ·
    refine zv<|zc<|ze<|za<|e_p (zb rfl)<|zf<|zc<|zJ ?_
    exact zy Tryz.results57 () trivial (zo rfl) (by rw [if_pos (show Bl.rok w h m l from ⟨by omega,by omega,by omega,by omega,hx⟩)]) (ho:=(.n:PickO _ _ _)) (.n:SelR _ _ _)
theorem zFf {p:Option Addr} {n:Nat} {cap:Nat} {l:List (Int)} (hn:l.length=n) (hb:n≤1099511627776):Con yh 58 [.slice p n cap] [] [slF (rI .i64) p cap l] (Y:=(Option Addr)×Nat) (fun y=>True) (fun y=> .slice (y.1) (l.length) (y.2)) (fun y=>[rowA 3 (rI .i64) (y.1) (y.2) l]) (fun y=>[]):=by
 refine zl Tryz.func58 rfl rfl rfl (fun c=> ?_)
 show RunC _ _ _ _ _ [(0,.slice p n cap)] [] [slF (rI .i64) p cap l]
 refine zY 0 rfl (fun hL0=> ?_)
 refine c_nil 0 rfl (fun hnil=> ?_)
 refine ze<|za<|e_p (zb rfl)<|zf<|zc<|ze<|ze<|za<|e_mv rfl<|e_p (zmc yf rfl rfl)<|zf<|zc<|zPb rfl (fun h0=> ?_) (fun h0=> ?_)
 ·
  refine ze<|za<|e_p (zb rfl)<|zf<|zc<|zJ<|zm ?_
  obtain rfl:l=[]:=hnil (by simpa using h0)
  refine zKf 3 (rI .i64) ?_
  exact zy Tryz.results58 (none,0) trivial (zo rfl) rfl (ho:=((.c (i:=0) rfl .n):PickO _ _ _)) (.n:SelR _ _ _)
 ·
  refine zv<|zc<|ze<|za<|zra rfl rfl (zpa (rI .i64) yf inf3) (fun b1 _=> ?_)
  refine e_mv rfl<|zza 0 rfl rfl rfl (zsa 0 rfl yf inf3 dd rfl rfl cbs rfl cbs (by first|omega|(simp;omega)) (by first|omega|(simp;omega))) (fun _=> .z) ?_
  rintro ⟨p2,c3⟩ -
  dsimp only [aq,nq,cq]
  refine e_p (zb rfl)<|zf<|zc<|zJ ?_
  exact zy Tryz.results58 (p2,c3) trivial (zo rfl) (by simp [hn]) (ho:=((.c (i:=0) rfl .n):PickO _ _ _)) (.n:SelR _ _ _)
theorem zGf {p1:Option Addr} {n1:Nat} {c1:Nat} {l1:List Int} {p2:Option Addr} {n2:Nat} {c2:Nat} {l2:List Int} (hn1:l1.length=n1) (hn2:l2.length=n2):Con yh 40 [.slice p1 n1 c1,.slice p2 n2 c2] [] [slF (rI .i64) p1 c1 l1,slF (rI .i64) p2 c2 l2] (Y:=Unit) (fun y=>True) (fun y=> .bool (decide (l1=l2))) (fun y=>[]) (fun y=>[]):=by
 refine zl Tryz.func40 rfl rfl rfl (fun c=> ?_)
 show RunC _ _ _ _ _ [(0,.slice p1 n1 c1),(1,.slice p2 n2 c2)] [] [slF (rI .i64) p1 c1 l1,slF (rI .i64) p2 c2 l2]
 refine zY 0 rfl (fun hL0=> ?_)
 refine zY 1 rfl (fun hL1=> ?_)
 refine ze<|za<|e_p (zb rfl)<|zf<|zc<|ze<|ze<|za<|e_mv rfl<|e_p (zD yf rfl)<|e_mv rfl<|e_p (zD yf rfl)<|e_p (zAa rfl rfl)<|zf<|zc<|zB rfl (fun hlen=> ?_) (fun hlen=> ?_)
 ·
  refine ze<|za<|e_p (zb rfl)<|zf<|zc<|zJ<|zm ?_
  exact zy Tryz.results40 () trivial (zo rfl) (congrArg Value.bool (decide_eq_false (fun h=>hlen (by rw [← hn1,←hn2,h])))) (ho:=(.n:PickO _ _ _)) (.n:SelR _ _ _)
 ·
  refine zv<|zc<|ze<|ze<|za<|e_mv rfl<|e_p (zD yf rfl)<|e_mv rfl<|zf<|zc<|zt<|zea (X:=Nat) (fun x:Nat=>x≤n1∧∀j,j<x→l1.getD j 0=l2.getD j 0) (fun x=>[(13,ya yb ((x:Nat):Int)),(12,ya yb ((n1:Nat):Int)),(0,.slice p1 n1 c1),(1,.slice p2 n2 c2)]) (fun x=>[]) (fun x=>[slF (rI .i64) p1 c1 l1,slF (rI .i64) p2 c2 l2]) (fun x:Nat=>n1 - x) 0 (show 0≤n1∧∀j,j<0→l1.getD j 0=l2.getD j 0 from by exact ⟨by omega,fun j h=>by omega⟩) ((.e rfl (by first|rfl|(congr 1;omega)|simp_all) (.of rfl)):SubM _ _) (ho:=(.n:PickO _ _ _)) ((.of [0,1] rfl):SelR _ _ _) ?_
  rintro i hI
  replace hI:i≤n1∧∀j,j<i→l1.getD j 0=l2.getD j 0:=hI
  try dsimp only
  obtain ⟨hi,hall⟩:=hI
  refine ze<|za<|e_p (zT rfl rfl)<|zf<|zc<|ze<|zB rfl (fun h1=> ?_) (fun h1=> ?_)
  ·
   refine zv<|zc<|ze<|zt<|ze<|za<|e_mv rfl<|e_p (zb rfl)<|zf<|zc<|ze<|zZ (OW:=[]) (O:=[]) 100000 mixed (.then (.block (.then (.then (.block (.then .ret)))))) kr<|e_dm 0 rfl rfl rfl<|e_dm 1 rfl rfl rfl<|zoa (x0:=(l1.getD i 0)) 2 rfl rfl kr kr 0 i rfl yf sz3 rfl rfl rfl cbs rfl rfl (gD (d:=0) om) (fun b2 o3 hok4=> ?_)
   replace hok4:=zP.1 hok4
   refine e_u 3 rfl rfl (zj (j:=0) 0 ty3 rfl rfl rfl rfl)<|e_dm 4 rfl rfl rfl<|e_dm 5 rfl rfl rfl<|zoa (x0:=(l2.getD i 0)) 6 rfl rfl kr kr 2 i rfl yf sz3 rfl rfl rfl cbs rfl rfl (gD (d:=0) om) (fun b5 o6 hok7=> ?_)
   replace hok7:=zP.1 hok7
   refine e_u 7 rfl rfl (zj (j:=0) 0 ty3 rfl rfl rfl rfl)<|e_pv 8 rfl rfl (zAa rfl rfl)<|zX kr<|zc<|zB rfl (fun hd=> ?_) (fun hd=> ?_)
   ·
    refine ze<|za<|e_p (zb rfl)<|zf<|zc<|zJ<|zS<|zm<|zm<|zS<|zm ?_
    exact zy Tryz.results40 () trivial (zo rfl) (congrArg Value.bool (decide_eq_false (fun h=>hd (by simp [h])))) (ho:=(.n:PickO _ _ _)) (.n:SelR _ _ _)
   ·
    refine zv<|zM<|zc<|za<|e_p (zH (z:=(((i+1):Nat):Int)) rfl rfl (w64 om))<|e_mv rfl<|zf<|zaa (i+1) (show (i+1)≤n1∧∀j,j<(i+1)→l1.getD j 0=l2.getD j 0 from by refine ⟨by omega,fun j hj=> ?_⟩;by_cases e:j=i;rw [e];exact Decidable.not_not.1 hd;exact hall j om) (by show n1 - (i+1)<n1 - i;omega) ((.of rfl):SubM _ _) (ho:=(.n:PickO _ _ _)) ((.of [2,3] rfl):SelR _ _ _)
  ·
   refine zda<|zi<|zi<|zr<|zc<|ze<|za<|e_p (zb rfl)<|zf<|zc<|zJ ?_
   exact zy Tryz.results40 () trivial (zo rfl) (congrArg Value.bool (decide_eq_true (Big.ext_getD om (fun j hj=>hall j om)))) (ho:=(.n:PickO _ _ _)) (.n:SelR _ _ _)
end Go.Proofs.YtkohlohbogpooaaGreat.Sp
namespace Go.Proofs.YtkohlohbogpooaaGreat.Sp
open Go
set_option linter.unusedVariables false
set_option maxRecDepth 100000
set_option maxHeartbeats 8000000
theorem zde {cx:Int} {cy:Int} {u1:Wd} {v1:Wd} {x1:Option Rat} {u2:Wd} {v2:Wd} {x2:Option Rat} {w:Int} {h:Int} {m:Int} {p:Option Addr} {n:Nat} {cap:Nat} {l:List Int} (hq1:ym (x1.getD 0)≤100) (hq2:ym (x2.getD 0)≤100) (hn:l.length=n):Con yh 21 [.agg #[ya yb cx,ya yb cy,u1.b,u1.l,v1.b,v1.l,u2.b,u2.l,v2.b,v2.l],.agg #[ya yb w,ya yb h,ya yb m,.slice p n cap]] [] [eF u1 v1 x1,eF u2 v2 x2,slF (rI .i64) p cap l] (Y:=(Option Addr)×Nat×(List Int)) (fun y=>((if Bl.rok w h m l then Rd.ckC x1 x2 cx cy w h else 1)=0→y.2.2=Rd.out l (Rd.cor (x1.getD 0) (x2.getD 0) cx cy ((w:Int).toNat) m l))∧((if Bl.rok w h m l then Rd.ckC x1 x2 cx cy w h else 1)≠0→y.2.2=[])) (fun y=> .tuple #[.agg #[ya yb (if (if Bl.rok w h m l then Rd.ckC x1 x2 cx cy w h else 1)=0 then w else 0),ya yb (if (if Bl.rok w h m l then Rd.ckC x1 x2 cx cy w h else 1)=0 then h else 0),ya yb (if (if Bl.rok w h m l then Rd.ckC x1 x2 cx cy w h else 1)=0 then m else 0),.slice (y.1) (y.2.2.length) (y.2.1)],ya yb (if Bl.rok w h m l then Rd.ckC x1 x2 cx cy w h else 1)]) (fun y=>[]) (fun y=>[slF (rI .i64) (y.1) (y.2.1) (y.2.2)]):=by
 refine zl Tryz.func21 rfl rfl rfl (fun c=> ?_)
 show RunC _ _ _ _ _ [(0,.agg #[ya yb cx,ya yb cy,u1.b,u1.l,v1.b,v1.l,u2.b,u2.l,v2.b,v2.l]),(1,.agg #[ya yb w,ya yb h,ya yb m,.slice p n cap])] [] [eF u1 v1 x1,eF u2 v2 x2,slF (rI .i64) p cap l]
 refine zY 2 rfl (fun hL2=> ?_)
 refine ze<|za<|zK rfl rfl (zU rfl rfl) (fun b1=> ?_)
 refine zK rfl rfl (zU rfl rfl) (fun b2=> ?_)
 refine zK rfl rfl (zw zr44 rfl) (fun b3=> ?_)
 refine e_p (zb rfl)<|zf<|zc<|ze<|ze<|za<|e_ru (zd 1 ty44 rfl rfl (.t4 .nil))<|zQ rfl rfl (.c rfl .n) ce57 (zTe (w:=w) (h:=h) (m:=m) (p:=p) (n:=n) (cap:=cap) (l:=l) (hn:=ass)) (.c (j:=2) rfl .n)<|e_p (zb rfl)<|zf<|zc<|ze<|za<|e_mv rfl<|e_p (zAa rfl rfl)<|zf<|zc<|zB rfl (fun h13=> ?_) (fun h13=> ?_)
 ·
  have hno:¬Bl.rok w h m l:=fun k=>h13 (if_pos k)
  refine ze<|za<|e_p (zN zr44 rfl yg (.c sz3 (.c sz3 (.c sz3 (.c sz42 .n)))) .n .n)<|e_mv rfl<|zk 0 rfl rfl rfl rfl rfl sz44 rfl (.t4 .nil) .z<|e_p (zb rfl)<|zf<|zc<|zJ<|zm<|zqb (rI .i64) ?_
  have hof:(if Bl.rok w h m l then Rd.ckC x1 x2 cx cy w h else 1)=1:=if_neg hno
  exact zqa Tryz.results21 (none,0,([]:List Int)) (⟨fun k=>absurd (hof.symm.trans k) dd,fun _=>rfl⟩) (zp 0 ty44 rfl rfl (.t4 .nil)) (zo rfl) (by rw [hof];rw [if_neg hno];rfl) (ho:=(.n:PickO _ _ _)) ((.c (j:=0) rfl .n):SelR _ _ _)
 ·
  have hrok:Bl.rok w h m l:=Decidable.byContradiction fun k=>h13 (by rw [if_neg k];decide)
  have hC:(if Bl.rok w h m l then Rd.ckC x1 x2 cx cy w h else 1)=Rd.ckC x1 x2 cx cy w h:=if_pos hrok
  refine zv<|zc<|ze<|ze<|za<|e_ru (zd 2 ty30 rfl rfl (.t8 (.t2 .nil)))<|e_p (zh yg rfl sz3 rfl rfl)<|e_ru (zg 1 ty3 rfl rfl rfl)<|e_p (zh yg rfl sz3 rfl rfl)<|e_ru (zg 1 ty3 rfl rfl rfl)<|zQ rfl rfl (.c rfl (.c rfl (.c rfl .n))) ce15 (zSe (cx:=cx) (cy:=cy) (u1:=u1) (v1:=v1) (x1:=x1) (u2:=u2) (v2:=v2) (x2:=x2) (w:=w) (h:=h) (hq1:=ass) (hq2:=ass)) (.c (j:=0) rfl (.c (j:=1) rfl .n))<|e_p (zb rfl)<|zf<|zc<|ze<|za<|e_mv rfl<|e_p (zAa rfl rfl)<|zf<|zc<|zB rfl (fun h23=> ?_) (fun h23=> ?_)
  ·
   refine ze<|za<|e_p (zN zr44 rfl yg (.c sz3 (.c sz3 (.c sz3 (.c sz42 .n)))) .n .n)<|e_mv rfl<|zk 0 rfl rfl rfl rfl rfl sz44 rfl (.t4 .nil) .z<|e_p (zb rfl)<|zf<|zc<|zJ<|zm<|zqb (rI .i64) ?_
   exact zqa Tryz.results21 (none,0,([]:List Int)) (⟨fun k=>absurd (hC.symm.trans k) h23,fun _=>rfl⟩) (zp 0 ty44 rfl rfl (.t4 .nil)) (zo rfl) (by rw [hC,if_neg h23,if_neg h23,if_neg h23];rfl) (ho:=(.n:PickO _ _ _)) ((.c (j:=0) rfl .n):SelR _ _ _)
  ·
   have hk0:Rd.ckC x1 x2 cx cy w h=0:=Decidable.not_not.1 h23
   obtain ⟨hcc,hcr,hca⟩:=Rd.ckC_ok hk0
   have hC0:(if Bl.rok w h m l then Rd.ckC x1 x2 cx cy w h else 1)=0:=hC.trans hk0
   have hro:=hrok
   unfold Bl.rok at hro
   have hb9:=Bl.mul_b (x:=w) (y:=h) (m:=64) (n:=64) om om
   have hce:=hcr.1
   unfold Rd.cent at hce
   refine zWc (qF x1.isSome u1 v1 (x1.getD 0)) (eF_weak 0 rfl)<|zWc (qF x2.isSome u2 v2 (x2.getD 0)) (eF_weak 2 rfl) ?_
   have e4:x1.isSome=true:=by exact hcc.1
   rw [e4]
   have e5:x2.isSome=true:=by exact hcc.2
   rw [e5]
   refine zv<|zc<|ze<|za<|e_p (zh yg rfl sz42 rfl rfl)<|e_ru (zg 1 ty42 rfl rfl rfl)<|zu rfl rfl (.c rfl .n) ce58 (zFf (p:=p) (n:=n) (cap:=cap) (l:=l) (hn:=ass) (hb:=cbo)) (.c (j:=4) rfl .n) ?_
   rintro ⟨p26,c27⟩ -
   dsimp only [aq,nq,cq]
   refine e_p (zh yg rfl sz42 rfl rfl)<|zk 2 rfl rfl rfl rfl rfl sz42 rfl (.s2 (.skip (.take .nil))) (.s (.s .z))<|zf<|zc<|ze<|ze ?_
   obtain ⟨wn,e8⟩:∃q:Nat,w=(q:Int):=⟨w.toNat,by omega⟩
   subst e8
   have hnat:l.length=wn*h.toNat:=Rd.nat_of hro.2.2.2.1 om
   refine za<|e_p (zh yg rfl sz42 rfl rfl)<|e_ru (zg 2 ty42 rfl rfl rfl)<|e_p (zD yf rfl)<|e_mv rfl<|zf<|zc<|zt<|zea (X:=Nat) (fun x:Nat=>x≤n) (fun x=>[(33,ya yb ((x:Nat):Int)),(32,ya yb ((l.length:Nat):Int)),(31,.slice p26 (l.length) c27),(5,ya yb 0),(4,yc (some ⟨b3,0,none⟩)),(3,yc (some ⟨b2,0,none⟩)),(2,yc (some ⟨b1,0,none⟩))]) (fun x=>[rowA 3 (rI .i64) p26 c27 (Rd.pz x l (Rd.cor (x1.getD 0) (x2.getD 0) cx cy wn m l)),boxA b3 44 [ya yb 0,ya yb 0,ya yb 0,.slice none 0 0],boxA b2 44 [ya yb ((wn:Nat):Int),ya yb h,ya yb m,.slice p26 (l.length) c27],boxA b1 30 [ya yb cx,ya yb cy,u1.b,u1.l,v1.b,v1.l,u2.b,u2.l,v2.b,v2.l]]) (fun x=>[qF true u2 v2 (x2.getD 0),qF true u1 v1 (x1.getD 0),eF u1 v1 x1,eF u2 v2 x2,slF (rI .i64) p cap l]) (fun x:Nat=>n - x) 0 (show 0≤n from by exact Nat.zero_le _) ((.e rfl (by first|rfl|(congr 1;omega)|simp_all) (.of rfl)):SubM _ _) (ho:=((.e (i:=0) rfl (by first|rfl|(rw [← Rd.pz_start])) (.of [0,0,0] rfl)):PickO _ _ _)) ((.of [0,1,2,3,4] rfl):SelR _ _ _) ?_
   rintro i hI
   replace hI:i≤n:=hI
   try dsimp only
   refine ze<|za<|e_p (zT rfl rfl)<|zf<|zc<|ze<|zB rfl (fun h9=> ?_) (fun h9=> ?_)
   ·
    have hix:=Rd.xy_of (w:=wn) (h:=h.toNat) (i:=i) om (by rw [← hnat];omega)
    have hz1:(0:Int)≤((i%wn:Nat):Int):=Int.natCast_nonneg _
    have hz2:(0:Int)≤((i / wn:Nat):Int):=Int.natCast_nonneg _
    have hgi:=hca (i / wn) om (i%wn) om
    have hgq:=Rd.gn_hq (x:=((i%wn:Nat):Int)) (y:=((i / wn:Nat):Int)) hcr.1 om om hq1 hq2
    have hpx:¬(l.getD i 0<0∨m<l.getD i 0):=fun k=>hro.2.2.2.2 ⟨_,Big.getD_mem om,k⟩
    have hpq:=Big.hq_64 (z:=l.getD i 0) om om
    have hmq:=yr ((l.getD i 0:Int):Rat) (Rd.gn (x1.getD 0) (x2.getD 0) cx cy ((i%wn:Nat):Int) ((i / wn:Nat):Int))
    have hfl:=Rd.fl_in (p:=l.getD i 0) (Rd.in16_le hgi) om
    have hgr:=Rd.gr_range (((l.getD i 0:Int):Rat)*Rd.gn (x1.getD 0) (x2.getD 0) cx cy ((i%wn:Nat):Int) ((i / wn:Nat):Int)) (show 0≤m by omega)
    have hpzl:=Rd.pz_len i l (Rd.cor (x1.getD 0) (x2.getD 0) cx cy wn m l)
    refine zv<|zc<|ze<|zt<|ze<|za<|e_mv rfl<|e_ru (zca 0 i rfl yf sz3 rfl (by first|rfl|assumption|omega|exact Rd.pz_len _ _ _|(rw [Rd.pz_len];omega)) rfl rfl om)<|r_vl rfl rfl (zE 0 i rfl ty3 rfl rfl (gD (d:=0) om) rfl) (fun _ hok10=> ?_)
    replace hok10:=zP.1 hok10
    have e11:(Rd.pz i l (Rd.cor (x1.getD 0) (x2.getD 0) cx cy wn m l)).getD i 0=l.getD i 0:=by exact Rd.pz_read om
    rw [e11]
    refine e_p (zb rfl)<|e_p (zb rfl)<|zf<|zc<|zZ (OW:=[rowA 3 (rI .i64) p26 c27 (Rd.pz i l (Rd.cor (x1.getD 0) (x2.getD 0) cx cy wn m l))]) (O:=[boxA b3 44 [ya yb 0,ya yb 0,ya yb 0,.slice none 0 0],boxA b2 44 [ya yb ((wn:Nat):Int),ya yb h,ya yb m,.slice p26 (l.length) c27],boxA b1 30 [ya yb cx,ya yb cy,u1.b,u1.l,v1.b,v1.l,u2.b,u2.l,v2.b,v2.l]]) 20 mixed (.block (.then (.then (.block (.then .ret))))) kr<|e_pv 0 rfl rfl (zh yg rfl sz42 rfl rfl)<|e_uw 1 rfl rfl (zg 2 ty42 rfl rfl rfl)<|e_dm 2 rfl rfl rfl<|e_dm 3 rfl rfl rfl<|e_uw 5 rfl rfl (zd 3 ty30 rfl rfl (.t8 (.t2 .nil)))<|e_dm 6 rfl rfl rfl<|e_pv 7 rfl rfl (zh yg rfl sz3 rfl rfl)<|e_uw 8 rfl rfl (zg 2 ty3 rfl rfl rfl)<|e_pv 9 rfl rfl (zTa (z:=(((i%wn):Nat):Int)) rfl rfl om (remN om om))<|e_dm 10 rfl rfl rfl<|e_pv 11 rfl rfl (zh yg rfl sz3 rfl rfl)<|e_uw 12 rfl rfl (zg 2 ty3 rfl rfl rfl)<|e_pv 13 rfl rfl (zSa (z:=(((i / wn):Nat):Int)) rfl rfl om (by rw [quoN (z:=(((i / wn):Nat):Int)) om om];exact w64 om))<|e_pv 16 rfl rfl (zh yg rfl sz3 rfl rfl)<|e_uw 17 rfl rfl (zg 2 ty3 rfl rfl rfl)<|e_one 4 (zC rfl rfl rfl rfl (.c rfl .n) ce56 (zQa (z:=(l.getD i 0)) (hz:=cbo)) (.n) ?_)
    rintro ⟨w312,w413⟩ -
    dsimp only [aq,nq,cq]
    refine e_one 14 (zC rfl rfl rfl rfl (.c rfl (.c rfl (.c rfl .n))) ce52 (zpd (cx:=cx) (cy:=cy) (u1:=u1) (v1:=v1) (q1:=(x1.getD 0)) (u2:=u2) (v2:=v2) (q2:=(x2.getD 0)) (x9:=(((i%wn):Nat):Int)) (y9:=(((i / wn):Nat):Int)) (hce:=cbo) (hxy:=cbo) (hqA:=ass) (hqB:=ass)) (.c (j:=2) rfl (.c (j:=1) rfl .n)) ?_)
    rintro ⟨w314,w415⟩ -
    dsimp only [aq,nq,cq]
    refine e_one 15 (zC rfl rfl rfl rfl (.c rfl (.c rfl .n)) ce60 (zwb (k1:=true) (u1:=w312) (v1:=w413) (q1:=(((l.getD i 0):Int):Rat)) (k2:=true) (u2:=w314) (v2:=w415) (q2:=(Rd.gn (x1.getD 0) (x2.getD 0) cx cy (((i%wn):Nat):Int) (((i / wn):Nat):Int))) (hl:=cbo)) (.c (j:=1) rfl (.c (j:=0) rfl .n)) ?_)
    rintro ⟨w316,w417⟩ -
    dsimp only [aq,nq,cq]
    refine e_one 18 (zMa rfl rfl rfl rfl (.c rfl (.c rfl .n)) ce59 (zag (u1:=w316) (v1:=w417) (q1:=(((l.getD i 0):Int):Rat)*(Rd.gn (x1.getD 0) (x2.getD 0) cx cy (((i%wn):Nat):Int) (((i / wn):Nat):Int))) (mm:=m) (hl:=cbo) (hm:=cbo) (hub:=cbo)) (.c (j:=0) rfl .n) ?_)
    refine e_uw 19 rfl rfl (zca 0 i rfl yf sz3 rfl (by first|rfl|assumption|omega|exact Rd.pz_len _ _ _|(rw [Rd.pz_len];omega)) rfl rfl om)<|e_one 20 (zob (A':=fun _=>rowA 3 (rI .i64) p26 c27 ((Rd.pz i l (Rd.cor (x1.getD 0) (x2.getD 0) cx cy wn m l)).set i (Rd.gr ((((l.getD i 0):Int):Rat)*(Rd.gn (x1.getD 0) (x2.getD 0) cx cy (((i%wn):Nat):Int) (((i / wn):Nat):Int))) m))) kr rfl rfl rfl (zL (j:=i) (x0:=(Rd.gr ((((l.getD i 0):Int):Rat)*(Rd.gn (x1.getD 0) (x2.getD 0) cx cy (((i%wn):Nat):Int) (((i / wn):Nat):Int))) m)) (γ0:=()) rfl rfl (by first|omega|(rw [Rd.pz_len];omega)) rfl rfl sz3 (fun _ _=>by exact zP.2 om)) (fun _ _=> ?_))
    refine zX kr<|zM<|zc<|za<|e_p (zH (z:=(((i+1):Nat):Int)) rfl rfl (w64 om))<|e_mv rfl<|zf<|zaa (i+1) (show (i+1)≤n from by show i+1≤n;omega) (by show n - (i+1)<n - i;omega) ((.of rfl):SubM _ _) (ho:=((.e (i:=0) rfl (by first|rfl|(rw [show Rd.gr _ _=(Rd.cor (x1.getD 0) (x2.getD 0) cx cy wn m l) i from rfl,Rd.pz_step om])) (.of [0,0,0] rfl)):PickO _ _ _)) ((.of [3,4,5,6,7] rfl):SelR _ _ _)
   ·
    refine zda<|zi<|zi<|zr<|zc<|ze<|za<|e_ru (zd 2 ty44 rfl rfl (.t4 .nil))<|zk 1 rfl rfl rfl rfl rfl sz44 rfl (.t4 .nil) (.s .z)<|e_p (zb rfl)<|zf<|zc<|zJ ?_
    have e18:((Rd.pz i l (Rd.cor (x1.getD 0) (x2.getD 0) cx cy wn m l)):List Int)=(Rd.out l (Rd.cor (x1.getD 0) (x2.getD 0) cx cy wn m l)):=by rw [show i=l.length by omega];exact Rd.pz_end _ _
    rw [e18]
    refine zbb 0 rfl .z ?_
    exact zqa Tryz.results21 (p26,c27,(Rd.out l (Rd.cor (x1.getD 0) (x2.getD 0) cx cy wn m l))) (⟨fun _=>rfl,fun k=>absurd hC0 k⟩) (zp 1 ty44 rfl rfl (.t4 .nil)) (zo rfl) (by rw [hC0,if_pos rfl,if_pos rfl,if_pos rfl,Rd.out_len,hn]) (ho:=(.n:PickO _ _ _)) ((.c (j:=0) rfl .n):SelR _ _ _)
end Go.Proofs.YtkohlohbogpooaaGreat.Sp
namespace Go.Proofs.YtkohlohbogpooaaGreat.Rd
set_option linter.unusedVariables false
def sI (f:Nat→Int):Nat→Int
  |0=>0
  |i+1=>sI f i+f i
theorem sI_bn {f:Nat→Int} {B:Int} {N:Nat} (h:∀i,i<N→0≤f i∧f i≤B):∀n:Nat,n≤N→0≤sI f n∧sI f n≤(n:Int)*B
  |0,_=>by unfold sI;simp
  |n+1,hn=>by
    have ih:=sI_bn h n (by omega)
    have:=h n (by omega)
    have e:((n+1:Nat):Int)*B=(n:Int)*B+B:=by rw [Int.natCast_add,Int.add_mul];simp
    unfold sI;omega
theorem sI_mono {f:Nat→Int} {N:Nat} (h:∀i,i<N→0≤f i) {a b:Nat} (hab:a≤b) (hb:b≤N):sI f a≤sI f b:=by
  induction b with
  | zero => have : a = 0 := by omega
            subst this;exact Int.le_refl _
  |succ b ih=>
    by_cases e:a=b+1
    · subst e;exact Int.le_refl _
    · have := ih (by omega) (by omega)
      have:=h b (by omega)
      show sI f a≤sI f b+f b;omega
def lg (l:List Int) (i:Nat):Int:=l.getD i 0
def tot (l:List Int):Int:=sI (lg l) l.length
def cntV (l:List Int):Int×Int:=if ∀i,i<l.length→0≤lg l i∧lg l i≤262144 then (tot l,0) else (0,2)
def okH (l:List Int):Prop:=∀i,i<l.length→0≤lg l i∧lg l i≤262144
instance (l:List Int):Decidable (okH l):=inferInstanceAs (Decidable (∀i,i<l.length→0≤lg l i∧lg l i≤262144))
def tbC (h t:List Int):Int:=
  if 1≤h.length∧h.length≤4096∧1≤t.length∧t.length≤4096 then (if okH h∧okH t then (if tot h≠0∧tot t≠0 then 0 else 13) else 2) else 3
structure At (h t:List Int) (i:Nat) (k:Nat):Prop where
  lt:k<t.length
  ge:sI (lg h) (i+1)*tot t≤sI (lg t) (k+1)*tot h
  no:∀j,j<k→sI (lg t) (j+1)*tot h<sI (lg h) (i+1)*tot t
theorem At.uniq {h t:List Int} {i a b:Nat} (x:At h t i a) (y:At h t i b):a=b:=by
  rcases Nat.lt_trichotomy a b with k|k|k
  · have:=y.no a k;have:=x.ge;omega
  · exact k
  · have:=x.no b k;have:=y.ge;omega
def Tb (h t:List Int) (out:List Int):Prop:=out.length=h.length∧∀i,i<h.length→∃k:Nat,out.getD i 0=(k:Int)∧At h t i k
theorem ext_getI' {a b:List Int} (h:a.length=b.length) (k:∀c,c<a.length→a.getD c 0=b.getD c 0):a=b:=by
  refine List.ext_getElem h fun i h1 h2=> ?_
  have:=k i h1
  rw [List.getD_eq_getElem?_getD,List.getD_eq_getElem?_getD,List.getElem?_eq_getElem h1,List.getElem?_eq_getElem h2] at this
  exact this
theorem Tb.uniq {h t a b:List Int} (x:Tb h t a) (y:Tb h t b):a=b:=ext_getI' (x.1.trans y.1.symm) fun c hc=>by
  rw [x.1] at hc
  obtain ⟨k,e,p⟩:=x.2 c hc
  obtain ⟨j,f,q⟩:=y.2 c hc
  rw [e,f,p.uniq q]
theorem tot_nn {l:List Int} (h:okH l):0≤tot l∧tot l≤(l.length:Int)*262144:=sI_bn (fun i hi=>h i hi) l.length (Nat.le_refl _)
theorem sI_nn {l:List Int} (h:okH l) {i:Nat} (hi:i≤l.length):0≤sI (lg l) i∧sI (lg l) i≤tot l:=
  ⟨(sI_bn (fun i hi=>h i hi) i hi).1,sI_mono (fun i hi=>(h i hi).1) hi (Nat.le_refl _)⟩
theorem more {h t:List Int} (hh:okH h) (ht:okH t) {i k:Nat} (hi:i<h.length) (hk:k<t.length) (hlt:sI (lg t) (k+1)*tot h<sI (lg h) (i+1)*tot t):k+1<t.length:=by
  by_cases e:k+1<t.length
  · exact e
  · exfalso
    have e2:k+1=t.length:=by omega
    rw [e2] at hlt
    have h1:=sI_nn hh (show i+1≤h.length by omega)
    have h2:=(tot_nn ht).1
    have h3:0≤(tot h - sI (lg h) (i+1))*tot t:=Int.mul_nonneg (by omega) h2
    rw [Int.sub_mul] at h3
    have e3:tot t*tot h=tot h*tot t:=Int.mul_comm _ _
    have:sI (lg t) t.length=tot t:=rfl
    rw [this] at hlt
    omega
theorem no_up {h t:List Int} (hh:okH h) (ht:okH t) {i j:Nat} (hi:i+1<h.length) (hlt:sI (lg t) (j+1)*tot h<sI (lg h) (i+1)*tot t):sI (lg t) (j+1)*tot h<sI (lg h) (i+2)*tot t:=by
  have h1:=sI_mono (fun i hi=>(hh i hi).1) (show i+1≤i+2 by omega) (show i+2≤h.length by omega)
  have h2:=(tot_nn ht).1
  have h3:0≤(sI (lg h) (i+2) - sI (lg h) (i+1))*tot t:=Int.mul_nonneg (by omega) h2
  rw [Int.sub_mul] at h3
  omega
theorem At.mono {h t:List Int} (hh:okH h) (ht:okH t) {i a b:Nat} (hi:i+1<h.length) (x:At h t i a) (y:At h t (i+1) b):a≤b:=by
  rcases Nat.lt_or_ge b a with k|k
  · have h1 : sI (lg t) (b + 1) * tot h < sI (lg h) (i + 1 + 1) * tot t := no_up hh ht hi (x.no b k)
    have:=y.ge;omega
  · exact k
theorem cnt_ok {l:List Int} (h:okH l):cntV l=(tot l,0):=if_pos h
theorem cnt_no {l:List Int} (h:¬okH l):cntV l=(0,2):=if_neg h
theorem no_at {h t:List Int} {i k:Nat} (hh:okH h) (ht:okH t) (hi:i<h.length) (hno:∀j,j<k→sI (lg t) (j+1)*tot h<sI (lg h) i*tot t):∀j,j<k→sI (lg t) (j+1)*tot h<sI (lg h) (i+1)*tot t:=fun j hj=>by
  have h1:=sI_mono (fun i hi=>(hh i hi).1) (show i≤i+1 by omega) (show i+1≤h.length by omega)
  have h2:=(tot_nn ht).1
  have h3:0≤(sI (lg h) (i+1) - sI (lg h) i)*tot t:=Int.mul_nonneg (by omega) h2
  rw [Int.sub_mul] at h3
  have:=hno j hj
  omega
theorem Tb_snoc {h t o:List Int} {i k:Nat} (hl:o.length=i) (ho:∀j,j<i→∃k:Nat,o.getD j 0=(k:Int)∧At h t j k) (hk:At h t i k):(o++[(k:Int)]).length=i+1∧∀j,j<i+1→∃k':Nat,(o++[(k:Int)]).getD j 0=(k':Int)∧At h t j k':=by
  refine ⟨by rw [List.length_append,hl];rfl,fun j hj=> ?_⟩
  by_cases e:j=i
  · subst e
    exact ⟨k,by rw [List.getD_eq_getElem?_getD,List.getElem?_append_right (by omega),hl];simp,hk⟩
  · obtain ⟨q, e1, e2⟩ := ho j (by omega)
    exact ⟨q,by rw [← e1,List.getD_eq_getElem?_getD,List.getElem?_append_left (by omega),List.getD_eq_getElem?_getD],e2⟩
end Go.Proofs.YtkohlohbogpooaaGreat.Rd
namespace Go.Proofs.YtkohlohbogpooaaGreat.Sp
open Go
set_option linter.unusedVariables false
section
variable {P : Program} {n : Sz} {m : Fm} {O : List As} {R : List Fa} {d : Option Tmp} {ty : TypeId} {ps : String} {af : Array Edge} {gd : Option (Nat × Bool)} {α : Type}
end
theorem zjg {z:Int}:InK .u8 z↔0≤z∧z≤255:=by simp [InK,IntKind.min,IntKind.max,IntKind.bits,IntKind.signed]
structure Bb where
  (ar le tp rt bt sx sy xx xy yy ms mx my:Int)
deriving DecidableEq
def b0:Bb:=⟨0,0,0,0,0,0,0,0,0,0,0,0,0⟩
end Go.Proofs.YtkohlohbogpooaaGreat.Sp
namespace Go.Proofs.YtkohlohbogpooaaGreat.Sp
open Go
structure Gr where
  (w h m:Int) (p:Option Addr) (n c:Nat)
end Go.Proofs.YtkohlohbogpooaaGreat.Sp
namespace Go.Proofs.YtkohlohbogpooaaGreat.Sp
open Go
set_option linter.unusedVariables false
section
variable {P : Program} {n : Sz} {m : Fm} {O : List As} {R : List Fa} {d : Option Tmp} {ty : TypeId} {ps : String} {af : Array Edge} {gd : Option (Nat × Bool)} {α : Type}
theorem zbg {t T:TypeId} {bytes:Nat} {z:Value} {x y:Operand} {k1 k2:IntKind} {z1 z2:Int} {k:Nat} {r:Rp α} (hu:P.underlying t=some (.slice T)) (hI:Inf P T r.sz bytes z) (h1:evo m x=some (.int k1 z1)) (h2:evo m y=some (.int k2 z2))
    (hz1:z1=0) (hz2:z2=(k:Int)) (hb:bytes*k≤281474976710656) (hm:k≤9223372036854775807) (hzs:z.cells.size=r.sz) (hpos:0<r.sz):
    Ef P n ⟨d,.makeSlice t x y,ty,ps,af,gd⟩ m [] R (Y:=Nat) (fun _=>True) (fun b=> .slice (some ⟨b,0,none⟩) 0 k) (fun b=>[rowA T r (some ⟨b,0,none⟩) k []]) (fun _=>[]):=by
  intro a f w hh g s rr ap hw hg K Q hK
  have e:hh=Hp.emp:=s
  subst e;subst hz1;subst hz2
  obtain ⟨i,hi,hz,hsz,hby⟩:=hI.info
  have hrun:=run_make (P:=P) w t T i z hu hi hz k1 k2 (0:Int) (k:Int) (by omega) (by omega) (by rw [hby,←Int.natCast_mul];generalize bytes*k=q at hb;omega) (by omega)
  have hrun':(execOp a.eval ⟨d,.makeSlice t x y,ty,ps,af,gd⟩).run P w= .ok (.value (.slice (some ⟨w.heap.size,0,none⟩) 0 k)) (w.alloc (.cells (madeCells z.cells (k*r.sz)) T)):=by
    simp only [execOp,f.ev h1,f.ev h2,Sem.run_bind,hrun,Result.andThen_ok,Sem.run_pure,hsz,Int.toNat_natCast]
    rfl
  refine op_value hrun' ?_
  refine hK w.heap.size _ trivial (mem_new hw hg ?_)
  exact .inr ⟨w.heap.size,0,(madeCells z.cells (k*r.sz)).toList,rfl,Nat.zero_le _,by unfold maxLen;omega,by rw [Array.length_toList,size_madeCells,Nat.zero_add];exact Nat.le_refl _,by rw [Array.toArray_toList],fun j x hx=>by simp at hx⟩
end
end Go.Proofs.YtkohlohbogpooaaGreat.Sp
namespace Go.Proofs.YtkohlohbogpooaaGreat.Sp
open Go
set_option linter.unusedVariables false
set_option maxRecDepth 100000
set_option maxHeartbeats 8000000
theorem zAg {p1:Option Addr} {n1:Nat} {c1:Nat} {l1:List Int} {p2:Option Addr} {n2:Nat} {c2:Nat} {l2:List Int} (hn1:l1.length=n1) (hn2:l2.length=n2) (hnn:n2=n1) (hn9:1≤n1∧n1≤4096) (hl1:∀i,i<n1→0≤Rd.lg l1 i∧Rd.lg l1 i≤65535) (hl2:∀i,i<n1→0≤Rd.lg l2 i∧Rd.lg l2 i≤65535) (hdg:((n1:Nat):Int)*(Rd.sI (fun jj=>Rd.lg l1 jj*Rd.lg l1 jj) n1)≠(Rd.sI (Rd.lg l1) n1)*(Rd.sI (Rd.lg l1) n1)):Con yh 47 [.slice p1 n1 c1,.slice p2 n2 c2] [] [slF (rI .i64) p1 c1 l1,slF (rI .i64) p2 c2 l2] (Y:=Wd×Wd×Wd×Wd) (fun y=>True) (fun y=> .tuple #[.agg #[y.1.b,y.1.l,y.2.1.b,y.2.1.l],.agg #[y.2.2.1.b,y.2.2.1.l,y.2.2.2.b,y.2.2.2.l],ya yb 0]) (fun y=>[]) (fun y=>[qF true y.1 y.2.1 (Rat.divInt (((n1:Nat):Int)*(Rd.sI (fun jj=>Rd.lg l1 jj*Rd.lg l2 jj) n1) - (Rd.sI (Rd.lg l1) n1)*(Rd.sI (Rd.lg l2) n1)) (((n1:Nat):Int)*(Rd.sI (fun jj=>Rd.lg l1 jj*Rd.lg l1 jj) n1) - (Rd.sI (Rd.lg l1) n1)*(Rd.sI (Rd.lg l1) n1))),qF true y.2.2.1 y.2.2.2 (Rat.divInt (Rd.sI (Rd.lg l2) n1) ((n1:Nat):Int) - Rat.divInt (((n1:Nat):Int)*(Rd.sI (fun jj=>Rd.lg l1 jj*Rd.lg l2 jj) n1) - (Rd.sI (Rd.lg l1) n1)*(Rd.sI (Rd.lg l2) n1)) (((n1:Nat):Int)*(Rd.sI (fun jj=>Rd.lg l1 jj*Rd.lg l1 jj) n1) - (Rd.sI (Rd.lg l1) n1)*(Rd.sI (Rd.lg l1) n1))*Rat.divInt (Rd.sI (Rd.lg l1) n1) ((n1:Nat):Int))]):=by
 refine zl Tryz.func47 rfl rfl rfl (fun c=> ?_)
 show RunC _ _ _ _ _ [(0,.slice p1 n1 c1),(1,.slice p2 n2 c2)] [] [slF (rI .i64) p1 c1 l1,slF (rI .i64) p2 c2 l2]
 refine zY 0 rfl (fun hL0=> ?_)
 refine zY 1 rfl (fun hL1=> ?_)
 refine ze<|za<|zK rfl rfl (zw zr28 rfl) (fun b1=> ?_)
 refine zK rfl rfl (zw zr28 rfl) (fun b2=> ?_)
 refine e_p (zb rfl)<|zf<|zc<|ze<|za<|e_mv rfl<|e_p (zD yf rfl)<|e_p (zb rfl)<|zf<|zc<|ze<|zGa (X:=Unit) (fun x=>True) (fun x=>[(26,.bool (decide ((((n1:Nat):Int)=0)∨(4096<((n1:Nat):Int))))),(7,ya yb ((n1:Nat):Int)),(6,ya yb 0),(5,yc (some ⟨b2,0,none⟩)),(4,yc (some ⟨b1,0,none⟩)),(0,.slice p1 n1 c1),(1,.slice p2 n2 c2)]) (fun x=>[boxA b2 28 (cw [wz,wz]),boxA b1 28 (cw [wz,wz])]) (fun x=>[slF (rI .i64) p1 c1 l1,slF (rI .i64) p2 c2 l2]) ?_ ?_
 ·
  refine za<|e_mv rfl<|e_p (zta rfl rfl)<|zW rfl rfl (zba rfl) (fun h3=> ?_) (fun h3=> ?_)
  ·
   refine e_no<|e_no<|e_p (zn rfl rfl)<|zf ?_
   exact zia () (show True from by first|trivial|omega|simp_all) ((.e rfl (congrArg Value.bool cbu) (.of rfl)):SubM _ _) (ho:=((.of [0,0] rfl):PickO _ _ _)) ((.of [0,1] rfl):SelR _ _ _)
  ·
   refine e_mv rfl<|e_p (zna rfl rfl)<|e_p (zn rfl rfl)<|zf ?_
   exact zia () (show True from by first|trivial|omega|simp_all) ((.e rfl (congrArg Value.bool cbu) (.of rfl)):SubM _ _) (ho:=((.of [0,0] rfl):PickO _ _ _)) ((.of [0,1] rfl):SelR _ _ _)
 ·
  rintro ⟨⟩ -
  try dsimp only [cw]
  refine zB rfl (fun h26=> ?_) (fun h26=> ?_)
  ·
   exact absurd h26 om
  ·
   refine zv<|zc<|ze<|ze<|za<|e_mv rfl<|e_p (zD yf rfl)<|e_mv rfl<|e_p (zAa rfl rfl)<|zf<|zc<|zB rfl (fun h32=> ?_) (fun h32=> ?_)
   ·
    exact absurd h32 om
   ·
    refine zv<|zc<|ze<|za<|e_p (zb rfl)<|e_p (zb rfl)<|e_p (zb rfl)<|e_p (zb rfl)<|zf<|zc<|ze<|ze<|za<|e_mv rfl<|e_p (zD yf rfl)<|e_mv rfl<|zf<|zc<|zt<|zea (X:=Nat) (fun x:Nat=>x≤n1) (fun x=>[(11,ya yb (Rd.sI (fun jj=>Rd.lg l1 jj*Rd.lg l2 jj) x)),(10,ya yb (Rd.sI (fun jj=>Rd.lg l1 jj*Rd.lg l1 jj) x)),(9,ya yb (Rd.sI (Rd.lg l2) x)),(8,ya yb (Rd.sI (Rd.lg l1) x)),(37,ya yb ((x:Nat):Int)),(36,ya yb ((n1:Nat):Int)),(35,.slice p1 n1 c1),(7,ya yb ((n1:Nat):Int)),(5,yc (some ⟨b2,0,none⟩)),(4,yc (some ⟨b1,0,none⟩)),(1,.slice p2 n2 c2)]) (fun x=>[boxA b2 28 (cw [wz,wz]),boxA b1 28 (cw [wz,wz])]) (fun x=>[slF (rI .i64) p1 c1 l1,slF (rI .i64) p2 c2 l2]) (fun x:Nat=>n1 - x) 0 (show 0≤n1 from by exact Nat.zero_le _) ((.e rfl rfl (.e rfl rfl (.e rfl rfl (.e rfl rfl (.e rfl (by first|rfl|(congr 1;omega)|simp_all) (.of rfl)))))):SubM _ _) (ho:=((.of [0,0] rfl):PickO _ _ _)) ((.of [0,1] rfl):SelR _ _ _) ?_
    rintro i hI
    replace hI:i≤n1:=hI
    try dsimp only [cw]
    refine ze<|za<|e_p (zT rfl rfl)<|zf<|zc<|ze<|zB rfl (fun h4=> ?_) (fun h4=> ?_)
    ·
     have hsx:=Rd.sI_bn (B:=65535) hl1 i om
     have hsy:=Rd.sI_bn (B:=65535) hl2 i om
     have hsxx:=Rd.sI_bn (B:=4294836225) (f:=fun jj=>Rd.lg l1 jj*Rd.lg l1 jj) (fun i hi=>Bl.mul_b (hl1 i hi) (hl1 i hi)) i om
     have hsxy:=Rd.sI_bn (B:=4294836225) (f:=fun jj=>Rd.lg l1 jj*Rd.lg l2 jj) (fun i hi=>Bl.mul_b (hl1 i hi) (hl2 i hi)) i om
     have hva:0≤l1.getD i 0∧l1.getD i 0≤65535:=hl1 i om
     have hvb:0≤l2.getD i 0∧l2.getD i 0≤65535:=hl2 i om
     have hm1:=Bl.mul_b hva hva
     have hm2:=Bl.mul_b hva hvb
     refine zv<|zc<|ze<|zt<|ze<|za<|e_mv rfl<|zV (x0:=(l1.getD i 0)) 0 i rfl yf sz3 rfl rfl rfl cbs rfl rfl (gD (d:=0) om) (fun b5 o6 hok7=> ?_)
     replace hok7:=zP.1 hok7
     refine e_ru (zj (j:=0) 0 ty3 rfl rfl rfl rfl)<|e_p (zb rfl)<|e_p (zb rfl)<|zf<|zc<|ze<|za<|e_mv rfl<|e_mv rfl<|zV (x0:=(l2.getD i 0)) 2 i rfl yf sz3 rfl rfl rfl cbs rfl rfl (gD (d:=0) om) (fun b8 o9 hok10=> ?_)
     replace hok10:=zP.1 hok10
     refine e_ru (zj (j:=0) 0 ty3 rfl rfl rfl rfl)<|e_p (zb rfl)<|zf<|zc<|ze<|zGa (X:=Unit) (fun x=>True) (fun x=>[(59,.bool (decide (((((l1.getD i 0)<0)∨(65535<(l1.getD i 0)))∨((l2.getD i 0)<0))∨(65535<(l2.getD i 0))))),(14,ya yb (l2.getD i 0)),(13,ya yb (l1.getD i 0)),(11,ya yb (Rd.sI (fun jj=>Rd.lg l1 jj*Rd.lg l2 jj) i)),(10,ya yb (Rd.sI (fun jj=>Rd.lg l1 jj*Rd.lg l1 jj) i)),(9,ya yb (Rd.sI (Rd.lg l2) i)),(8,ya yb (Rd.sI (Rd.lg l1) i)),(37,ya yb ((i:Nat):Int)),(36,ya yb ((n1:Nat):Int)),(35,.slice p1 n1 c1),(7,ya yb ((n1:Nat):Int)),(5,yc (some ⟨b2,0,none⟩)),(4,yc (some ⟨b1,0,none⟩)),(1,.slice p2 n2 c2)]) (fun x=>[boxA b2 28 (cw [wz,wz]),boxA b1 28 (cw [wz,wz])]) (fun x=>[atF b8 o9 [ya yb (l2.getD i 0)],atF b5 o6 [ya yb (l1.getD i 0)],slF (rI .i64) p1 c1 l1,slF (rI .i64) p2 c2 l2]) ?_ ?_
     ·
      refine za<|e_mv rfl<|e_p (zT rfl rfl)<|zW rfl rfl (zba rfl) (fun h11=> ?_) (fun h11=> ?_)
      ·
       refine e_no<|e_no<|e_p (zn rfl rfl)<|e_mv rfl<|e_no<|e_no<|e_p (zn rfl rfl)<|e_mv rfl<|e_no<|e_no<|e_p (zn rfl rfl)<|zf ?_
       exact zia () (show True from by first|trivial|omega|simp_all) ((.e rfl (congrArg Value.bool cbu) (.of rfl)):SubM _ _) (ho:=((.of [0,0] rfl):PickO _ _ _)) ((.of [0,1,2,3] rfl):SelR _ _ _)
      ·
       refine e_mv rfl<|e_p (zna rfl rfl)<|e_p (zn rfl rfl)<|zW rfl rfl (zba rfl) (fun h12=> ?_) (fun h12=> ?_)
       ·
        refine e_no<|e_no<|e_p (zn rfl rfl)<|e_mv rfl<|e_no<|e_no<|e_p (zn rfl rfl)<|zf ?_
        exact zia () (show True from by first|trivial|omega|simp_all) ((.e rfl (congrArg Value.bool cbu) (.of rfl)):SubM _ _) (ho:=((.of [0,0] rfl):PickO _ _ _)) ((.of [0,1,2,3] rfl):SelR _ _ _)
       ·
        refine e_mv rfl<|e_p (zT rfl rfl)<|e_p (zn rfl rfl)<|zW rfl rfl (zba rfl) (fun h13=> ?_) (fun h13=> ?_)
        ·
         refine e_no<|e_no<|e_p (zn rfl rfl)<|zf ?_
         exact zia () (show True from by first|trivial|omega|simp_all) ((.e rfl (congrArg Value.bool cbu) (.of rfl)):SubM _ _) (ho:=((.of [0,0] rfl):PickO _ _ _)) ((.of [0,1,2,3] rfl):SelR _ _ _)
        ·
         refine e_mv rfl<|e_p (zna rfl rfl)<|e_p (zn rfl rfl)<|zf ?_
         exact zia () (show True from by first|trivial|omega|simp_all) ((.e rfl (congrArg Value.bool cbu) (.of rfl)):SubM _ _) (ho:=((.of [0,0] rfl):PickO _ _ _)) ((.of [0,1,2,3] rfl):SelR _ _ _)
     ·
      rintro ⟨⟩ -
      try dsimp only [cw]
      refine zB rfl (fun h59=> ?_) (fun h59=> ?_)
      ·
       exact absurd h59 om
      ·
       refine zv<|zc<|za<|e_mv rfl<|e_mv rfl<|e_p (zH (z:=((Rd.sI (Rd.lg l1) i)+(l1.getD i 0))) rfl rfl (w64 om))<|e_mv rfl<|e_mv rfl<|e_p (zH (z:=((Rd.sI (Rd.lg l2) i)+(l2.getD i 0))) rfl rfl (w64 om))<|e_mv rfl<|e_mv rfl<|e_mv rfl<|e_p (zwa (z:=((l1.getD i 0)*(l1.getD i 0))) rfl rfl (w64 om))<|e_p (zH (z:=((Rd.sI (fun jj=>Rd.lg l1 jj*Rd.lg l1 jj) i)+((l1.getD i 0)*(l1.getD i 0)))) rfl rfl (w64 om))<|e_mv rfl<|e_mv rfl<|e_mv rfl<|e_p (zwa (z:=((l1.getD i 0)*(l2.getD i 0))) rfl rfl (w64 om))<|e_p (zH (z:=((Rd.sI (fun jj=>Rd.lg l1 jj*Rd.lg l2 jj) i)+((l1.getD i 0)*(l2.getD i 0)))) rfl rfl (w64 om))<|e_p (zb rfl)<|e_p (zb rfl)<|e_p (zb rfl)<|e_p (zb rfl)<|zf<|zM<|zc<|za<|e_p (zH (z:=(((i+1):Nat):Int)) rfl rfl (w64 om))<|e_mv rfl<|zf<|zaa (i+1) (show (i+1)≤n1 from by show i+1≤n1;omega) (by show n1 - (i+1)<n1 - i;omega) ((.e rfl (by first|rfl|(congr 1;omega)|simp_all) (.e rfl (by first|rfl|(congr 1;omega)|simp_all) (.e rfl (by first|rfl|(congr 1;omega)|simp_all) (.e rfl (by first|rfl|(congr 1;omega)|simp_all) (.of rfl))))):SubM _ _) (ho:=((.of [0,0] rfl):PickO _ _ _)) ((.of [2,3] rfl):SelR _ _ _)
    ·
     refine zda<|zi<|zi<|zr<|zc<|ze<|ze ?_
     have ein:i=n1:=by omega
     have e14:Rd.sI (Rd.lg l1) i=Rd.sI (Rd.lg l1) n1:=by rw [ein]
     rw [e14]
     have e15:Rd.sI (Rd.lg l2) i=Rd.sI (Rd.lg l2) n1:=by rw [ein]
     rw [e15]
     have e16:Rd.sI (fun jj=>Rd.lg l1 jj*Rd.lg l1 jj) i=Rd.sI (fun jj=>Rd.lg l1 jj*Rd.lg l1 jj) n1:=by rw [ein]
     rw [e16]
     have e17:Rd.sI (fun jj=>Rd.lg l1 jj*Rd.lg l2 jj) i=Rd.sI (fun jj=>Rd.lg l1 jj*Rd.lg l2 jj) n1:=by rw [ein]
     rw [e17]
     have hsx:=Rd.sI_bn (B:=65535) hl1 n1 om
     have hsy:=Rd.sI_bn (B:=65535) hl2 n1 om
     have hsxx:=Rd.sI_bn (B:=4294836225) (f:=fun jj=>Rd.lg l1 jj*Rd.lg l1 jj) (fun i hi=>Bl.mul_b (hl1 i hi) (hl1 i hi)) n1 om
     have hsxy:=Rd.sI_bn (B:=4294836225) (f:=fun jj=>Rd.lg l1 jj*Rd.lg l2 jj) (fun i hi=>Bl.mul_b (hl1 i hi) (hl2 i hi)) n1 om
     have hk1:=Bl.mul_b (x:=((n1:Nat):Int)) (y:=(Rd.sI (fun jj=>Rd.lg l1 jj*Rd.lg l1 jj) n1)) (m:=4096) (n:=17591649177600) om om
     have hk2:=Bl.mul_b (x:=((n1:Nat):Int)) (y:=(Rd.sI (fun jj=>Rd.lg l1 jj*Rd.lg l2 jj) n1)) (m:=4096) (n:=17591649177600) om om
     have hk3:=Bl.mul_b (x:=(Rd.sI (Rd.lg l1) n1)) (y:=(Rd.sI (Rd.lg l1) n1)) (m:=268431360) (n:=268431360) om om
     have hk4:=Bl.mul_b (x:=(Rd.sI (Rd.lg l1) n1)) (y:=(Rd.sI (Rd.lg l2) n1)) (m:=268431360) (n:=268431360) om om
     refine za<|e_mv rfl<|e_mv rfl<|e_p (zwa (z:=(((n1:Nat):Int)*(Rd.sI (fun jj=>Rd.lg l1 jj*Rd.lg l1 jj) n1))) rfl rfl (w64 om))<|e_mv rfl<|e_mv rfl<|e_p (zwa (z:=((Rd.sI (Rd.lg l1) n1)*(Rd.sI (Rd.lg l1) n1))) rfl rfl (w64 om))<|e_p (zta rfl rfl)<|zf<|zc<|zB rfl (fun h85=> ?_) (fun h85=> ?_)
     ·
      exact absurd h85 hdg
     ·
      refine zv<|zc<|ze<|za<|e_mv rfl<|e_mv rfl<|e_p (zwa (z:=(((n1:Nat):Int)*(Rd.sI (fun jj=>Rd.lg l1 jj*Rd.lg l2 jj) n1))) rfl rfl (w64 om))<|e_mv rfl<|e_mv rfl<|e_p (zwa (z:=((Rd.sI (Rd.lg l1) n1)*(Rd.sI (Rd.lg l2) n1))) rfl rfl (w64 om))<|e_p (zja (z:=((((n1:Nat):Int)*(Rd.sI (fun jj=>Rd.lg l1 jj*Rd.lg l2 jj) n1)) - ((Rd.sI (Rd.lg l1) n1)*(Rd.sI (Rd.lg l2) n1)))) rfl rfl (w64 om))<|e_mv rfl<|e_mv rfl<|e_p (zwa (z:=(((n1:Nat):Int)*(Rd.sI (fun jj=>Rd.lg l1 jj*Rd.lg l1 jj) n1))) rfl rfl (w64 om))<|e_mv rfl<|e_mv rfl<|e_p (zwa (z:=((Rd.sI (Rd.lg l1) n1)*(Rd.sI (Rd.lg l1) n1))) rfl rfl (w64 om))<|e_p (zja (z:=((((n1:Nat):Int)*(Rd.sI (fun jj=>Rd.lg l1 jj*Rd.lg l1 jj) n1)) - ((Rd.sI (Rd.lg l1) n1)*(Rd.sI (Rd.lg l1) n1)))) rfl rfl (w64 om))<|zu rfl rfl (.c rfl (.c rfl .n)) ce54 (zsb (z1:=((((n1:Nat):Int)*(Rd.sI (fun jj=>Rd.lg l1 jj*Rd.lg l2 jj) n1)) - ((Rd.sI (Rd.lg l1) n1)*(Rd.sI (Rd.lg l2) n1)))) (z2:=((((n1:Nat):Int)*(Rd.sI (fun jj=>Rd.lg l1 jj*Rd.lg l1 jj) n1)) - ((Rd.sI (Rd.lg l1) n1)*(Rd.sI (Rd.lg l1) n1)))) (hz1:=cbo) (hz2:=cbo) (hy:=cbo)) (.n) ?_
      rintro ⟨w318,w419⟩ -
      dsimp only [aq,nq,cq]
      refine e_mv rfl<|e_p (zq rfl rfl)<|e_p (zq rfl rfl)<|zk 1 rfl rfl rfl rfl rfl sz28 rfl (.t4 .nil) (.s .z)<|zf<|zc<|ze<|za<|e_mv rfl<|e_mv rfl<|zu rfl rfl (.c rfl (.c rfl .n)) ce54 (zsb (z1:=(Rd.sI (Rd.lg l2) n1)) (z2:=((n1:Nat):Int)) (hz1:=cbo) (hz2:=cbo) (hy:=cbo)) (.n) ?_
      rintro ⟨w320,w421⟩ -
      dsimp only [aq,nq,cq]
      refine e_mv rfl<|e_p (zq rfl rfl)<|e_p (zq rfl rfl)<|zK rfl rfl (zw zr28 rfl) (fun b22=> ?_)
      refine zk 0 rfl rfl rfl rfl rfl sz28 rfl (.t4 .nil) .z<|e_p (zb rfl)<|zf<|zc<|ze<|za<|e_mv rfl<|e_mv rfl<|zu rfl rfl (.c rfl (.c rfl .n)) ce54 (zsb (z1:=(Rd.sI (Rd.lg l1) n1)) (z2:=((n1:Nat):Int)) (hz1:=cbo) (hz2:=cbo) (hy:=cbo)) (.n) ?_
      rintro ⟨w323,w424⟩ -
      dsimp only [aq,nq,cq]
      refine e_mv rfl<|e_p (zq rfl rfl)<|e_p (zq rfl rfl)<|zK rfl rfl (zw zr28 rfl) (fun b25=> ?_)
      refine zk 0 rfl rfl rfl rfl rfl sz28 rfl (.t4 .nil) .z<|e_p (zb rfl)<|zf<|zc<|ze ?_
      have d1:=Rd.dq (n:=((n1:Nat):Int)*(Rd.sI (fun jj=>Rd.lg l1 jj*Rd.lg l2 jj) n1) - (Rd.sI (Rd.lg l1) n1)*(Rd.sI (Rd.lg l2) n1)) (d:=((n1:Nat):Int)*(Rd.sI (fun jj=>Rd.lg l1 jj*Rd.lg l1 jj) n1) - (Rd.sI (Rd.lg l1) n1)*(Rd.sI (Rd.lg l1) n1)) om om om
      have d2:=Rd.dq (n:=(Rd.sI (Rd.lg l1) n1)) (d:=((n1:Nat):Int)) om om om
      have d3:=Rd.dq (n:=(Rd.sI (Rd.lg l2) n1)) (d:=((n1:Nat):Int)) om om om
      have d4:=yr (Rat.divInt (((n1:Nat):Int)*(Rd.sI (fun jj=>Rd.lg l1 jj*Rd.lg l2 jj) n1) - (Rd.sI (Rd.lg l1) n1)*(Rd.sI (Rd.lg l2) n1)) (((n1:Nat):Int)*(Rd.sI (fun jj=>Rd.lg l1 jj*Rd.lg l1 jj) n1) - (Rd.sI (Rd.lg l1) n1)*(Rd.sI (Rd.lg l1) n1))) (Rat.divInt (Rd.sI (Rd.lg l1) n1) ((n1:Nat):Int))
      refine zma (.c (i:=3) rfl (.c (i:=2) rfl (.c (i:=0) rfl (.c (i:=0) rfl .n))))<|zZ (OW:=[boxA b1 28 (cw [w318,w419]),boxA b2 28 (cw [wz,wz])]) (O:=[boxA b25 28 (cw [w323,w424]),boxA b22 28 (cw [w320,w421])]) 6 mixed (.then .ret) kr<|e_uw 0 rfl rfl (zd 0 ty28 rfl rfl (.t4 .nil))<|e_uw 1 rfl rfl (zd 3 ty28 rfl rfl (.t4 .nil))<|e_uw 2 rfl rfl (zd 0 ty28 rfl rfl (.t4 .nil))<|e_uw 3 rfl rfl (zd 2 ty28 rfl rfl (.t4 .nil))<|e_one 4 (zC rfl rfl rfl rfl (.c rfl (.c rfl .n)) ce60 (zwb (k1:=true) (u1:=w318) (v1:=w419) (q1:=Rat.divInt ((((n1:Nat):Int)*(Rd.sI (fun jj=>Rd.lg l1 jj*Rd.lg l2 jj) n1)) - ((Rd.sI (Rd.lg l1) n1)*(Rd.sI (Rd.lg l2) n1))) ((((n1:Nat):Int)*(Rd.sI (fun jj=>Rd.lg l1 jj*Rd.lg l1 jj) n1)) - ((Rd.sI (Rd.lg l1) n1)*(Rd.sI (Rd.lg l1) n1)))) (k2:=true) (u2:=w323) (v2:=w424) (q2:=Rat.divInt (Rd.sI (Rd.lg l1) n1) ((n1:Nat):Int)) (hl:=cbo)) (.c (j:=2) rfl (.c (j:=0) rfl .n)) ?_)
      rintro ⟨w326,w427⟩ -
      dsimp only [aq,nq,cq]
      refine e_one 5 (zC rfl rfl rfl rfl (.c rfl (.c rfl .n)) ce78 (zse (k1:=true) (u1:=w320) (v1:=w421) (q1:=Rat.divInt (Rd.sI (Rd.lg l2) n1) ((n1:Nat):Int)) (k2:=true) (u2:=w326) (v2:=w427) (q2:=(Rat.divInt ((((n1:Nat):Int)*(Rd.sI (fun jj=>Rd.lg l1 jj*Rd.lg l2 jj) n1)) - ((Rd.sI (Rd.lg l1) n1)*(Rd.sI (Rd.lg l2) n1))) ((((n1:Nat):Int)*(Rd.sI (fun jj=>Rd.lg l1 jj*Rd.lg l1 jj) n1)) - ((Rd.sI (Rd.lg l1) n1)*(Rd.sI (Rd.lg l1) n1))))*(Rat.divInt (Rd.sI (Rd.lg l1) n1) ((n1:Nat):Int))) (hl:=cbo)) (.c (j:=2) rfl (.c (j:=0) rfl .n)) ?_)
      rintro ⟨w328,w429⟩ -
      dsimp only [aq,nq,cq]
      refine e_one 6 (zG kr rfl rfl rfl rfl rfl sz28 rfl (.t4 .nil) ?_)
      refine zFa (zfa (i:=1) rfl)<|e_one 7 (zG kr rfl rfl rfl rfl rfl sz28 rfl (.t4 .nil) ?_)
      refine e_pv 8 rfl rfl (zb rfl)<|zX kr<|zc<|zJ ?_
      exact zwc Tryz.results47 (w318,w419,w328,w429) trivial (zp 1 ty28 rfl rfl (.t4 .nil)) (zp 0 ty28 rfl rfl (.t4 .nil)) (zo rfl) rfl (ho:=(.n:PickO _ _ _)) ((.of [4,0] rfl):SelR _ _ _)
theorem zsc {p:Option Addr} {n:Nat} {cap:Nat} {l:List Int} (hn:l.length=n) (hn9:n≤4096):Con yh 73 [.slice p n cap] [] [slF (rI .i64) p cap l] (Y:=Unit) (fun y=>True) (fun y=> .tuple #[ya yb ((Rd.cntV l).1),ya yb ((Rd.cntV l).2)]) (fun y=>[]) (fun y=>[]):=by
 refine zl Tryz.func73 rfl rfl rfl (fun c=> ?_)
 show RunC _ _ _ _ _ [(0,.slice p n cap)] [] [slF (rI .i64) p cap l]
 refine zY 0 rfl (fun hL0=> ?_)
 refine ze<|za<|e_p (zb rfl)<|e_p (zb rfl)<|zf<|zc<|ze<|za<|e_p (zb rfl)<|zf<|zc<|ze<|ze<|za<|e_mv rfl<|e_p (zD yf rfl)<|e_mv rfl<|zf<|zc<|zt<|zea (X:=Nat) (fun x:Nat=>x≤n∧∀j,j<x→0≤Rd.lg l j∧Rd.lg l j≤262144) (fun x=>[(4,ya yb (Rd.sI (Rd.lg l) x)),(9,ya yb ((x:Nat):Int)),(8,ya yb ((n:Nat):Int)),(7,.slice p n cap)]) (fun x=>[]) (fun x=>[slF (rI .i64) p cap l]) (fun x:Nat=>n - x) 0 (show 0≤n∧∀j,j<0→0≤Rd.lg l j∧Rd.lg l j≤262144 from by exact ⟨Nat.zero_le _,fun j h=>by omega⟩) ((.e rfl rfl (.e rfl (by first|rfl|(congr 1;omega)|simp_all) (.c rfl (.c rfl .n)))):SubM _ _) (ho:=(.n:PickO _ _ _)) ((.c (j:=0) rfl .n):SelR _ _ _) ?_
 rintro i hI
 replace hI:i≤n∧∀j,j<i→0≤Rd.lg l j∧Rd.lg l j≤262144:=hI
 try dsimp only
 obtain ⟨hi,hall⟩:=hI
 refine ze<|za<|e_p (zT rfl rfl)<|zf<|zc<|ze<|zB rfl (fun h1=> ?_) (fun h1=> ?_)
 ·
  have hb:=Rd.sI_bn (f:=Rd.lg l) (B:=262144) (N:=i) hall i (Nat.le_refl _)
  refine zv<|zc<|ze<|zt<|ze<|za<|zV (x0:=(l.getD i 0)) 0 i rfl yf sz3 rfl rfl rfl cbs rfl rfl (gD (d:=0) om) (fun b2 o3 hok4=> ?_)
  replace hok4:=zP.1 hok4
  refine e_ru (zj (j:=0) 0 ty3 rfl rfl rfl rfl)<|e_p (zb rfl)<|zf<|zc<|ze<|zGa (X:=Unit) (fun x=>True) (fun x=>[(18,.bool (decide (((l.getD i 0)<0)∨(262144<(l.getD i 0))))),(6,ya yb (l.getD i 0)),(4,ya yb (Rd.sI (Rd.lg l) i)),(9,ya yb ((i:Nat):Int)),(8,ya yb ((n:Nat):Int)),(7,.slice p n cap)]) (fun x=>[]) (fun x=>[atF b2 o3 [ya yb (l.getD i 0)],slF (rI .i64) p cap l]) ?_ ?_
  ·
   refine za<|e_mv rfl<|e_p (zT rfl rfl)<|zW rfl rfl (zba rfl) (fun h5=> ?_) (fun h5=> ?_)
   ·
    refine e_no<|e_no<|e_p (zn rfl rfl)<|zf ?_
    exact zia () (show True from by first|trivial|omega|simp_all) ((.e rfl (congrArg Value.bool cbu) (.of rfl)):SubM _ _) (ho:=(.n:PickO _ _ _)) ((.of [0,1] rfl):SelR _ _ _)
   ·
    refine e_mv rfl<|e_p (zna rfl rfl)<|e_p (zn rfl rfl)<|zf ?_
    exact zia () (show True from by first|trivial|omega|simp_all) ((.e rfl (congrArg Value.bool cbu) (.of rfl)):SubM _ _) (ho:=(.n:PickO _ _ _)) ((.of [0,1] rfl):SelR _ _ _)
  ·
   rintro ⟨⟩ -
   try dsimp only
   refine zB rfl (fun h18=> ?_) (fun h18=> ?_)
   ·
    refine ze<|za<|e_p (zb rfl)<|e_p (zb rfl)<|zf<|zc<|zJ<|zm<|zS<|zm<|zm<|zS<|zm ?_
    exact zqa Tryz.results73 () trivial (zo rfl) (zo rfl) (by rw [Rd.cnt_no (fun k=>by have h9:0≤l.getD i 0∧l.getD i 0≤262144:=k i om;omega)]) (ho:=(.n:PickO _ _ _)) (.n:SelR _ _ _)
   ·
    refine zv<|zc<|za<|e_mv rfl<|e_mv rfl<|e_p (zH (z:=((Rd.sI (Rd.lg l) i)+(l.getD i 0))) rfl rfl (w64 om))<|e_p (zb rfl)<|zf<|zM<|zc<|za<|e_p (zH (z:=(((i+1):Nat):Int)) rfl rfl (w64 om))<|e_mv rfl<|zf<|zaa (i+1) (show (i+1)≤n∧∀j,j<(i+1)→0≤Rd.lg l j∧Rd.lg l j≤262144 from by refine ⟨by omega,fun j hj=> ?_⟩;by_cases e:j=i;subst e;show 0≤l.getD j 0∧l.getD j 0≤262144;omega;exact hall j om) (by show n - (i+1)<n - i;omega) ((.e rfl (by first|rfl|(congr 1;omega)|simp_all) (.of rfl)):SubM _ _) (ho:=(.n:PickO _ _ _)) ((.c (j:=1) rfl .n):SelR _ _ _)
 ·
  refine zda<|zi<|zi<|zr<|zc<|ze<|za<|e_mv rfl<|e_p (zb rfl)<|e_p (zb rfl)<|zf<|zc<|zJ ?_
  exact zqa Tryz.results73 () trivial (zo rfl) (zo rfl) (by rw [Rd.cnt_ok (fun j hj=>hall j om),show i=l.length by omega];rfl) (ho:=(.n:PickO _ _ _)) (.n:SelR _ _ _)
theorem zHf {p1:Option Addr} {n1:Nat} {c1:Nat} {l1:List Int} {p2:Option Addr} {n2:Nat} {c2:Nat} {l2:List Int} (hn1:l1.length=n1) (hn2:l2.length=n2):Con yh 38 [.slice p1 n1 c1,.slice p2 n2 c2] [] [slF (rI .i64) p1 c1 l1,slF (rI .i64) p2 c2 l2] (Y:=(Option Addr)×Nat×(List Int)) (fun y=>((Rd.tbC l1 l2)=0→Rd.Tb l1 l2 y.2.2)∧((Rd.tbC l1 l2)≠0→y.2.2=[])) (fun y=> .tuple #[.slice (y.1) (y.2.2.length) (y.2.1),ya yb (Rd.tbC l1 l2)]) (fun y=>[]) (fun y=>[slF (rI .i64) (y.1) (y.2.1) (y.2.2)]):=by
 refine zl Tryz.func38 rfl rfl rfl (fun c=> ?_)
 show RunC _ _ _ _ _ [(0,.slice p1 n1 c1),(1,.slice p2 n2 c2)] [] [slF (rI .i64) p1 c1 l1,slF (rI .i64) p2 c2 l2]
 refine zY 0 rfl (fun hL0=> ?_)
 refine zY 1 rfl (fun hL1=> ?_)
 refine ze<|za<|e_p (zb rfl)<|e_p (zb rfl)<|zf<|zc<|ze<|zGa (X:=Unit) (fun x=>True) (fun x=>[(33,.bool (decide ((((((n1:Nat):Int)=0)∨(4096<((n1:Nat):Int)))∨(((n2:Nat):Int)=0))∨(4096<((n2:Nat):Int))))),(5,ya yb 0),(4,.slice none 0 0),(0,.slice p1 n1 c1),(1,.slice p2 n2 c2)]) (fun x=>[]) (fun x=>[slF (rI .i64) p1 c1 l1,slF (rI .i64) p2 c2 l2]) ?_ ?_
 ·
  refine za<|e_mv rfl<|e_p (zD yf rfl)<|e_p (zta rfl rfl)<|zW rfl rfl (zba rfl) (fun h1=> ?_) (fun h1=> ?_)
  ·
   refine e_no<|e_no<|e_no<|e_p (zn rfl rfl)<|e_mv rfl<|e_no<|e_no<|e_no<|e_p (zn rfl rfl)<|e_mv rfl<|e_no<|e_no<|e_no<|e_p (zn rfl rfl)<|zf ?_
   exact zia () (show True from by first|trivial|omega|simp_all) ((.e rfl (congrArg Value.bool cbu) (.of rfl)):SubM _ _) (ho:=(.n:PickO _ _ _)) ((.of [0,1] rfl):SelR _ _ _)
  ·
   refine e_mv rfl<|e_p (zD yf rfl)<|e_p (zna rfl rfl)<|e_p (zn rfl rfl)<|zW rfl rfl (zba rfl) (fun h2=> ?_) (fun h2=> ?_)
   ·
    refine e_no<|e_no<|e_no<|e_p (zn rfl rfl)<|e_mv rfl<|e_no<|e_no<|e_no<|e_p (zn rfl rfl)<|zf ?_
    exact zia () (show True from by first|trivial|omega|simp_all) ((.e rfl (congrArg Value.bool cbu) (.of rfl)):SubM _ _) (ho:=(.n:PickO _ _ _)) ((.of [0,1] rfl):SelR _ _ _)
   ·
    refine e_mv rfl<|e_p (zD yf rfl)<|e_p (zta rfl rfl)<|e_p (zn rfl rfl)<|zW rfl rfl (zba rfl) (fun h3=> ?_) (fun h3=> ?_)
    ·
     refine e_no<|e_no<|e_no<|e_p (zn rfl rfl)<|zf ?_
     exact zia () (show True from by first|trivial|omega|simp_all) ((.e rfl (congrArg Value.bool cbu) (.of rfl)):SubM _ _) (ho:=(.n:PickO _ _ _)) ((.of [0,1] rfl):SelR _ _ _)
    ·
     refine e_mv rfl<|e_p (zD yf rfl)<|e_p (zna rfl rfl)<|e_p (zn rfl rfl)<|zf ?_
     exact zia () (show True from by first|trivial|omega|simp_all) ((.e rfl (congrArg Value.bool cbu) (.of rfl)):SubM _ _) (ho:=(.n:PickO _ _ _)) ((.of [0,1] rfl):SelR _ _ _)
 ·
  rintro ⟨⟩ -
  try dsimp only
  refine zB rfl (fun h33=> ?_) (fun h33=> ?_)
  ·
   refine ze<|za<|e_p (zb rfl)<|e_p (zb rfl)<|zf<|zc<|zJ<|zm<|zqb (rI .i64) ?_
   have hof:(Rd.tbC l1 l2)=3:=if_neg om
   exact zqa yq (none,0,([]:List Int)) (⟨fun k=>absurd (hof.symm.trans k) dd,fun _=>rfl⟩) (zo rfl) (zo rfl) (by rw [hof];rfl) (ho:=(.n:PickO _ _ _)) ((.c (j:=0) rfl .n):SelR _ _ _)
  ·
   have hle:1≤l1.length∧l1.length≤4096∧1≤l2.length∧l2.length≤4096:=by omega
   refine zv<|zc<|ze<|za<|e_mv rfl<|zQ rfl rfl (.c rfl .n) ce73 (zsc (p:=p1) (n:=n1) (cap:=c1) (l:=l1) (hn:=ass) (hn9:=cbo)) (.c (j:=0) rfl .n)<|e_mv rfl<|e_p (zq rfl rfl)<|e_p (zq rfl rfl)<|e_p (zb rfl)<|e_p (zb rfl)<|zf<|zc<|ze<|za<|e_mv rfl<|zQ rfl rfl (.c rfl .n) ce73 (zsc (p:=p2) (n:=n2) (cap:=c2) (l:=l2) (hn:=ass) (hn9:=cbo)) (.c (j:=1) rfl .n)<|e_mv rfl<|e_p (zq rfl rfl)<|e_p (zq rfl rfl)<|e_p (zb rfl)<|e_p (zb rfl)<|zf<|zc<|ze<|zGa (X:=Unit) (fun x=>True) (fun x=>[(49,.bool (decide (((Rd.cntV l1).2≠0)∨((Rd.cntV l2).2≠0)))),(8,ya yb ((Rd.cntV l2).1)),(6,ya yb ((Rd.cntV l1).1)),(5,ya yb 0),(4,.slice none 0 0),(0,.slice p1 n1 c1),(1,.slice p2 n2 c2)]) (fun x=>[]) (fun x=>[slF (rI .i64) p1 c1 l1,slF (rI .i64) p2 c2 l2]) ?_ ?_
   ·
    refine za<|e_mv rfl<|e_p (zAa rfl rfl)<|zW rfl rfl (zba rfl) (fun h4=> ?_) (fun h4=> ?_)
    ·
     refine e_no<|e_no<|e_p (zn rfl rfl)<|zf ?_
     exact zia () (show True from by first|trivial|omega|simp_all) ((.e rfl (congrArg Value.bool cbu) (.of rfl)):SubM _ _) (ho:=(.n:PickO _ _ _)) ((.of [0,1] rfl):SelR _ _ _)
    ·
     refine e_mv rfl<|e_p (zAa rfl rfl)<|e_p (zn rfl rfl)<|zf ?_
     exact zia () (show True from by first|trivial|omega|simp_all) ((.e rfl (congrArg Value.bool cbu) (.of rfl)):SubM _ _) (ho:=(.n:PickO _ _ _)) ((.of [0,1] rfl):SelR _ _ _)
   ·
    rintro ⟨⟩ -
    try dsimp only
    refine zB rfl (fun h49=> ?_) (fun h49=> ?_)
    ·
     refine ze<|za<|e_p (zb rfl)<|e_p (zb rfl)<|zf<|zc<|zJ<|zm<|zqb (rI .i64) ?_
     have hof:(Rd.tbC l1 l2)=2:=by unfold Rd.tbC;rw [if_pos hle,if_neg (fun k=>by rw [Rd.cnt_ok k.1,Rd.cnt_ok k.2] at h49;exact h49.elim (fun z=>z rfl) (fun z=>z rfl))]
     exact zqa yq (none,0,([]:List Int)) (⟨fun k=>absurd (hof.symm.trans k) dd,fun _=>rfl⟩) (zo rfl) (zo rfl) (by rw [hof];rfl) (ho:=(.n:PickO _ _ _)) ((.c (j:=0) rfl .n):SelR _ _ _)
    ·
     have ho1:Rd.okH l1:=Decidable.byContradiction fun k=>h49 (.inl (by rw [Rd.cnt_no k];decide))
     have ho2:Rd.okH l2:=Decidable.byContradiction fun k=>h49 (.inr (by rw [Rd.cnt_no k];decide))
     have e5:(Rd.cntV l1).1=Rd.tot l1:=by rw [Rd.cnt_ok ho1]
     rw [e5]
     have e6:(Rd.cntV l2).1=Rd.tot l2:=by rw [Rd.cnt_ok ho2]
     rw [e6]
     have ht1:=Rd.tot_nn ho1
     have ht2:=Rd.tot_nn ho2
     refine zv<|zc<|ze<|zGa (X:=Unit) (fun x=>True) (fun x=>[(55,.bool (decide ((Rd.tot l1=0)∨(Rd.tot l2=0)))),(8,ya yb (Rd.tot l2)),(6,ya yb (Rd.tot l1)),(5,ya yb 0),(4,.slice none 0 0),(0,.slice p1 n1 c1),(1,.slice p2 n2 c2)]) (fun x=>[]) (fun x=>[slF (rI .i64) p1 c1 l1,slF (rI .i64) p2 c2 l2]) ?_ ?_
     ·
      refine za<|e_mv rfl<|e_p (zta rfl rfl)<|zW rfl rfl (zba rfl) (fun h7=> ?_) (fun h7=> ?_)
      ·
       refine e_no<|e_no<|e_p (zn rfl rfl)<|zf ?_
       exact zia () (show True from by first|trivial|omega|simp_all) ((.e rfl (congrArg Value.bool cbu) (.of rfl)):SubM _ _) (ho:=(.n:PickO _ _ _)) ((.of [0,1] rfl):SelR _ _ _)
      ·
       refine e_mv rfl<|e_p (zta rfl rfl)<|e_p (zn rfl rfl)<|zf ?_
       exact zia () (show True from by first|trivial|omega|simp_all) ((.e rfl (congrArg Value.bool cbu) (.of rfl)):SubM _ _) (ho:=(.n:PickO _ _ _)) ((.of [0,1] rfl):SelR _ _ _)
     ·
      rintro ⟨⟩ -
      try dsimp only
      refine zB rfl (fun h55=> ?_) (fun h55=> ?_)
      ·
       refine ze<|za<|e_p (zb rfl)<|e_p (zb rfl)<|zf<|zc<|zJ<|zm<|zqb (rI .i64) ?_
       have hof:(Rd.tbC l1 l2)=13:=by unfold Rd.tbC;rw [if_pos hle,if_pos ⟨ho1,ho2⟩,if_neg (fun k=>h55.elim k.1 k.2)]
       exact zqa yq (none,0,([]:List Int)) (⟨fun k=>absurd (hof.symm.trans k) dd,fun _=>rfl⟩) (zo rfl) (zo rfl) (by rw [hof];rfl) (ho:=(.n:PickO _ _ _)) ((.c (j:=0) rfl .n):SelR _ _ _)
      ·
       have hof:(Rd.tbC l1 l2)=0:=by unfold Rd.tbC;rw [if_pos hle,if_pos ⟨ho1,ho2⟩,if_pos ⟨fun k=>h55 (.inl k),fun k=>h55 (.inr k)⟩]
       refine zv<|zc<|ze<|za<|e_mv rfl<|e_p (zD yf rfl)<|zra rfl rfl (zbg (r:=rI .i64) (k:=n1) yf inf3 rfl rfl rfl rfl om om rfl dd) (fun b8 _=> ?_)
       refine e_p (zb rfl)<|zf<|zc<|ze ?_
       have e9:([]:List Int)=([]:List Int):=by rfl
       rw [e9]
       refine zZ (OW:=[]) (O:=[rowA 3 (rI .i64) (some ⟨b8,0,none⟩) n1 ([]:List Int)]) 100000 mixed (.then .ret) kr<|e_dm 0 rfl rfl rfl<|zoa (x0:=(l2.getD 0 0)) 1 rfl rfl kr kr 1 0 rfl yf sz3 rfl rfl rfl cbs rfl rfl (gD (d:=0) om) (fun b10 o11 hok12=> ?_)
       replace hok12:=zP.1 hok12
       refine e_u 2 rfl rfl (zj (j:=0) 0 ty3 rfl rfl rfl rfl)<|e_pv 3 rfl rfl (zb rfl)<|e_pv 4 rfl rfl (zb rfl)<|e_pv 5 rfl rfl (zb rfl)<|zX kr<|zc<|ze<|ze<|za<|e_mv rfl<|e_p (zD yf rfl)<|e_mv rfl<|zf<|zc<|zt<|zea (X:=Nat×Nat×(List Int)×(Option Addr)×Nat) (fun x:Nat×Nat×(List Int)×(Option Addr)×Nat=>x.1≤n1∧x.2.1<n2∧x.2.2.1.length=x.1∧(∀j,j<x.1→∃k:Nat,x.2.2.1.getD j 0=(k:Int)∧Rd.At l1 l2 j k)∧(∀j,j<x.2.1→Rd.sI (Rd.lg l2) (j+1)*Rd.tot l1<Rd.sI (Rd.lg l1) x.1*Rd.tot l2)) (fun x=>[(10,.slice (x.2.2.2.1) (x.1) (x.2.2.2.2)),(13,ya yb (Rd.sI (Rd.lg l1) x.1)),(12,ya yb (Rd.sI (Rd.lg l2) (x.2.1+1))),(11,ya yb ((x.2.1:Nat):Int)),(64,ya yb ((x.1:Nat):Int)),(63,ya yb ((n1:Nat):Int)),(62,.slice p1 n1 c1),(8,ya yb (Rd.tot l2)),(6,ya yb (Rd.tot l1)),(5,ya yb 0),(4,.slice none 0 0),(1,.slice p2 n2 c2)]) (fun x=>[rowA 3 (rI .i64) (x.2.2.2.1) (x.2.2.2.2) (x.2.2.1)]) (fun x=>[atF b10 o11 [ya yb (l2.getD 0 0)],slF (rI .i64) p1 c1 l1,slF (rI .i64) p2 c2 l2]) (fun x:Nat×Nat×(List Int)×(Option Addr)×Nat=>n1 - x.1) (0,0,([]:List Int),some ⟨b8,0,none⟩,n1) (show 0≤n1∧0<n2∧([]:List Int).length=0∧(∀j,j<0→∃k:Nat,([]:List Int).getD j 0=(k:Int)∧Rd.At l1 l2 j k)∧(∀j,j<0→Rd.sI (Rd.lg l2) (j+1)*Rd.tot l1<Rd.sI (Rd.lg l1) 0*Rd.tot l2) from by exact ⟨Nat.zero_le _,by omega,rfl,fun j h=>by omega,fun j h=>by omega⟩) ((.c rfl (.e rfl rfl (.e rfl (by show Value.int .i64 (l2.getD 0 0)=Value.int .i64 (0+Rd.lg l2 0);rw [Int.zero_add];rfl) (.e rfl (by first|rfl|(congr 1;omega)|simp_all) (.e rfl (by first|rfl|(congr 1;omega)|simp_all) (.of rfl)))))):SubM _ _) (ho:=((.c (i:=0) rfl .n):PickO _ _ _)) ((.of [0,1,2] rfl):SelR _ _ _) ?_
       rintro ⟨i,tt,o,pO,cO⟩ hI
       replace hI:i≤n1∧tt<n2∧o.length=i∧(∀j,j<i→∃k:Nat,o.getD j 0=(k:Int)∧Rd.At l1 l2 j k)∧(∀j,j<tt→Rd.sI (Rd.lg l2) (j+1)*Rd.tot l1<Rd.sI (Rd.lg l1) i*Rd.tot l2):=hI
       try dsimp only
       obtain ⟨hi,htt,hol,hoo,hno⟩:=hI
       refine ze<|za<|e_p (zT rfl rfl)<|zf<|zc<|ze<|zB rfl (fun h65=> ?_) (fun h65=> ?_)
       ·
        have hS:=Rd.sI_nn ho1 (show i+1≤l1.length by omega)
        have hS0:=Rd.sI_nn ho1 (show i≤l1.length by omega)
        have hv1:=ho1 i om
        have hv1b:Rd.lg l1 i=l1.getD i 0:=rfl
        refine zv<|zc<|ze<|zt<|ze<|za<|zV (x0:=(l1.getD i 0)) 1 i rfl yf sz3 rfl rfl rfl cbs rfl rfl (gD (d:=0) om) (fun b13 o14 hok15=> ?_)
        replace hok15:=zP.1 hok15
        refine e_ru (zj (j:=0) 0 ty3 rfl rfl rfl rfl)<|e_p (zb rfl)<|zf<|zc<|ze<|za<|e_mv rfl<|e_mv rfl<|e_p (zH (z:=((Rd.sI (Rd.lg l1) i)+(l1.getD i 0))) rfl rfl (w64 om)) ?_
        have e16:(Rd.sI (Rd.lg l1) i)+(l1.getD i 0)=Rd.sI (Rd.lg l1) (i+1):=by rfl
        rw [e16]
        refine e_p (zb rfl)<|zf<|zc<|ze<|zt<|zea (X:=Nat) (fun x:Nat=>x<n2∧∀j,j<x→Rd.sI (Rd.lg l2) (j+1)*Rd.tot l1<Rd.sI (Rd.lg l1) (i+1)*Rd.tot l2) (fun x=>[(12,ya yb (Rd.sI (Rd.lg l2) (x+1))),(11,ya yb ((x:Nat):Int)),(13,ya yb (Rd.sI (Rd.lg l1) (i+1))),(10,.slice pO i cO),(64,ya yb ((i:Nat):Int)),(63,ya yb ((n1:Nat):Int)),(62,.slice p1 n1 c1),(8,ya yb (Rd.tot l2)),(6,ya yb (Rd.tot l1)),(5,ya yb 0),(4,.slice none 0 0),(1,.slice p2 n2 c2)]) (fun x=>[rowA 3 (rI .i64) pO cO o]) (fun x=>[atF b13 o14 [ya yb (l1.getD i 0)],atF b10 o11 [ya yb (l2.getD 0 0)],slF (rI .i64) p1 c1 l1,slF (rI .i64) p2 c2 l2]) (fun x:Nat=>n2 - x) tt (show tt<n2∧∀j,j<tt→Rd.sI (Rd.lg l2) (j+1)*Rd.tot l1<Rd.sI (Rd.lg l1) (i+1)*Rd.tot l2 from by exact ⟨htt,Rd.no_at ho1 ho2 om hno⟩) ((.of rfl):SubM _ _) (ho:=((.c (i:=0) rfl .n):PickO _ _ _)) ((.of [0,1,2,3] rfl):SelR _ _ _) ?_
        rintro t2 hT
        replace hT:t2<n2∧∀j,j<t2→Rd.sI (Rd.lg l2) (j+1)*Rd.tot l1<Rd.sI (Rd.lg l1) (i+1)*Rd.tot l2:=hT
        try dsimp only
        obtain ⟨ht2,hn2a⟩:=hT
        have hP:=Rd.sI_nn ho2 (show t2+1≤l2.length by omega)
        have hm1:=Bl.mul_b (x:=Rd.sI (Rd.lg l2) (t2+1)) (y:=Rd.tot l1) (m:=1073741824) (n:=1073741824) om om
        have hm2:=Bl.mul_b (x:=Rd.sI (Rd.lg l1) (i+1)) (y:=Rd.tot l2) (m:=1073741824) (n:=1073741824) om om
        refine ze<|ze<|za<|e_mv rfl<|e_mv rfl<|e_p (zwa (z:=((Rd.sI (Rd.lg l2) (t2+1))*Rd.tot l1)) rfl rfl (w64 om))<|e_mv rfl<|e_mv rfl<|e_p (zwa (z:=((Rd.sI (Rd.lg l1) (i+1))*Rd.tot l2)) rfl rfl (w64 om))<|e_p (zT rfl rfl)<|zf<|zc<|zB rfl (fun h77=> ?_) (fun h77=> ?_)
        ·
         have hmore:=Rd.more ho1 ho2 (show i<l1.length by omega) (show t2<l2.length by omega) h77
         have hv2:=ho2 (t2+1) hmore
         have hv2b:Rd.lg l2 (t2+1)=l2.getD (t2+1) 0:=rfl
         have hP2:=Rd.sI_nn ho2 (show t2+2≤l2.length by omega)
         refine zv<|zc<|zt<|ze<|za<|e_mv rfl<|e_p (zH (z:=(((t2+1):Nat):Int)) rfl rfl (w64 om))<|e_p (zb rfl)<|zf<|zc<|za<|e_mv rfl<|e_mv rfl<|e_mv rfl<|zV (x0:=(l2.getD (t2+1) 0)) 3 (t2+1) rfl yf sz3 rfl rfl rfl cbs rfl rfl (gD (d:=0) om) (fun b17 o18 hok19=> ?_)
         replace hok19:=zP.1 hok19
         refine e_ru (zj (j:=0) 0 ty3 rfl rfl rfl rfl)<|e_p (zH (z:=((Rd.sI (Rd.lg l2) (t2+1))+(l2.getD (t2+1) 0))) rfl rfl (w64 om))<|e_p (zb rfl)<|zf<|zM<|zaa (t2+1) (show (t2+1)<n2∧∀j,j<(t2+1)→Rd.sI (Rd.lg l2) (j+1)*Rd.tot l1<Rd.sI (Rd.lg l1) (i+1)*Rd.tot l2 from by refine ⟨by omega,fun j hj=> ?_⟩;by_cases e:j=t2;subst e;exact h77;exact hn2a j om) (by show n2 - (t2+1)<n2 - t2;omega) ((.e rfl (by first|rfl|(congr 1;omega)|simp_all) (.of rfl)):SubM _ _) (ho:=((.c (i:=0) rfl .n):PickO _ _ _)) ((.of [1,2,3,4] rfl):SelR _ _ _)
        ·
         refine zda<|zi<|zi<|zr<|zc<|za<|e_mv rfl<|e_mv rfl<|zra rfl rfl (zR (enc:=fun z:Int=>[ya yb z]) (ok:=InK .i64) (h1:=fun _=>rfl) (h2:=fun _=>rfl) (k:=1) yf inf3 rfl dd dd dd (.c (x:=((t2:Nat):Int)) rfl rfl (fun _ _=>by exact zP.2 om) .n)) (fun b20 _=> ?_)
         refine zga 0 rfl .z<|zza 1 rfl rfl rfl (zsa 0 rfl yf inf3 dd rfl rfl cbs rfl cbs om om) (fun _=>(.s .z)) ?_
         rintro ⟨p21,c22⟩ -
         dsimp only [aq,nq,cq]
         refine e_p (zb rfl)<|zf<|zM<|zc<|za<|e_p (zH (z:=(((i+1):Nat):Int)) rfl rfl (w64 om))<|e_mv rfl<|zf<|zaa ((i+1),t2,(o++([((t2:Nat):Int)])),p21,c22) (show (i+1)≤n1∧t2<n2∧(o++([((t2:Nat):Int)])).length=(i+1)∧(∀j,j<(i+1)→∃k:Nat,(o++([((t2:Nat):Int)])).getD j 0=(k:Int)∧Rd.At l1 l2 j k)∧(∀j,j<t2→Rd.sI (Rd.lg l2) (j+1)*Rd.tot l1<Rd.sI (Rd.lg l1) (i+1)*Rd.tot l2) from by exact ⟨by omega,by omega,(Rd.Tb_snoc hol hoo ⟨by omega,by omega,hn2a⟩).1,(Rd.Tb_snoc hol hoo ⟨by omega,by omega,hn2a⟩).2,hn2a⟩) (by show n1 - (i+1)<n1 - i;omega) ((.e rfl (by first|rfl|(congr 1;omega)|simp_all) (.of rfl)):SubM _ _) (ho:=((.c (i:=1) rfl .n):PickO _ _ _)) ((.of [2,3,4] rfl):SelR _ _ _)
       ·
        refine zda<|zi<|zi<|zr<|zc<|ze<|za<|e_mv rfl<|e_p (zb rfl)<|e_p (zb rfl)<|zf<|zc<|zJ<|zbb 0 rfl .z ?_
        exact zqa yq (pO,cO,o) (⟨fun _=>⟨hol.trans om,fun j hj=>hoo j om⟩,fun k=>absurd hof k⟩) (zo rfl) (zo rfl) (by rw [hof,hol]) (ho:=(.n:PickO _ _ _)) ((.c (j:=0) rfl .n):SelR _ _ _)
theorem zHb {z1:Int} {z2:Int} (hz1: -9223372036854775808≤z1∧z1≤9223372036854775807) (hz2: -9223372036854775808≤z2∧z2≤9223372036854775807) (hy:z2≠0):Con yh 25 [ya yb z1,ya yb z2] [] [] (Y:=Wd×Wd) (fun y=>True) (fun y=> .agg #[y.1.b,y.1.l,y.2.b,y.2.l]) (fun y=>[]) (fun y=>[qF true y.1 y.2 (Rat.divInt z1 z2)]):=by
 refine zl Tryz.func25 rfl rfl rfl (fun c=> ?_)
 show RunC _ _ _ _ _ [(0,ya yb z1),(1,ya yb z2)] [] []
 refine ze<|za<|zK rfl rfl (zw zr28 rfl) (fun b1=> ?_)
 refine zf<|zc<|ze<|za<|e_mv rfl<|e_mv rfl<|zu rfl rfl (.c rfl (.c rfl .n)) ce62 (zEe (z1:=z1) (z2:=z2) (hz1:=ass) (hz2:=ass) (hy:=ass)) (.n) ?_
 rintro ⟨w32,w43⟩ -
 dsimp only [aq,nq,cq]
 refine e_mv rfl<|e_p (zq rfl rfl)<|e_p (zq rfl rfl)<|zK rfl rfl (zw zr28 rfl) (fun b4=> ?_)
 refine zk 0 rfl rfl rfl rfl rfl sz28 rfl (.t4 .nil) .z<|e_p (zb rfl)<|zf<|zc<|ze<|za<|e_ru (zd 0 ty28 rfl rfl (.t4 .nil))<|zk 1 rfl rfl rfl rfl rfl sz28 rfl (.t4 .nil) (.s .z)<|zf<|zc<|zJ ?_
 exact zy Tryz.results25 (w32,w43) trivial (zp 1 ty28 rfl rfl (.t4 .nil)) rfl (ho:=(.n:PickO _ _ _)) ((.c (j:=0) rfl .n):SelR _ _ _)
end Go.Proofs.YtkohlohbogpooaaGreat.Sp
namespace Go.Proofs.YtkohlohbogpooaaGreat.Sp
open Go
set_option linter.unusedVariables false
set_option maxRecDepth 100000
set_option maxHeartbeats 8000000
theorem zqd {p1:Option Addr} {n1:Nat} {c1:Nat} {l1:List Rat} {p2:Option Addr} {n2:Nat} {c2:Nat} {l2:List Rat} (hn1:l1.length=n1) (hn2:l2.length=n2) (hl:∀i,i<n1→i<n2→ym (l1.getD i 0)+ym (l2.getD i 0)+1≤1099511627776):Con yh 48 [.slice p1 n1 c1,.slice p2 n2 c2] [] [slF rQ p1 c1 l1,slF rQ p2 c2 l2] (Y:=Unit) (fun y=>True) (fun y=> .bool (decide (l1=l2))) (fun y=>[]) (fun y=>[]):=by
 refine zl Tryz.func48 rfl rfl rfl (fun c=> ?_)
 show RunC _ _ _ _ _ [(0,.slice p1 n1 c1),(1,.slice p2 n2 c2)] [] [slF rQ p1 c1 l1,slF rQ p2 c2 l2]
 refine zY 0 rfl (fun hL0=> ?_)
 refine zY 1 rfl (fun hL1=> ?_)
 refine ze<|za<|e_p (zb rfl)<|zf<|zc<|ze<|ze<|za<|e_mv rfl<|e_p (zD yd rfl)<|e_mv rfl<|e_p (zD yd rfl)<|e_p (zAa rfl rfl)<|zf<|zc<|zB rfl (fun hne=> ?_) (fun hne=> ?_)
 ·
  refine ze<|za<|e_p (zb rfl)<|zf<|zc<|zJ<|zm ?_
  exact zy Tryz.results48 () trivial (zo rfl) (congrArg Value.bool (decide_eq_false (fun e=>hne (by rw [← hn1,←hn2,e])))) (ho:=(.n:PickO _ _ _)) (.n:SelR _ _ _)
 ·
  refine zv<|zc<|ze<|ze<|za<|e_p (zb rfl)<|zf<|zc<|zt<|zea (X:=Nat) (fun x:Nat=>x≤n1∧∀j,j<x→l1.getD j 0=l2.getD j 0) (fun x=>[(5,ya yb ((x:Nat):Int)),(0,.slice p1 n1 c1),(1,.slice p2 n2 c2)]) (fun x=>[]) (fun x=>[slF rQ p1 c1 l1,slF rQ p2 c2 l2]) (fun x:Nat=>n1 - x) 0 (show 0≤n1∧∀j,j<0→l1.getD j 0=l2.getD j 0 from by exact ⟨Nat.zero_le _,fun j h=>by omega⟩) ((.e rfl (by first|rfl|(congr 1;omega)|simp_all) (.c rfl (.c rfl .n))):SubM _ _) (ho:=(.n:PickO _ _ _)) ((.of [0,1] rfl):SelR _ _ _) ?_
  rintro i hI
  replace hI:i≤n1∧∀j,j<i→l1.getD j 0=l2.getD j 0:=hI
  try dsimp only
  obtain ⟨hi,hall⟩:=hI
  refine ze<|ze<|za<|e_mv rfl<|e_mv rfl<|e_p (zD yd rfl)<|e_p (zT rfl rfl)<|zf<|zc<|zB rfl (fun h1=> ?_) (fun h1=> ?_)
  ·
   refine zv<|zc<|ze<|zt<|ze<|zZ (OW:=[]) (O:=[]) 100000 mixed (.then (.block (.then (.then (.block (.then .ret)))))) kr<|e_dm 0 rfl rfl rfl<|e_dm 1 rfl rfl rfl<|d_vl 2 rfl rfl kr kr rfl rfl (zka (x0:=(l1.getD i (0:Rat))) 0 i rfl yd sz28 rfl cbs rfl rfl (gD (d:=(0:Rat)) om)) ?_
   rintro ⟨b2,o3,w4,w5⟩ -
   dsimp only [aq,nq,cq]
   refine zNb open_rQ<|e_u 3 rfl rfl (zha (j:=0) 0 ty28 rfl rfl rfl (.t4 .nil))<|e_dm 4 rfl rfl rfl<|e_dm 5 rfl rfl rfl<|d_vl 6 rfl rfl kr kr rfl rfl (zka (x0:=(l2.getD i (0:Rat))) 3 i rfl yd sz28 rfl cbs rfl rfl (gD (d:=(0:Rat)) om)) ?_
   rintro ⟨b6,o7,w8,w9⟩ -
   dsimp only [aq,nq,cq]
   refine zNb open_rQ<|e_u 7 rfl rfl (zha (j:=0) 0 ty28 rfl rfl rfl (.t4 .nil))<|e_one 8 (zMa rfl rfl rfl rfl (.c rfl (.c rfl .n)) ce18 (zKb (u1:=w4) (v1:=w5) (q1:=(l1.getD i (0:Rat))) (u2:=w8) (v2:=w9) (q2:=(l2.getD i (0:Rat))) (hl:=by first|rfl|assumption|exact hl i om om|omega)) (.c (j:=3) rfl (.c (j:=1) rfl .n)) ?_)
   refine e_pv 9 rfl rfl (znb rfl)<|zX kr<|zc<|zB rfl (fun hd=> ?_) (fun hd=> ?_)
   ·
    refine ze<|za<|e_p (zb rfl)<|zf<|zc<|zJ<|zS<|zm<|zm<|zS<|zm ?_
    exact zy Tryz.results48 () trivial (zo rfl) (congrArg Value.bool (decide_eq_false (fun e=>hd (by rw [e])))) (ho:=(.n:PickO _ _ _)) (.n:SelR _ _ _)
   ·
    refine zv<|zM<|zc<|za<|e_mv rfl<|e_p (zH (z:=(((i+1):Nat):Int)) rfl rfl (w64 om))<|e_p (zb rfl)<|zf<|zaa (i+1) (show (i+1)≤n1∧∀j,j<(i+1)→l1.getD j 0=l2.getD j 0 from by refine ⟨by omega,fun j hj=> ?_⟩;by_cases e:j=i;subst e;exact Decidable.not_not.1 hd;exact hall j om) (by show n1 - (i+1)<n1 - i;omega) ((.of rfl):SubM _ _) (ho:=(.n:PickO _ _ _)) ((.of [4,5] rfl):SelR _ _ _)
  ·
   refine zda<|zi<|zi<|zr<|zc<|ze<|za<|e_p (zb rfl)<|zf<|zc<|zJ ?_
   exact zy Tryz.results48 () trivial (zo rfl) (congrArg Value.bool (decide_eq_true (Big.ext_getR om (fun j hj=>hall j om)))) (ho:=(.n:PickO _ _ _)) (.n:SelR _ _ _)
end Go.Proofs.YtkohlohbogpooaaGreat.Sp
namespace Go.Proofs.YtkohlohbogpooaaGreat.Rd
open Mx
set_option linter.unusedVariables false
structure Cm where
  (a b d w:Int)
deriving DecidableEq
def c0:Cm:=⟨0,0,0,0⟩
def bad (n:Int) (c:Cm):Prop:=c.a<0∨n≤c.a∨c.b<0∨n≤c.b∨c.d< -65535∨65535<c.d∨c.w<1∨4096<c.w
instance (n:Int) (c:Cm):Decidable (bad n c):=inferInstanceAs (Decidable (_∨_))
def cc (n:Int) (c:Cm):Int:=if bad n c then 2 else if c.a=c.b then 1 else 0
def cfst (n:Int):List Cm→Int
  |[]=>0
  |c :: l=>if cc n c=0 then cfst n l else cc n c
theorem cfst_at {n:Int}:∀{l:List Cm} {i:Nat},(∀j,j<i→cc n (l.getD j c0)=0)→i<l.length→cc n (l.getD i c0)≠0→cfst n l=cc n (l.getD i c0)
  |[],i,_,h,_=>absurd h (by simp)
  |c :: l,0,_,_,h=>by
    have h':¬cc n c=0:=h
    unfold cfst;rw [if_neg h'];rfl
  |c :: l,i+1,h,hi,k=>by
    have h0:cc n c=0:=h 0 (by omega)
    unfold cfst;rw [if_pos h0]
    exact cfst_at (l:=l) (fun j hj=>h (j+1) (by omega)) (by simpa using hi) k
theorem cfst_all {n:Int}:∀{l:List Cm},(∀j,j<l.length→cc n (l.getD j c0)=0)→cfst n l=0
  |[],_=>rfl
  |c :: l,h=>by
    have h0:cc n c=0:=h 0 (by simp)
    unfold cfst;rw [if_pos h0]
    exact cfst_all fun j hj=>h (j+1) (by simpa using hj)
theorem cfst_ok {n:Int}:∀{l:List Cm},cfst n l=0→∀c∈l,cc n c=0
  |[],_,c,hc=>by cases hc
  |x :: l,h,c,hc=>by
    unfold cfst at h
    by_cases k:cc n x=0
    · rw [if_pos k] at h
      rcases List.mem_cons.1 hc with e|e
      · rw [e];exact k
      · exact cfst_ok h c e
    · rw [if_neg k] at h;exact absurd h k
theorem cc_ok {n:Int} {c:Cm} (h:cc n c=0):¬bad n c∧c.a≠c.b:=by
  unfold cc at h
  by_cases k:bad n c
  · rw [if_pos k] at h;exact absurd h (by decide)
  · rw [if_neg k] at h
    refine ⟨k,fun e=> ?_⟩
    rw [if_pos e] at h;exact absurd h (by decide)
def offC (n:Int) (l:List Cm):Int:=if n<1∨16<n∨64<l.length then 3 else cfst n l
structure Ok (n:Nat) (c:Cm):Prop where
  a:c.a.toNat<n
  b:c.b.toNat<n
  a0:0≤c.a
  b0:0≤c.b
  ne:c.a.toNat≠c.b.toNat
  d: -65535≤c.d∧c.d≤65535
  w:1≤c.w∧c.w≤4096
theorem ok_of {n:Nat} {c:Cm} (h:cc (n:Int) c=0):Ok n c:=by
  obtain ⟨h1,h2⟩:=cc_ok h
  unfold bad at h1
  exact ⟨by omega,by omega,by omega,by omega,by omega,by omega,by omega⟩
theorem cc_not {n:Nat} {c:Cm} (h:Ok n c):cc (n:Int) c=0:=by
  have h1:=h.a;have h2:=h.b;have h3:=h.a0;have h4:=h.b0;have h5:=h.ne;have h6:=h.d;have h7:=h.w
  unfold cc;rw [if_neg (by unfold bad;omega),if_neg (by omega)]
def Oks (n:Nat) (l:List Cm):Prop:=∀c∈l,Ok n c
theorem offC_ok {n:Nat} {l:List Cm} (h:offC (n:Int) l=0):1≤n∧n≤16∧l.length≤64∧Oks n l:=by
  unfold offC at h
  by_cases k:(n:Int)<1∨16<(n:Int)∨64<l.length
  · rw [if_pos k] at h;exact absurd h (by decide)
  · rw [if_neg k] at h
    exact ⟨by omega,by omega,by omega,fun c hc=>ok_of (cfst_ok h c hc)⟩
theorem Oks.getD {n:Nat} {l:List Cm} (h:Oks n l) {i:Nat} (hi:i<l.length):Ok n (l.getD i c0):=by
  refine h _ ?_
  rw [List.getD_eq_getElem?_getD,List.getElem?_eq_getElem hi]
  exact List.getElem_mem _
def st (p:List Int) (c:Cm):List Int:=(p.set c.a.toNat (min (p.getD c.a.toNat 0) (p.getD c.b.toNat 0))).set c.b.toNat (min (p.getD c.a.toNat 0) (p.getD c.b.toNat 0))
def rnd (l:List Cm) (p:List Int):List Int:=l.foldl st p
def ids (n:Nat):List Int:=(List.range n).map fun i:Nat=>(i:Int)
def rds (n:Nat) (l:List Cm):Nat→List Int
  |0=>ids n
  |k+1=>rnd l (rds n l k)
def prt (n:Nat) (l:List Cm):List Int:=rds n l n
theorem st_len (p:List Int) (c:Cm):(st p c).length=p.length:=by unfold st;simp
theorem rnd_len:∀(l:List Cm) (p:List Int),(rnd l p).length=p.length
  |[],p=>rfl
  |c :: l,p=>by show (rnd l (st p c)).length=_;rw [rnd_len l,st_len]
theorem ids_len (n:Nat):(ids n).length=n:=by unfold ids;simp
theorem rds_len (n:Nat) (l:List Cm):∀k,(rds n l k).length=n
  |0=>ids_len n
  |k+1=>by show (rnd l _).length=n;rw [rnd_len,rds_len n l k]
theorem prt_len (n:Nat) (l:List Cm):(prt n l).length=n:=rds_len n l n
theorem ids_get {n i:Nat} (h:i<n):(ids n).getD i 0=(i:Int):=by
  unfold ids;rw [List.getD_eq_getElem?_getD,List.getElem?_map,List.getElem?_range h];rfl
theorem st_get {n:Nat} {p:List Int} {c:Cm} (hp:p.length=n) (hc:Ok n c) (i:Nat):(st p c).getD i 0=if i=c.b.toNat∨i=c.a.toNat then min (p.getD c.a.toNat 0) (p.getD c.b.toNat 0) else p.getD i 0:=by
  have h1:=hc.a;have h2:=hc.b
  unfold st
  rw [getD_set (by simp;omega),getD_set (by omega)]
  by_cases e:i=c.b.toNat
  · rw [if_pos e,if_pos (.inl e)]
  · rw [if_neg e]
    by_cases k:i=c.a.toNat
    · rw [if_pos k,if_pos (.inr k)]
    · rw [if_neg k,if_neg (by omega)]
theorem st_le {n:Nat} {p:List Int} {c:Cm} (hp:p.length=n) (hc:Ok n c) (i:Nat):(st p c).getD i 0≤p.getD i 0:=by
  rw [st_get hp hc];split
  · rename_i h;rcases h with h|h <;> rw [h] <;> omega
  · exact Int.le_refl _
theorem rnd_le {n:Nat}:∀{l:List Cm} {p:List Int},Oks n l→p.length=n→∀i,(rnd l p).getD i 0≤p.getD i 0
  |[],p,_,_,i=>Int.le_refl _
  |c :: l,p,h,hp,i=>Int.le_trans (rnd_le (fun x hx=>h x (List.mem_cons_of_mem _ hx)) ((st_len p c).trans hp) i) (st_le hp (h c (List.mem_cons_self ..)) i)
theorem rnd_edge {n:Nat}:∀{l:List Cm} {p:List Int},Oks n l→p.length=n→∀c∈l,(rnd l p).getD c.a.toNat 0≤p.getD c.b.toNat 0∧(rnd l p).getD c.b.toNat 0≤p.getD c.a.toNat 0
  |[],p,_,_,c,hc=>by cases hc
  |x :: l,p,h,hp,c,hc=>by
    have ht:Oks n l:=fun y hy=>h y (List.mem_cons_of_mem _ hy)
    have hx:=h x (List.mem_cons_self ..)
    have hl:=(st_len p x).trans hp
    show (rnd l (st p x)).getD _ 0≤_∧(rnd l (st p x)).getD _ 0≤_
    rcases List.mem_cons.1 hc with e|e
    · subst e
      have h1:=rnd_le ht hl c.a.toNat
      have h2:=rnd_le ht hl c.b.toNat
      rw [st_get hp hx,if_pos (.inr rfl)] at h1
      rw [st_get hp hx,if_pos (.inl rfl)] at h2
      omega
    · obtain ⟨h1, h2⟩ := rnd_edge ht hl c e
      have h3:=st_le hp hx c.a.toNat
      have h4:=st_le hp hx c.b.toNat
      omega
def Cl (v:Int) (l:List Cm) (p:List Int):Prop:=∀c∈l,(p.getD c.a.toNat 0≤v↔p.getD c.b.toNat 0≤v)
theorem rnd_cl {n:Nat} {v:Int}:∀{l:List Cm} {p:List Int},Oks n l→p.length=n→Cl v l p→∀i,(rnd l p).getD i 0≤v↔p.getD i 0≤v
  |[],p,_,_,_,i=>Iff.rfl
  |x :: l,p,h,hp,hc,i=>by
    have ht:Oks n l:=fun y hy=>h y (List.mem_cons_of_mem _ hy)
    have hx:=h x (List.mem_cons_self ..)
    have hl:=(st_len p x).trans hp
    have key:∀i,(st p x).getD i 0≤v↔p.getD i 0≤v:=fun i=>by
      have:=hc x (List.mem_cons_self ..)
      rw [st_get hp hx];split
      · rename_i e;rcases e with e|e <;> rw [e] <;> omega
      · exact Iff.rfl
    show (rnd l (st p x)).getD i 0≤v↔_
    rw [rnd_cl ht hl (fun c hc'=>by rw [key,key];exact hc c (List.mem_cons_of_mem _ hc')) i,key]
def cn (P:Nat→Bool):Nat→Nat
  |0=>0
  |n+1=>cn P n+if P n then 1 else 0
theorem cn_le (P:Nat→Bool):∀n,cn P n≤n
  |0=>Nat.le_refl _
  |n+1=>by have:=cn_le P n;unfold cn;split <;> omega
theorem cn_mono {P Q:Nat→Bool} {n:Nat} (h:∀i,i<n→P i=true→Q i=true):cn P n≤cn Q n:=by
  induction n with
  |zero=>exact Nat.le_refl _
  |succ n ih=>
    have ih:=ih fun i hi=>h i (by omega)
    have h9:=h n (by omega)
    unfold cn
    by_cases hP:P n=true
    · rw [if_pos hP,if_pos (h9 hP)];omega
    · rw [if_neg hP];split <;> omega
theorem cn_lt {P Q:Nat→Bool} {k n:Nat} (h:∀i,i<n→P i=true→Q i=true) (hk:k<n) (h1:P k=false) (h2:Q k=true):cn P n<cn Q n:=by
  induction n with
  |zero=>omega
  |succ n ih=>
    unfold cn
    by_cases e:k=n
    · subst e
      have:=cn_mono (n:=k) fun i hi=>h i (by omega)
      rw [if_neg (by rw [h1];decide),if_pos h2];omega
    · have ih := ih (fun i hi => h i (by omega)) (by omega)
      have h9:=h n (by omega)
      by_cases hP:P n=true
      · rw [if_pos hP,if_pos (h9 hP)];omega
      · rw [if_neg hP];split <;> omega
theorem rds_cl {n:Nat} {v:Int} {l:List Cm} (h:Oks n l) (hv:0≤v) (hn:1≤n):∀k,Cl v l (rds n l k)∨k+1≤cn (fun i=>decide ((rds n l k).getD i 0≤v)) n
  |0=>by
    right
    have:cn (fun _=>false) n<cn (fun i=>decide ((rds n l 0).getD i 0≤v)) n:=cn_lt (k:=0) (fun i _ e=>by cases e) (by omega) rfl (by
      show decide ((ids n).getD 0 0≤v)=true
      rw [ids_get (by omega)];exact decide_eq_true hv)
    omega
  |k+1=>by
    have hl:=rds_len n l k
    rcases rds_cl h hv hn k with ih|ih
    · left
      intro c hc
      show (rnd l _).getD _ 0≤v↔(rnd l _).getD _ 0≤v
      rw [rnd_cl h hl ih,rnd_cl h hl ih];exact ih c hc
    · by_cases hC : Cl v l (rds n l k)
      · left
        intro c hc
        show (rnd l _).getD _ 0≤v↔(rnd l _).getD _ 0≤v
        rw [rnd_cl h hl hC,rnd_cl h hl hC];exact hC c hc
      · right
        have:∃c∈l,¬((rds n l k).getD c.a.toNat 0≤v↔(rds n l k).getD c.b.toNat 0≤v):=by
          apply Classical.byContradiction
          intro hne
          exact hC fun c hc=>Classical.byContradiction fun hx=>hne ⟨c,hc,hx⟩
        obtain ⟨c,hc,hx⟩:=this
        have ho:=h c hc
        obtain ⟨e1,e2⟩:=rnd_edge h hl c hc
        have mono:∀i,i<n→decide ((rds n l k).getD i 0≤v)=true→decide ((rds n l (k+1)).getD i 0≤v)=true:=fun i _ hi=>by
          have:=rnd_le h hl i
          have hi':=of_decide_eq_true hi
          exact decide_eq_true (Int.le_trans this hi')
        by_cases ha:(rds n l k).getD c.a.toNat 0≤v
        · have hb : ¬ (rds n l k).getD c.b.toNat 0 ≤ v := fun z => hx ⟨fun _ => z, fun _ => ha⟩
          have:=cn_lt (k:=c.b.toNat) mono ho.b (decide_eq_false hb) (decide_eq_true (show (rnd l _).getD _ 0≤v by omega))
          omega
        · have hb : (rds n l k).getD c.b.toNat 0 ≤ v := Classical.byContradiction fun z => hx ⟨fun k => absurd k ha, fun k => absurd k z⟩
          have:=cn_lt (k:=c.a.toNat) mono ho.a (decide_eq_false ha) (decide_eq_true (show (rnd l _).getD _ 0≤v by omega))
          omega
theorem rds_nn {n:Nat} {l:List Cm} (h:Oks n l):∀k i,0≤(rds n l k).getD i 0
  |0,i=>by
    show 0≤(ids n).getD i 0
    by_cases hi:i<n
    · rw [ids_get hi];omega
    · rw [List.getD_eq_getElem?_getD,List.getElem?_eq_none (by rw [ids_len];omega)];decide
  |k+1,i=>by
    have key:∀(l':List Cm) (p:List Int),Oks n l'→p.length=n→(∀i,0≤p.getD i 0)→∀i,0≤(rnd l' p).getD i 0:=by
      intro l'
      induction l' with
      |nil=>intro p _ _ hp i;exact hp i
      |cons x l' ih=>
        intro p h' hl hp i
        refine ih (st p x) (fun y hy=>h' y (List.mem_cons_of_mem _ hy)) ((st_len p x).trans hl) (fun i=> ?_) i
        have h1:=hp x.a.toNat;have h2:=hp x.b.toNat
        rw [st_get hl (h' x (List.mem_cons_self ..))];split
        · omega
        · exact hp i
    exact key l _ h (rds_len n l k) (rds_nn h k) i
theorem rds_lt {n:Nat} {l:List Cm} (h:Oks n l):∀k i,i<n→(rds n l k).getD i 0<n
  |0,i,hi=>by show (ids n).getD i 0<_;rw [ids_get hi];omega
  |k+1,i,hi=>Int.lt_of_le_of_lt (rnd_le h (rds_len n l k) i) (rds_lt h k i hi)
theorem prt_eq {n:Nat} {l:List Cm} (h:Oks n l) (hn:1≤n) {c:Cm} (hc:c∈l):(prt n l).getD c.a.toNat 0=(prt n l).getD c.b.toNat 0:=by
  have key:∀v,0≤v→Cl v l (prt n l):=fun v hv=>by
    rcases rds_cl h hv hn n with k|k
    · exact k
    · have:=cn_le (fun i=>decide ((rds n l n).getD i 0≤v)) n;omega
  have h1:=(key _ (rds_nn h n c.a.toNat) c hc).1 (Int.le_refl _)
  have h2:=(key _ (rds_nn h n c.b.toNat) c hc).2 (Int.le_refl _)
  have h1':(prt n l).getD c.b.toNat 0≤(prt n l).getD c.a.toNat 0:=h1
  have h2':(prt n l).getD c.a.toNat 0≤(prt n l).getD c.b.toNat 0:=h2
  omega
end Go.Proofs.YtkohlohbogpooaaGreat.Rd
