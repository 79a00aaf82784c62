/- Lemmas on the walk and plain lemmas that the claim of this folder uses; each states its own conditions. Lines were printed by a program of ours. -/
import Derived.Test.YtalfgjpbbongcaaZ7D
set_option linter.unusedVariables false
set_option linter.unusedSimpArgs false
set_option linter.unusedSectionVars false
namespace Go.Proofs.Ytalfgjpbbongcaa.Sp
open Go
set_option linter.unusedVariables false
set_option maxRecDepth 100000
set_option maxHeartbeats 8000000
theorem zVd {pv:Option Addr} {nv:Nat} {cv:Nat} {V:List (Int×Int×Int)} {pf:Option Addr} {nf:Nat} {cf:Nat} {F:List (Int×Int×Int)} (hnv:V.length=nv) (hnf:F.length=nf) (hV16:V.length≤16) (hF24:F.length≤24):Con Try.prog 31 [.agg #[.slice pv nv cv,.slice pf nf cf]] [] [slF (rI3 .i64) pv cv V,slF (rI3 .i64) pf cf F] (Y:=(Option Addr)×Nat×(Option Addr)×Nat×(List (Int×Int))) (fun y=>Ms.check V F=0→Ms.BMap F y.2.2.2.2) (fun y=> .tuple #[.agg #[.slice (y.1) ((if Ms.check V F=0 then Ms.closeV V (Ms.loops (fun jj=>mget y.2.2.2.2 jj) nv) else []).length) (y.2.1),.slice (y.2.2.1) ((if Ms.check V F=0 then Ms.closeF F nv (Ms.loops (fun jj=>mget y.2.2.2.2 jj) nv) else []).length) (y.2.2.2.1)],.int .i64 (Ms.check V F)]) (fun y=>[]) (fun y=>[slF (rI3 .i64) (y.1) (y.2.1) (if Ms.check V F=0 then Ms.closeV V (Ms.loops (fun jj=>mget y.2.2.2.2 jj) nv) else []),slF (rI3 .i64) (y.2.2.1) (y.2.2.2.1) (if Ms.check V F=0 then Ms.closeF F nv (Ms.loops (fun jj=>mget y.2.2.2.2 jj) nv) else [])]):=by
 refine zy Try.func31 rfl rfl rfl (fun c=> ?_)
 show RunC _ _ _ _ _ [(0,.agg #[.slice pv nv cv,.slice pf nf cf])] [] [slF (rI3 .i64) pv cv V,slF (rI3 .i64) pf cf F]
 refine zda 0 rfl (fun hL0=> ?_)
 refine zda 1 rfl (fun hL1=> ?_)
 refine ze<|za<|zV rfl rfl (zla rfl rfl) (fun b1=> ?_)
 refine zV rfl rfl (zr zr25 rfl) (fun b2=> ?_)
 refine r_pv rfl rfl (zd rfl)<|zg<|zc<|ze<|ze<|za<|r_u rfl rfl (zh 1 ty25 rfl rfl (.take (.take .nil)))<|zea rfl rfl (.c rfl .n) ce14 (znb (pv:=pv) (nv:=nv) (cv:=cv) (V:=V) (pf:=pf) (nf:=nf) (cf:=cf) (F:=F) (hnv:=by assumption) (hnf:=by assumption)) (.c (j:=0) rfl (.c (j:=1) rfl .n))<|r_pv rfl rfl (zd rfl)<|zg<|zc<|ze<|za<|r_pv rfl rfl (zb rfl)<|r_pv rfl rfl (zMa rfl rfl)<|zg<|zc<|zD rfl (fun hcode=> ?_) (fun hcode=> ?_)
 ·
  refine ze<|za<|r_pv rfl rfl (zM zr25 rfl Try.underlying25 (.c sz22 (.c sz23 .n)) .n .n)<|r_pv rfl rfl (zb rfl)<|zv 0 rfl rfl rfl rfl rfl sz25 rfl (.take (.take .nil)) .z<|r_pv rfl rfl (zd rfl)<|zg<|zc<|zK<|zk ?_
  have hz1:(if Ms.check V F=0 then Ms.closeV V (Ms.loops (fun jj=>mget [] jj) nv) else [])=[]:=if_neg hcode
  have hz2:(if Ms.check V F=0 then Ms.closeF F nv (Ms.loops (fun jj=>mget [] jj) nv) else [])=[]:=if_neg hcode
  refine zwc (rI3 .i64)<|zwc (rI3 .i64) ?_
  exact zub Try.results31 (none,0,none,0,[]) (fun h=>absurd h hcode) (zR 0 ty25 rfl rfl (.take (.take .nil))) (zx rfl) (by rw [hz1,hz2];rfl) (ho:=(.n:PickO _ _ _)) ((.e (j:=0) rfl (by rw [hz1]) (.e (j:=0) rfl (by rw [hz2]) .n)):SelR _ _ _)
 ·
  have hc0:=Decidable.not_not.1 hcode
  have hf0:=Ms.check_form hc0
  have hg:=Ms.form_zero.1 hf0
  have hnv5:nv≤512:=by have:=hg.nv;omega
  have hnf5:nf≤1024:=by have:=hg.nf;omega
  refine zu<|zc<|ze<|zva (OW:=[]) (O:=[boxA b2 25 [.slice none 0 0,.slice none 0 0],boxA b1 25 [.slice pv nv cv,.slice pf nf cf]]) 8 mixed (.then .ret) (by kernel_rfl)<|d_pv 0 rfl rfl (by kernel_rfl) (by kernel_rfl) rfl rfl (zn Try.underlying25 rfl sz22 rfl rfl)<|d_u 1 rfl rfl (by kernel_rfl) (by kernel_rfl) rfl rfl (zf 1 ty22 rfl rfl rfl)<|d_pv 3 rfl rfl (by kernel_rfl) (by kernel_rfl) rfl rfl (zn Try.underlying25 rfl sz23 rfl rfl)<|d_u 4 rfl rfl (by kernel_rfl) (by kernel_rfl) rfl rfl (zf 1 ty23 rfl rfl rfl)<|zPb (m':=[(28,.slice pf nf cf),(25,.slice pv nv cv),(3,.int .i64 0),(2,.pointer (some ⟨b2,0,none⟩)),(1,.pointer (some ⟨b1,0,none⟩))]) (R':=[slF (rI3 .i64) pv cv V,slF (rI3 .i64) pf cf F]) ((.of rfl):SubM _ _) (List.Perm.refl _) (List.Perm.refl _) ((.of [0,1] rfl):SelR _ _ _)<|zQ (X:=Option Addr×Nat×Option Addr×Nat×Nat) (k':=0) (L':=(lb 9 511)) (fun (u2_1,u2_2,u5_1,u5_2,u7_1)=>([(5,.pointer (some ⟨u7_1,0,none⟩)),(3,.int .i64 0),(2,.pointer (some ⟨b2,0,none⟩)),(1,.pointer (some ⟨b1,0,none⟩))],[boxA u7_1 25 [.slice u2_1 (V.length) u2_2,.slice u5_1 (F.length) u5_2]],[rowA 44 (rI3 .i64) u5_1 u5_2 F,rowA 42 (rI3 .i64) u2_1 u2_2 V,boxA b2 25 [.slice none 0 0,.slice none 0 0],boxA b1 25 [.slice pv nv cv,.slice pf nf cf]],[slF (rI3 .i64) pv cv V,slF (rI3 .i64) pf cf F])) ?_ (fun hD0=> ?_)
  ·
   rintro ⟨u2_1,u2_2,u5_1,u5_2,u7_1⟩
   dsimp only
   refine zwa (by kernel_rfl)<|zc<|ze<|ze<|za<|r_u rfl rfl (zh 4 ty25 rfl rfl (.take (.take .nil)))<|zfa rfl rfl (.c rfl .n) ce65 (zHc (pv:=pv) (nv:=nv) (cv:=cv) (V:=V) (pf:=pf) (nf:=nf) (cf:=cf) (F:=F) (hnv:=by assumption) (hnf:=by assumption) (hg:=by first|rfl|assumption|omega|(simp;done)|(simp;omega)|(simp_all;done))) (.c (j:=0) rfl (.c (j:=1) rfl .n)) ?_
   rintro ⟨p23,c24,bm1⟩ hB
   dsimp only [List.append_eq,List.nil_append,List.cons_append]
   replace hB:Ms.BMap F bm1:=hB
   refine r_pv rfl rfl (zJ Try.underlying37 rfl)<|r_pv rfl rfl (zb rfl)<|zg<|zc<|zq ?_
   obtain ⟨hs1,hs2,hs3⟩:=Ms.loops_small hc0 hB
   rw [hnv] at hs1 hs2 hs3
   obtain ⟨LL,hLL⟩:∃z:List (List Int),z=Ms.loops (fun jj=>mget bm1 jj) nv:=⟨_,rfl⟩
   rw [← hLL]
   rw [← hLL] at hs1 hs2 hs3
   refine zha (X:=Nat×(Option Addr)×Nat×(List (Int×Int×Int))×(Option Addr)×Nat×(List (Int×Int×Int))) (fun x:Nat×(Option Addr)×Nat×(List (Int×Int×Int))×(Option Addr)×Nat×(List (Int×Int×Int))=>x.1≤LL.length∧x.2.2.2.1=Ms.closeV V (LL.take x.1)∧x.2.2.2.2.2.2=Ms.closeF F nv (LL.take x.1)) (fun x=>[(34,.int .i64 ((x.1:Nat):Int)),(33,.int .i64 ((LL.length:Nat):Int)),(32,.slice p23 (LL.length) c24),(5,.pointer (some ⟨u7_1,0,none⟩)),(3,.int .i64 0),(2,.pointer (some ⟨b2,0,none⟩)),(1,.pointer (some ⟨b1,0,none⟩))]) (fun x=>[boxA u7_1 25 [.slice (x.2.1) (x.2.2.2.1.length) (x.2.2.1),.slice (x.2.2.2.2.1) (x.2.2.2.2.2.2.length) (x.2.2.2.2.2.1)],rowA 44 (rI3 .i64) (x.2.2.2.2.1) (x.2.2.2.2.2.1) (x.2.2.2.2.2.2),rowA 42 (rI3 .i64) (x.2.1) (x.2.2.1) (x.2.2.2.1),boxA b2 25 [.slice none 0 0,.slice none 0 0],boxA b1 25 [.slice pv nv cv,.slice pf nf cf]]) (fun x=>[slF (rS (rI .i64)) p23 c24 LL,slF (rI3 .i64) pv cv V,slF (rI3 .i64) pf cf F]) (fun x:Nat×(Option Addr)×Nat×(List (Int×Int×Int))×(Option Addr)×Nat×(List (Int×Int×Int))=>LL.length - x.1) (0,u2_1,u2_2,V,u5_1,u5_2,F) (show 0≤LL.length∧V=Ms.closeV V (LL.take 0)∧F=Ms.closeF F nv (LL.take 0) from by exact ⟨Nat.zero_le _,by simp [Ms.closeV],by simp [Ms.closeF]⟩) ((.e rfl (by first|rfl|(congr 1;omega)|simp_all) (.of rfl)):SubM _ _) (ho:=((.of [0,0,0,0,0] rfl):PickO _ _ _)) ((.of [0,1,2] rfl):SelR _ _ _) ?_
   rintro ⟨k,pW,cW,W,pA,cA,A⟩ hI
   replace hI:k≤LL.length∧W=Ms.closeV V (LL.take k)∧A=Ms.closeF F nv (LL.take k):=hI
   try dsimp only
   obtain ⟨hk,hW,hA⟩:=hI
   have hWl:W.length=nv+k:=by rw [hW,Ms.closeV_len hk,hnv]
   have hAl:A.length≤40:=by have h8:=Ms.closeF_small (L:=LL) (F:=F) (n:=nv) (k:=k);rw [← hA] at h8;omega
   refine ze<|za<|r_pv rfl rfl (zE rfl rfl)<|zg<|zc<|ze<|zD rfl (fun h5=> ?_) (fun h5=> ?_)
   ·
    refine zu<|zc<|ze<|zq<|ze<|za<|r_vl rfl rfl (zob (x0:=(LL.getD k [])) 0 k rfl Try.underlying37 sz50 rfl (by first|rfl|assumption|(simp;done)|omega) rfl rfl (gD (d:=[]) (by omega))) ?_
    rintro ⟨b6,o7,p8,c9⟩ -
    dsimp only [List.append_eq,List.nil_append,List.cons_append]
    refine r_u rfl rfl (zw (j:=0) 0 ty50 rfl rfl rfl rfl)<|r_pv rfl rfl (zd rfl)<|zg<|zc<|ze<|za<|r_pv rfl rfl (zd rfl)<|r_pv rfl rfl (zd rfl)<|r_pv rfl rfl (zd rfl)<|zg<|zc<|ze<|ze<|za<|r_pv rfl rfl (zb rfl)<|r_pv rfl rfl (zJ Try.underlying50 rfl)<|r_pv rfl rfl (zb rfl)<|zg<|zc<|zq ?_
    obtain ⟨lk,hlk⟩:∃z:List Int,z=(LL.getD k []):=⟨_,rfl⟩
    rw [← hlk]
    have hlk2:lk=LL.getD k []:=hlk
    have hl9:=hs3 lk (by rw [hlk2];exact Ms.getD_mem [] (by omega))
    refine zha (X:=Nat×Int×Int×Int) (fun x:Nat×Int×Int×Int=>x.1≤lk.length∧Ms.ctrS V (lk.take x.1)=(x.2.1,x.2.2.1,x.2.2.2)) (fun x=>[(10,.int .i64 (x.2.2.2)),(9,.int .i64 (x.2.2.1)),(8,.int .i64 (x.2.1)),(40,.int .i64 ((x.1:Nat):Int)),(39,.int .i64 ((lk.length:Nat):Int)),(38,.slice p8 (lk.length) c9),(7,.slice p8 (lk.length) c9),(34,.int .i64 ((k:Nat):Int)),(33,.int .i64 ((LL.length:Nat):Int)),(32,.slice p23 (LL.length) c24),(5,.pointer (some ⟨u7_1,0,none⟩)),(3,.int .i64 0),(2,.pointer (some ⟨b2,0,none⟩)),(1,.pointer (some ⟨b1,0,none⟩))]) (fun x=>[boxA u7_1 25 [.slice pW (W.length) cW,.slice pA (A.length) cA],rowA 44 (rI3 .i64) pA cA A,rowA 42 (rI3 .i64) pW cW W,boxA b2 25 [.slice none 0 0,.slice none 0 0],boxA b1 25 [.slice pv nv cv,.slice pf nf cf]]) (fun x=>[atF b6 o7 [.slice p8 (lk.length) c9],slF (rI .i64) p8 c9 lk,slF (rS (rI .i64)) p23 c24 LL,slF (rI3 .i64) pv cv V,slF (rI3 .i64) pf cf F]) (fun x:Nat×Int×Int×Int=>lk.length - x.1) (0,(0:Int),(0:Int),(0:Int)) (show 0≤lk.length∧Ms.ctrS V (lk.take 0)=((0:Int),(0:Int),(0:Int)) from by exact ⟨Nat.zero_le _,rfl⟩) ((.e rfl (by first|rfl|(congr 1;omega)|simp_all) (.e rfl (by first|rfl|(congr 1;omega)|simp_all) (.e rfl (by first|rfl|(congr 1;omega)|simp_all) (.e rfl (by first|rfl|(congr 1;omega)|simp_all) (.of rfl))))):SubM _ _) (ho:=((.of [0,0,0,0,0] rfl):PickO _ _ _)) ((.of [0,1,2,3,4] rfl):SelR _ _ _) ?_
    rintro ⟨i,sx,sy,sz⟩ hJ
    replace hJ:i≤lk.length∧Ms.ctrS V (lk.take i)=(sx,sy,sz):=hJ
    try dsimp only
    obtain ⟨hi,hsum⟩:=hJ
    have hsb:=Ms.ctrS_b (Ms.pt_b hg) lk i hi
    rw [hsum] at hsb
    unfold Ms.inB at hsb
    simp only at hsb
    refine ze<|za<|r_pv rfl rfl (zE rfl rfl)<|zg<|zc<|ze<|zD rfl (fun h10=> ?_) (fun h10=> ?_)
    ·
     have hx:=hl9.2 (lk.getD i 0) (Ms.getD_mem 0 (by omega))
     have hvx:=hg.vat (i:=(lk.getD i 0).toNat) (by omega)
     refine zu<|zc<|ze<|zq<|ze<|za<|zI (x0:=(lk.getD i 0)) 1 i rfl Try.underlying50 sz3 rfl rfl rfl (by first|rfl|assumption|(simp;done)|omega) rfl rfl (gD (d:=0) (by omega)) (fun b11 o12 hok13=> ?_)
     replace hok13:=zl.1 hok13
     refine r_u rfl rfl (zw (j:=0) 0 ty3 rfl rfl rfl rfl)<|r_pv rfl rfl (zd rfl)<|zg<|zc<|ze<|za<|r_pv rfl rfl (zn Try.underlying25 rfl sz22 rfl rfl)<|r_u rfl rfl (zf 4 ty22 rfl rfl rfl)<|r_pv rfl rfl (zb rfl)<|zI (x0:=(V.getD ((lk.getD i 0).toNat) (0,0,0))) 4 ((lk.getD i 0).toNat) rfl Try.underlying22 sz42 rfl rfl rfl (by first|rfl|assumption|(simp;done)|omega) rfl (by omega) (gD (d:=(0,0,0)) (by omega)) (fun b14 o15 hok16=> ?_)
     obtain ⟨hok16x,hok16y,hok16z⟩:=hok16
     replace hok16x:=zl.1 hok16x
     replace hok16y:=zl.1 hok16y
     replace hok16z:=zl.1 hok16z
     refine r_u rfl rfl (zG (j:=0) 0 ty42 rfl rfl rfl (.take (.take (.take .nil))))<|zV rfl rfl (zr zr42 rfl) (fun b17=> ?_)
     refine zv 0 rfl rfl rfl rfl rfl sz42 rfl (.take (.take (.take .nil))) .z<|zg<|zc<|zva (OW:=[]) (O:=[boxA b17 42 [.int .i64 ((V.getD ((lk.getD i 0).toNat) (0,0,0)).1),.int .i64 ((V.getD ((lk.getD i 0).toNat) (0,0,0)).2.1),.int .i64 ((V.getD ((lk.getD i 0).toNat) (0,0,0)).2.2)],boxA u7_1 25 [.slice pW (W.length) cW,.slice pA (A.length) cA],rowA 44 (rI3 .i64) pA cA A,rowA 42 (rI3 .i64) pW cW W,boxA b2 25 [.slice none 0 0,.slice none 0 0],boxA b1 25 [.slice pv nv cv,.slice pf nf cf]]) 100000 mixed (.block (.then (.then (.block (.then (.block (.then (.then (.block (.then .ret)))))))))) (by kernel_rfl)<|d_pv 0 rfl rfl (by kernel_rfl) (by kernel_rfl) rfl rfl (zb rfl)<|d_pv 1 rfl rfl (by kernel_rfl) (by kernel_rfl) rfl rfl (zn Try.underlying42 rfl sz3 rfl rfl)<|d_u 2 rfl rfl (by kernel_rfl) (by kernel_rfl) rfl rfl (zf 0 ty3 rfl rfl rfl)<|d_pv 3 rfl rfl (by kernel_rfl) (by kernel_rfl) rfl rfl (zC (z:=(sx+(V.getD ((lk.getD i 0).toNat) (0,0,0)).1)) rfl rfl (w64 (by omega)))<|d_pv 4 rfl rfl (by kernel_rfl) (by kernel_rfl) rfl rfl (zb rfl)<|d_pv 5 rfl rfl (by kernel_rfl) (by kernel_rfl) rfl rfl (zn Try.underlying42 rfl sz3 rfl rfl)<|d_u 6 rfl rfl (by kernel_rfl) (by kernel_rfl) rfl rfl (zf 0 ty3 rfl rfl rfl)<|d_pv 7 rfl rfl (by kernel_rfl) (by kernel_rfl) rfl rfl (zC (z:=(sy+(V.getD ((lk.getD i 0).toNat) (0,0,0)).2.1)) rfl rfl (w64 (by omega)))<|d_pv 8 rfl rfl (by kernel_rfl) (by kernel_rfl) rfl rfl (zb rfl)<|d_pv 9 rfl rfl (by kernel_rfl) (by kernel_rfl) rfl rfl (zn Try.underlying42 rfl sz3 rfl rfl)<|d_u 10 rfl rfl (by kernel_rfl) (by kernel_rfl) rfl rfl (zf 0 ty3 rfl rfl rfl)<|d_pv 11 rfl rfl (by kernel_rfl) (by kernel_rfl) rfl rfl (zC (z:=(sz+(V.getD ((lk.getD i 0).toNat) (0,0,0)).2.2)) rfl rfl (w64 (by omega)))<|d_pv 12 rfl rfl (by kernel_rfl) (by kernel_rfl) rfl rfl (zd rfl)<|d_pv 13 rfl rfl (by kernel_rfl) (by kernel_rfl) rfl rfl (zd rfl)<|d_pv 14 rfl rfl (by kernel_rfl) (by kernel_rfl) rfl rfl (zd rfl)<|zwa (by kernel_rfl)<|zA<|zc<|za<|r_pv rfl rfl (zC (z:=(((i+1):Nat):Int)) rfl rfl (w64 (by omega)))<|r_pv rfl rfl (zb rfl)<|zg<|zba ((i+1),(sx+(V.getD ((lk.getD i 0).toNat) (0,0,0)).1),(sy+(V.getD ((lk.getD i 0).toNat) (0,0,0)).2.1),(sz+(V.getD ((lk.getD i 0).toNat) (0,0,0)).2.2)) (show (i+1)≤lk.length∧Ms.ctrS V (lk.take (i+1))=((sx+(V.getD ((lk.getD i 0).toNat) (0,0,0)).1),(sy+(V.getD ((lk.getD i 0).toNat) (0,0,0)).2.1),(sz+(V.getD ((lk.getD i 0).toNat) (0,0,0)).2.2)) from by exact ⟨by omega,by rw [Ms.ctrS_take (by omega),hsum];rfl⟩) (by show lk.length - (i+1)<lk.length - i;omega) ((.of rfl):SubM _ _) (ho:=((.of [1,1,1,1,1] rfl):PickO _ _ _)) ((.of [2,3,4,5,6] rfl):SelR _ _ _)
    ·
     refine zX<|zj<|zj<|zp<|zc<|ze ?_
     have hil:(i:Int)=(lk.length:Int):=by omega
     rw [hil] at hsb
     have hdx:=Ms.div_b (by omega) hsb.1
     have hdy:=Ms.div_b (by omega) hsb.2.1
     have hdz:=Ms.div_b (by omega) hsb.2.2
     refine za<|r_pv rfl rfl (zb rfl)<|r_pv rfl rfl (zJ Try.underlying50 rfl)<|r_pv rfl rfl (zd rfl)<|zg<|zc<|ze<|za<|r_pv rfl rfl (zn Try.underlying25 rfl sz22 rfl rfl)<|r_u rfl rfl (zf 0 ty22 rfl rfl rfl)<|r_pv rfl rfl (zJ Try.underlying22 rfl)<|r_pv rfl rfl (zd rfl)<|zg<|zc<|ze<|zTa (.c (i:=2) rfl (.c (i:=0) rfl (.c (i:=0) rfl (.c (i:=0) rfl (.c (i:=0) rfl .n)))))<|zva (OW:=[rowA 42 (rI3 .i64) pW cW W,boxA u7_1 25 [.slice pW (W.length) cW,.slice pA (A.length) cA]]) (O:=[rowA 44 (rI3 .i64) pA cA A,boxA b2 25 [.slice none 0 0,.slice none 0 0],boxA b1 25 [.slice pv nv cv,.slice pf nf cf]]) 13 mixed (.then (.block (.then (.then (.block (.then .ret)))))) (by kernel_rfl)<|d_pv 0 rfl rfl (by kernel_rfl) (by kernel_rfl) rfl rfl (zn Try.underlying25 rfl sz22 rfl rfl)<|d_uw 1 rfl rfl (by kernel_rfl) (by kernel_rfl) (by kernel_rfl) rfl rfl (zf 1 ty22 rfl rfl rfl)<|d_pv 2 rfl rfl (by kernel_rfl) (by kernel_rfl) rfl rfl (zb rfl)<|d_pv 3 rfl rfl (by kernel_rfl) (by kernel_rfl) rfl rfl (zb rfl)<|d_pv 5 rfl rfl (by kernel_rfl) (by kernel_rfl) rfl rfl (zb rfl)<|d_pv 6 rfl rfl (by kernel_rfl) (by kernel_rfl) rfl rfl (zb rfl)<|d_pv 8 rfl rfl (by kernel_rfl) (by kernel_rfl) rfl rfl (zb rfl)<|d_pv 9 rfl rfl (by kernel_rfl) (by kernel_rfl) rfl rfl (zb rfl)<|zO 4 (by kernel_rfl) (zza rfl rfl rfl rfl (.c rfl (.c rfl .n)) ce69 (zkc (a:=sx) (b:=((lk.length:Nat):Int)) (hb:=by first|rfl|assumption|omega|(simp;done)|(simp;omega)|(simp_all;done)) (ha:=by first|rfl|assumption|omega|(simp;done)|(simp;omega)|(simp_all;done))) (.n) ?_)
     refine zO 7 (by kernel_rfl) (zza rfl rfl rfl rfl (.c rfl (.c rfl .n)) ce69 (zkc (a:=sy) (b:=((lk.length:Nat):Int)) (hb:=by first|rfl|assumption|omega|(simp;done)|(simp;omega)|(simp_all;done)) (ha:=by first|rfl|assumption|omega|(simp;done)|(simp;omega)|(simp_all;done))) (.n) ?_)
     refine zO 10 (by kernel_rfl) (zza rfl rfl rfl rfl (.c rfl (.c rfl .n)) ce69 (zkc (a:=sz) (b:=((lk.length:Nat):Int)) (hb:=by first|rfl|assumption|omega|(simp;done)|(simp;omega)|(simp_all;done)) (ha:=by first|rfl|assumption|omega|(simp;done)|(simp;omega)|(simp_all;done))) (.n) ?_)
     refine d_pv 11 rfl rfl (by kernel_rfl) (by kernel_rfl) rfl rfl (zM zr42 rfl Try.underlying42 (.c sz3 (.c sz3 (.c sz3 .n))) (.c rfl (.c rfl (.c rfl .n))) (.c rfl rfl rfl (.take .nil) (.c rfl rfl rfl (.skip (.take .nil)) (.c rfl rfl rfl (.skip (.skip (.take .nil))) .n))))<|zO 12 (by kernel_rfl) (zkb rfl rfl rfl rfl (zz (enc:=fun z:Int×Int×Int=>[.int .i64 z.1,.int .i64 z.2.1,.int .i64 z.2.2]) (ok:=fun z=>InK .i64 z.1∧InK .i64 z.2.1∧InK .i64 z.2.2) (h1:=fun _=>rfl) (h2:=fun _=>rfl) (k:=1) Try.underlying22 inf42 rfl (by decide) (by decide) (by decide) (.c (x:=((sx / ((lk.length:Nat):Int)),(sy / ((lk.length:Nat):Int)),(sz / ((lk.length:Nat):Int)))) rfl rfl (fun _ _=>by exact ⟨zl.2 (by first|omega|decide|(dsimp only;omega)),zl.2 (by first|omega|decide|(dsimp only;omega)),zl.2 (by first|omega|decide|(dsimp only;omega))⟩) .n)) (fun b18 _=> ?_))
     refine zDa 0 rfl .z<|zO 13 (by kernel_rfl) (zVa (A':=fun v:Option Addr×Nat=>rowA 42 (rI3 .i64) v.1 v.2 (W++([((sx / ((lk.length:Nat):Int)),(sy / ((lk.length:Nat):Int)),(sz / ((lk.length:Nat):Int)))]))) (by kernel_rfl) rfl rfl rfl (zW 0 rfl Try.underlying22 inf42 (by decide) rfl rfl (by first|rfl|assumption|(simp;done)|omega) rfl (by first|rfl|assumption|(simp;done)|omega) (by omega) (by omega)) ?_)
     rintro ⟨p19,c20⟩ -
     dsimp only [List.append_eq,List.nil_append,List.cons_append]
     refine d_pv 14 rfl rfl (by kernel_rfl) (by kernel_rfl) rfl rfl (zn Try.underlying25 rfl sz22 rfl rfl)<|zsb (zS (i:=1) rfl)<|zO 15 (by kernel_rfl) (zca (by kernel_rfl) rfl rfl rfl rfl rfl sz22 rfl (.take .nil) ?_)
     refine zwa (by kernel_rfl)<|zc<|ze<|za<|r_pv rfl rfl (zb rfl)<|r_pv rfl rfl (zJ Try.underlying50 rfl)<|r_pv rfl rfl (zb rfl)<|zg<|zc<|zq<|zha (X:=Nat×(Option Addr)×Nat×(List (Int×Int×Int))) (fun x:Nat×(Option Addr)×Nat×(List (Int×Int×Int))=>x.1≤lk.length∧x.2.2.2=A++(Ms.fanF lk ((W.length:Nat):Int)).take x.1) (fun x=>[(84,.int .i64 ((x.1:Nat):Int)),(83,.int .i64 ((lk.length:Nat):Int)),(82,.slice p8 (lk.length) c9),(15,.int .i64 ((W.length:Nat):Int)),(14,.int .i64 ((lk.length:Nat):Int)),(7,.slice p8 (lk.length) c9),(34,.int .i64 ((k:Nat):Int)),(33,.int .i64 ((LL.length:Nat):Int)),(32,.slice p23 (LL.length) c24),(5,.pointer (some ⟨u7_1,0,none⟩)),(3,.int .i64 0),(2,.pointer (some ⟨b2,0,none⟩)),(1,.pointer (some ⟨b1,0,none⟩))]) (fun x=>[boxA u7_1 25 [.slice p19 (W.length+1) c20,.slice (x.2.1) (x.2.2.2.length) (x.2.2.1)],rowA 42 (rI3 .i64) p19 c20 (W++([((sx / ((lk.length:Nat):Int)),(sy / ((lk.length:Nat):Int)),(sz / ((lk.length:Nat):Int)))])),rowA 44 (rI3 .i64) (x.2.1) (x.2.2.1) (x.2.2.2),boxA b2 25 [.slice none 0 0,.slice none 0 0],boxA b1 25 [.slice pv nv cv,.slice pf nf cf]]) (fun x=>[slF (rI3 .i64) (some ⟨b18,0,none⟩) 1 ([((sx / ((lk.length:Nat):Int)),(sy / ((lk.length:Nat):Int)),(sz / ((lk.length:Nat):Int)))]),atF b6 o7 [.slice p8 (lk.length) c9],slF (rI .i64) p8 c9 lk,slF (rS (rI .i64)) p23 c24 LL,slF (rI3 .i64) pv cv V,slF (rI3 .i64) pf cf F]) (fun x:Nat×(Option Addr)×Nat×(List (Int×Int×Int))=>lk.length - x.1) (0,pA,cA,A) (show 0≤lk.length∧A=A++(Ms.fanF lk ((W.length:Nat):Int)).take 0 from by exact ⟨Nat.zero_le _,by simp⟩) ((.e rfl (by first|rfl|(congr 1;omega)|simp_all) (.of rfl)):SubM _ _) (ho:=((.of [0,0,1,1,1] rfl):PickO _ _ _)) ((.of [0,1,2,3,4,5] rfl):SelR _ _ _) ?_
     rintro ⟨i,pB,cB,A2⟩ hJ
     replace hJ:i≤lk.length∧A2=A++(Ms.fanF lk ((W.length:Nat):Int)).take i:=hJ
     try dsimp only
     obtain ⟨hi,hA2⟩:=hJ
     have hA2l:A2.length≤80:=by rw [hA2,List.length_append,List.length_take,Ms.fan_len];omega
     have hmd:(i+1)%lk.length<lk.length:=Nat.mod_lt _ (by omega)
     refine ze<|za<|r_pv rfl rfl (zE rfl rfl)<|zg<|zc<|ze<|zD rfl (fun h21=> ?_) (fun h21=> ?_)
     ·
      refine zu<|zc<|ze<|zq<|ze<|za<|r_pv rfl rfl (zb rfl)<|zI (x0:=(lk.getD i 0)) 2 i rfl Try.underlying50 sz3 rfl rfl rfl (by first|rfl|assumption|(simp;done)|omega) rfl rfl (gD (d:=0) (by omega)) (fun b22 o23 hok24=> ?_)
      replace hok24:=zl.1 hok24
      refine r_u rfl rfl (zw (j:=0) 0 ty3 rfl rfl rfl rfl)<|r_pv rfl rfl (zd rfl)<|r_pv rfl rfl (zd rfl)<|zg<|zc<|zTa (.c (i:=2) rfl (.c (i:=0) rfl (.c (i:=0) rfl (.c (i:=0) rfl (.c (i:=0) rfl .n)))))<|zva (OW:=[rowA 44 (rI3 .i64) pB cB A2,boxA u7_1 25 [.slice p19 (W.length+1) c20,.slice pB (A2.length) cB]]) (O:=[rowA 42 (rI3 .i64) p19 c20 (W++([((sx / ((lk.length:Nat):Int)),(sy / ((lk.length:Nat):Int)),(sz / ((lk.length:Nat):Int)))])),boxA b2 25 [.slice none 0 0,.slice none 0 0],boxA b1 25 [.slice pv nv cv,.slice pf nf cf]]) 13 mixed (.block (.then (.then (.block (.block (.then (.then (.block (.then .ret))))))))) (by kernel_rfl)<|d_pv 0 rfl rfl (by kernel_rfl) (by kernel_rfl) rfl rfl (zn Try.underlying25 rfl sz23 rfl rfl)<|d_uw 1 rfl rfl (by kernel_rfl) (by kernel_rfl) (by kernel_rfl) rfl rfl (zf 1 ty23 rfl rfl rfl)<|d_pv 2 rfl rfl (by kernel_rfl) (by kernel_rfl) rfl rfl (zb rfl)<|d_pv 3 rfl rfl (by kernel_rfl) (by kernel_rfl) rfl rfl (zb rfl)<|d_pv 4 rfl rfl (by kernel_rfl) (by kernel_rfl) rfl rfl (zC (z:=(((i+1):Nat):Int)) rfl rfl (w64 (by omega)))<|d_pv 5 rfl rfl (by kernel_rfl) (by kernel_rfl) rfl rfl (zb rfl)<|d_pv 6 rfl rfl (by kernel_rfl) (by kernel_rfl) rfl rfl (zgb (z:=((((i+1)%lk.length):Nat):Int)) rfl rfl (by omega) (remN (by omega) (by omega)))<|zka (x0:=(lk.getD ((i+1)%lk.length) 0)) 7 rfl rfl (by kernel_rfl) (by kernel_rfl) 3 ((i+1)%lk.length) rfl Try.underlying50 sz3 rfl rfl rfl (by first|rfl|assumption|(simp;done)|omega) rfl rfl (gD (d:=0) (by omega)) (fun b25 o26 hok27=> ?_)
      replace hok27:=zl.1 hok27
      refine d_u 8 rfl rfl (by kernel_rfl) (by kernel_rfl) rfl rfl (zw (j:=0) 0 ty3 rfl rfl rfl rfl)<|d_pv 9 rfl rfl (by kernel_rfl) (by kernel_rfl) rfl rfl (zb rfl)<|d_pv 10 rfl rfl (by kernel_rfl) (by kernel_rfl) rfl rfl (zb rfl)<|d_pv 11 rfl rfl (by kernel_rfl) (by kernel_rfl) rfl rfl (zT zr44 rfl Try.underlying44 sz3 (.c rfl (.c rfl (.c rfl .n))) (.c rfl rfl rfl (.take .nil) (.c rfl rfl rfl (.skip (.take .nil)) (.c rfl rfl rfl (.skip (.skip (.take .nil))) .n))))<|zO 12 (by kernel_rfl) (zkb rfl rfl rfl rfl (zz (enc:=fun z:Int×Int×Int=>[.int .i64 z.1,.int .i64 z.2.1,.int .i64 z.2.2]) (ok:=fun z=>InK .i64 z.1∧InK .i64 z.2.1∧InK .i64 z.2.2) (h1:=fun _=>rfl) (h2:=fun _=>rfl) (k:=1) Try.underlying23 inf44 rfl (by decide) (by decide) (by decide) (.c (x:=((lk.getD ((i+1)%lk.length) 0),(lk.getD i 0),((W.length:Nat):Int))) rfl rfl (fun _ _=>by exact ⟨zl.2 (by first|omega|decide|(dsimp only;omega)),zl.2 (by first|omega|decide|(dsimp only;omega)),zl.2 (by first|omega|decide|(dsimp only;omega))⟩) .n)) (fun b28 _=> ?_))
      refine zDa 0 rfl .z<|zO 13 (by kernel_rfl) (zVa (A':=fun v:Option Addr×Nat=>rowA 44 (rI3 .i64) v.1 v.2 (A2++([((lk.getD ((i+1)%lk.length) 0),(lk.getD i 0),((W.length:Nat):Int))]))) (by kernel_rfl) rfl rfl rfl (zW 0 rfl Try.underlying23 inf44 (by decide) rfl rfl (by first|rfl|assumption|(simp;done)|omega) rfl (by first|rfl|assumption|(simp;done)|omega) (by omega) (by omega)) ?_)
      rintro ⟨p29,c30⟩ -
      dsimp only [List.append_eq,List.nil_append,List.cons_append]
      refine d_pv 14 rfl rfl (by kernel_rfl) (by kernel_rfl) rfl rfl (zn Try.underlying25 rfl sz23 rfl rfl)<|zsb (zS (i:=1) rfl)<|zO 15 (by kernel_rfl) (zca (by kernel_rfl) rfl rfl rfl rfl rfl sz23 rfl (.skip (.take .nil)) ?_)
      refine zwa (by kernel_rfl)<|zA<|zc<|za<|r_pv rfl rfl (zC (z:=(((i+1):Nat):Int)) rfl rfl (w64 (by omega)))<|r_pv rfl rfl (zb rfl)<|zg<|zba ((i+1),p29,c30,(A2++([((lk.getD ((i+1)%lk.length) 0),(lk.getD i 0),((W.length:Nat):Int))]))) (show (i+1)≤lk.length∧(A2++([((lk.getD ((i+1)%lk.length) 0),(lk.getD i 0),((W.length:Nat):Int))]))=A++(Ms.fanF lk ((W.length:Nat):Int)).take (i+1) from by exact ⟨by omega,by rw [Ms.fan_take (by omega),←List.append_assoc,←hA2]⟩) (by show lk.length - (i+1)<lk.length - i;omega) ((.of rfl):SubM _ _) (ho:=((.e (i:=0) rfl (by first|rfl|simp) (.of [2,0,1,1] rfl)):PickO _ _ _)) ((.of [3,4,5,6,7,8] rfl):SelR _ _ _)
     ·
      refine zX<|zj<|zj<|zp<|zA<|zc<|za<|r_pv rfl rfl (zC (z:=(((k+1):Nat):Int)) rfl rfl (w64 (by omega)))<|r_pv rfl rfl (zb rfl)<|zg<|zba ((k+1),p19,c20,(W++([((sx / ((lk.length:Nat):Int)),(sy / ((lk.length:Nat):Int)),(sz / ((lk.length:Nat):Int)))])),pB,cB,A2) (show (k+1)≤LL.length∧(W++([((sx / ((lk.length:Nat):Int)),(sy / ((lk.length:Nat):Int)),(sz / ((lk.length:Nat):Int)))]))=Ms.closeV V (LL.take (k+1))∧A2=Ms.closeF F nv (LL.take (k+1)) from by exact ⟨by omega,by (rw [Ms.closeV_take (by omega),←hW,←hlk2];unfold Ms.ctr;rw [show Ms.ctrS V lk=(sx,sy,sz) by rw [← hsum,List.take_of_length_le (by omega)]]),by (rw [Ms.closeF_take (by omega),←hA,←hlk2,hA2,←hWl,List.take_of_length_le (by rw [Ms.fan_len];omega)])⟩) (by show LL.length - (k+1)<LL.length - k;omega) ((.of rfl):SubM _ _) (ho:=((.e (i:=0) rfl (by first|rfl|simp) (.of [1,0,0,0] rfl)):PickO _ _ _)) ((.of [3,4,5] rfl):SelR _ _ _)
   ·
    refine zX<|zj<|zj<|zp<|zc<|ze<|zLa (X:=Unit) (fun x=>True) (fun x=>[(115,.bool (decide ((512<((W.length:Nat):Int))∨(1024<((A.length:Nat):Int))))),(5,.pointer (some ⟨u7_1,0,none⟩)),(3,.int .i64 0),(2,.pointer (some ⟨b2,0,none⟩))]) (fun x=>[boxA u7_1 25 [.slice pW (W.length) cW,.slice pA (A.length) cA],rowA 44 (rI3 .i64) pA cA A,rowA 42 (rI3 .i64) pW cW W,boxA b2 25 [.slice none 0 0,.slice none 0 0],boxA b1 25 [.slice pv nv cv,.slice pf nf cf]]) (fun x=>[slF (rS (rI .i64)) p23 c24 LL,slF (rI3 .i64) pv cv V,slF (rI3 .i64) pf cf F]) ?_ ?_
    ·
     refine za<|r_pv rfl rfl (zn Try.underlying25 rfl sz22 rfl rfl)<|r_u rfl rfl (zf 0 ty22 rfl rfl rfl)<|r_pv rfl rfl (zJ Try.underlying22 rfl)<|r_pv rfl rfl (zOa rfl rfl)<|zpa rfl rfl (zb rfl) (fun h31=> ?_) (fun h31=> ?_)
     ·
      refine zi rfl rfl<|zi rfl rfl<|zi rfl rfl<|zi rfl rfl<|r_pv rfl rfl (zH rfl rfl)<|zg ?_
      exact zja () (show True from by first|trivial|omega|simp_all) ((.e rfl (congrArg Value.bool (by first|(simp_all;done)|(simp_all;omega)|(simp;omega)|omega)) (.of rfl)):SubM _ _) (ho:=((.of [0,0,0,0,0] rfl):PickO _ _ _)) ((.of [0,1,2] rfl):SelR _ _ _)
     ·
      refine r_pv rfl rfl (zn Try.underlying25 rfl sz23 rfl rfl)<|r_u rfl rfl (zf 0 ty23 rfl rfl rfl)<|r_pv rfl rfl (zJ Try.underlying23 rfl)<|r_pv rfl rfl (zOa rfl rfl)<|r_pv rfl rfl (zH rfl rfl)<|zg ?_
      exact zja () (show True from by first|trivial|omega|simp_all) ((.e rfl (congrArg Value.bool (by first|(simp_all;done)|(simp_all;omega)|(simp;omega)|omega)) (.of rfl)):SubM _ _) (ho:=((.of [0,0,0,0,0] rfl):PickO _ _ _)) ((.of [0,1,2] rfl):SelR _ _ _)
    ·
     rintro ⟨⟩ -
     try dsimp only
     refine zD rfl (fun hlim=> ?_) (fun hlim=> ?_)
     ·
      exfalso;omega
     ·
      refine zu<|zc<|ze<|za<|r_u rfl rfl (zh 0 ty25 rfl rfl (.take (.take .nil)))<|zv 3 rfl rfl rfl rfl rfl sz25 rfl (.take (.take .nil)) (.s (.s (.s .z)))<|r_pv rfl rfl (zd rfl)<|zg<|zc<|zK ?_
      have hz1:(if Ms.check V F=0 then Ms.closeV V (Ms.loops (fun jj=>mget bm1 jj) nv) else [])=W:=by rw [if_pos hc0,hW,hLL,List.take_of_length_le (by rw [← hLL];omega)]
      have hz2:(if Ms.check V F=0 then Ms.closeF F nv (Ms.loops (fun jj=>mget bm1 jj) nv) else [])=A:=by rw [if_pos hc0,hA,hLL,List.take_of_length_le (by rw [← hLL];omega)]
      refine zKa 1 rfl (.s .z)<|zKa 2 rfl (.s (.s .z)) ?_
      exact zub Try.results31 (pW,cW,pA,cA,bm1) (fun _=>hB) (zR 3 ty25 rfl rfl (.take (.take .nil))) (zx rfl) (by rw [hz1,hz2,hc0]) (ho:=(.n:PickO _ _ _)) ((.e (j:=0) rfl (by rw [hz1]) (.e (j:=1) rfl (by rw [hz2]) .n)):SelR _ _ _)
  refine zQ (X:=Option Addr×Nat×Option Addr×Nat×Nat) (k':=1) (L':=(lb 9 255)) (fun (u2_1,u2_2,u5_1,u5_2,u7_1)=>([(5,.pointer (some ⟨u7_1,0,none⟩)),(30,.agg #[.slice u2_1 (V.length) u2_2,.slice u5_1 (F.length) u5_2]),(3,.int .i64 0),(2,.pointer (some ⟨b2,0,none⟩)),(1,.pointer (some ⟨b1,0,none⟩))],[boxA u7_1 25 [.slice none 0 0,.slice none 0 0]],[rowA 44 (rI3 .i64) u5_1 u5_2 F,rowA 42 (rI3 .i64) u2_1 u2_2 V,boxA b2 25 [.slice none 0 0,.slice none 0 0],boxA b1 25 [.slice pv nv cv,.slice pf nf cf]],[slF (rI3 .i64) pv cv V,slF (rI3 .i64) pf cf F])) ?_ (fun hD1=> ?_)
  ·
   rintro ⟨u2_1,u2_2,u5_1,u5_2,u7_1⟩
   dsimp only
   refine zO 8 (by kernel_rfl) ?_
   ·
    refine zca (by kernel_rfl) rfl rfl rfl rfl rfl sz25 rfl (.take (.take .nil)) ?_
    exact zt (hD0 (u2_1,u2_2,u5_1,u5_2,u7_1)) (by kernel_rfl) ((.of rfl):SubM _ _) .rfl .rfl ((.of [0,1] rfl):SelR _ _ _)
  refine zQ (X:=Option Addr×Nat×Option Addr×Nat) (k':=2) (L':=(lb 9 127)) (fun (u2_1,u2_2,u5_1,u5_2)=>([(30,.agg #[.slice u2_1 (V.length) u2_2,.slice u5_1 (F.length) u5_2]),(3,.int .i64 0),(2,.pointer (some ⟨b2,0,none⟩)),(1,.pointer (some ⟨b1,0,none⟩))],[],[rowA 44 (rI3 .i64) u5_1 u5_2 F,rowA 42 (rI3 .i64) u2_1 u2_2 V,boxA b2 25 [.slice none 0 0,.slice none 0 0],boxA b1 25 [.slice pv nv cv,.slice pf nf cf]],[slF (rI3 .i64) pv cv V,slF (rI3 .i64) pf cf F])) ?_ (fun hD2=> ?_)
  ·
   rintro ⟨u2_1,u2_2,u5_1,u5_2⟩
   dsimp only
   refine zO 7 (by kernel_rfl) ?_
   ·
    refine zU rfl rfl rfl rfl (zr zr25 rfl) (fun u7_1 _=> ?_)
    exact zt (hD1 (u2_1,u2_2,u5_1,u5_2,u7_1)) (by kernel_rfl) ((.of rfl):SubM _ _) .rfl .rfl ((.of [0,1] rfl):SelR _ _ _)
  refine zQ (X:=Option Addr×Nat×Nat) (k':=3) (L':=(lb 9 159)) (fun (u2_1,u2_2,u7_1)=>([(5,.pointer (some ⟨u7_1,0,none⟩)),(26,.slice u2_1 (V.length) u2_2),(28,.slice pf nf cf),(3,.int .i64 0),(2,.pointer (some ⟨b2,0,none⟩)),(1,.pointer (some ⟨b1,0,none⟩))],[boxA u7_1 25 [.slice none 0 0,.slice none 0 0]],[rowA 42 (rI3 .i64) u2_1 u2_2 V,boxA b2 25 [.slice none 0 0,.slice none 0 0],boxA b1 25 [.slice pv nv cv,.slice pf nf cf]],[slF (rI3 .i64) pv cv V,slF (rI3 .i64) pf cf F])) ?_ (fun hD3=> ?_)
  ·
   rintro ⟨u2_1,u2_2,u7_1⟩
   dsimp only
   refine zO 5 (by kernel_rfl) ?_
   ·
    refine zL rfl rfl rfl rfl (.c rfl .n) ce68 (zdc (p:=pf) (n:=nf) (cap:=cf) (l:=F) (hn:=by assumption) (hb:=by first|rfl|assumption|omega|(simp;done)|(simp;omega)|(simp_all;done))) (.c (j:=1) rfl .n) ?_
    rintro ⟨u5_1,u5_2⟩ -
    dsimp only [List.append_eq,List.nil_append,List.cons_append]
    refine d_pv 6 rfl rfl (by kernel_rfl) (by kernel_rfl) rfl rfl (zM zr25 rfl Try.underlying25 (.c sz22 (.c sz23 .n)) (.c rfl (.c rfl .n)) (.c rfl rfl rfl (.take .nil) (.c rfl rfl rfl (.skip (.take .nil)) .n))) ?_
    exact zt (hD1 (u2_1,u2_2,u5_1,u5_2,u7_1)) (by kernel_rfl) ((.of rfl):SubM _ _) .rfl .rfl ((.of [0,1] rfl):SelR _ _ _)
  refine zQ (X:=Option Addr×Nat) (k':=4) (L':=(lb 9 31)) (fun (u2_1,u2_2)=>([(26,.slice u2_1 (V.length) u2_2),(28,.slice pf nf cf),(3,.int .i64 0),(2,.pointer (some ⟨b2,0,none⟩)),(1,.pointer (some ⟨b1,0,none⟩))],[],[rowA 42 (rI3 .i64) u2_1 u2_2 V,boxA b2 25 [.slice none 0 0,.slice none 0 0],boxA b1 25 [.slice pv nv cv,.slice pf nf cf]],[slF (rI3 .i64) pv cv V,slF (rI3 .i64) pf cf F])) ?_ (fun hD4=> ?_)
  ·
   rintro ⟨u2_1,u2_2⟩
   dsimp only
   refine zRa 5 7 (by kernel_rfl) ?_ ?_
   ·
    refine zL rfl rfl rfl rfl (.c rfl .n) ce68 (zdc (p:=pf) (n:=nf) (cap:=cf) (l:=F) (hn:=by assumption) (hb:=by first|rfl|assumption|omega|(simp;done)|(simp;omega)|(simp_all;done))) (.c (j:=1) rfl .n) ?_
    rintro ⟨u5_1,u5_2⟩ -
    dsimp only [List.append_eq,List.nil_append,List.cons_append]
    refine d_pv 6 rfl rfl (by kernel_rfl) (by kernel_rfl) rfl rfl (zM zr25 rfl Try.underlying25 (.c sz22 (.c sz23 .n)) (.c rfl (.c rfl .n)) (.c rfl rfl rfl (.take .nil) (.c rfl rfl rfl (.skip (.take .nil)) .n))) ?_
    exact zt (hD2 (u2_1,u2_2,u5_1,u5_2)) (by kernel_rfl) ((.of rfl):SubM _ _) .rfl .rfl ((.of [0,1] rfl):SelR _ _ _)
   ·
    refine zU rfl rfl rfl rfl (zr zr25 rfl) (fun u7_1 _=> ?_)
    exact zt (hD3 (u2_1,u2_2,u7_1)) (by kernel_rfl) ((.of rfl):SubM _ _) .rfl .rfl ((.of [0,1] rfl):SelR _ _ _)
  refine zQ (X:=Nat) (k':=4) (L':=(lb 9 155)) (fun u7_1=>([(5,.pointer (some ⟨u7_1,0,none⟩)),(28,.slice pf nf cf),(25,.slice pv nv cv),(3,.int .i64 0),(2,.pointer (some ⟨b2,0,none⟩)),(1,.pointer (some ⟨b1,0,none⟩))],[boxA u7_1 25 [.slice none 0 0,.slice none 0 0]],[boxA b2 25 [.slice none 0 0,.slice none 0 0],boxA b1 25 [.slice pv nv cv,.slice pf nf cf]],[slF (rI3 .i64) pv cv V,slF (rI3 .i64) pf cf F])) ?_ (fun hD5=> ?_)
  ·
   rintro u7_1
   dsimp only
   refine zO 2 (by kernel_rfl) ?_
   ·
    refine zL rfl rfl rfl rfl (.c rfl .n) ce67 (zcc (p:=pv) (n:=nv) (cap:=cv) (l:=V) (hn:=by assumption) (hb:=by first|rfl|assumption|omega|(simp;done)|(simp;omega)|(simp_all;done))) (.c (j:=0) rfl .n) ?_
    rintro ⟨u2_1,u2_2⟩ -
    dsimp only [List.append_eq,List.nil_append,List.cons_append]
    exact zt (hD3 (u2_1,u2_2,u7_1)) (by kernel_rfl) ((.of rfl):SubM _ _) .rfl .rfl ((.of [0,1] rfl):SelR _ _ _)
  refine zRa 2 7 (by kernel_rfl) ?_ ?_
  ·
   refine zL rfl rfl rfl rfl (.c rfl .n) ce67 (zcc (p:=pv) (n:=nv) (cap:=cv) (l:=V) (hn:=by assumption) (hb:=by first|rfl|assumption|omega|(simp;done)|(simp;omega)|(simp_all;done))) (.c (j:=0) rfl .n) ?_
   rintro ⟨u2_1,u2_2⟩ -
   dsimp only [List.append_eq,List.nil_append,List.cons_append]
   exact zt (hD4 (u2_1,u2_2)) (by kernel_rfl) ((.of rfl):SubM _ _) .rfl .rfl ((.of [0,1] rfl):SelR _ _ _)
  ·
   refine zU rfl rfl rfl rfl (zr zr25 rfl) (fun u7_1 _=> ?_)
   exact zt (hD5 u7_1) (by kernel_rfl) ((.of rfl):SubM _ _) .rfl .rfl ((.of [0,1] rfl):SelR _ _ _)
end Go.Proofs.Ytalfgjpbbongcaa.Sp
namespace Go.Proofs.Ytalfgjpbbongcaa.Sp
open Go
set_option linter.unusedVariables false
set_option maxRecDepth 100000
set_option maxHeartbeats 8000000
theorem zUc {pv:Option Addr} {nv:Nat} {cv:Nat} {V:List (Int×Int×Int)} {pf:Option Addr} {nf:Nat} {cf:Nat} {F:List (Int×Int×Int)} (hnv:V.length=nv) (hnf:F.length=nf) (hV16:V.length≤16) (hF24:F.length≤24) (hg:Ms.Good V F) (hc0:Ms.check V F=0):Con Try.prog 33 [.agg #[.slice pv nv cv,.slice pf nf cf]] [] [slF (rI3 .i64) pv cv V,slF (rI3 .i64) pf cf F] (Y:=(Option Addr)×Nat×(Option Addr)×Nat) (fun y=>True) (fun y=> .agg #[.slice (y.1) ((Ms.closeV V (Ms.loops (fun jj=>mget (Ms.nextM F) jj) nv)).length) (y.2.1),.slice (y.2.2.1) ((Ms.closeF F nv (Ms.loops (fun jj=>mget (Ms.nextM F) jj) nv)).length) (y.2.2.2)]) (fun y=>[]) (fun y=>[slF (rI3 .i64) (y.1) (y.2.1) (Ms.closeV V (Ms.loops (fun jj=>mget (Ms.nextM F) jj) nv)),slF (rI3 .i64) (y.2.2.1) (y.2.2.2) (Ms.closeF F nv (Ms.loops (fun jj=>mget (Ms.nextM F) jj) nv))]):=by
 refine zy Try.func33 rfl rfl rfl (fun c=> ?_)
 show RunC _ _ _ _ _ [(0,.agg #[.slice pv nv cv,.slice pf nf cf])] [] [slF (rI3 .i64) pv cv V,slF (rI3 .i64) pf cf F]
 refine zda 0 rfl (fun hL0=> ?_)
 refine zda 1 rfl (fun hL1=> ?_)
 have hnv5:nv≤512:=by have:=hg.nv;omega
 have hnf5:nf≤1024:=by have:=hg.nf;omega
 refine ze<|za<|zV rfl rfl (zla rfl rfl) (fun b1=> ?_)
 refine zV rfl rfl (zr zr25 rfl) (fun b2=> ?_)
 refine zg<|zc<|ze<|zva (OW:=[]) (O:=[boxA b2 25 [.slice none 0 0,.slice none 0 0],boxA b1 25 [.slice pv nv cv,.slice pf nf cf]]) 3 mixed (.then .ret) (by kernel_rfl)<|d_pv 1 rfl rfl (by kernel_rfl) (by kernel_rfl) rfl rfl (zn Try.underlying25 rfl sz22 rfl rfl)<|d_u 2 rfl rfl (by kernel_rfl) (by kernel_rfl) rfl rfl (zf 1 ty22 rfl rfl rfl)<|d_pv 5 rfl rfl (by kernel_rfl) (by kernel_rfl) rfl rfl (zn Try.underlying25 rfl sz23 rfl rfl)<|d_u 6 rfl rfl (by kernel_rfl) (by kernel_rfl) rfl rfl (zf 1 ty23 rfl rfl rfl)<|zPb (m':=[(21,.slice pf nf cf),(17,.slice pv nv cv),(2,.pointer (some ⟨b2,0,none⟩)),(1,.pointer (some ⟨b1,0,none⟩))]) (R':=[slF (rI3 .i64) pv cv V,slF (rI3 .i64) pf cf F]) ((.of rfl):SubM _ _) (List.Perm.refl _) (List.Perm.refl _) ((.of [0,1] rfl):SelR _ _ _)<|zQ (X:=Nat×Option Addr×Nat×Nat×Option Addr×Nat×Nat) (k':=0) (L':=(lb 11 2047)) (fun (u0_1,u3_1,u3_2,u4_1,u7_1,u7_2,u9_1)=>([(3,.pointer (some ⟨u9_1,0,none⟩)),(2,.pointer (some ⟨b2,0,none⟩)),(1,.pointer (some ⟨b1,0,none⟩))],[boxA u9_1 25 [.slice u3_1 (0+nv) u3_2,.slice u7_1 (0+nf) u7_2],rowA 44 (rI3 .i64) u7_1 u7_2 (([])++F),rowA 42 (rI3 .i64) u3_1 u3_2 (([])++V)],[boxA b2 25 [.slice none 0 0,.slice none 0 0],boxA b1 25 [.slice pv nv cv,.slice pf nf cf]],[slF (rI3 .i64) pv cv V,slF (rI3 .i64) pf cf F])) ?_ (fun hD0=> ?_)
 ·
  rintro ⟨u0_1,u3_1,u3_2,u4_1,u7_1,u7_2,u9_1⟩
  dsimp only
  refine zwa (by kernel_rfl)<|zc<|ze<|ze<|za<|r_u rfl rfl (zh 4 ty25 rfl rfl (.take (.take .nil)))<|zfa rfl rfl (.c rfl .n) ce17 (zIc (pv:=pv) (nv:=nv) (cv:=cv) (V:=V) (pf:=pf) (nf:=nf) (cf:=cf) (F:=F) (hnv:=by assumption) (hnf:=by assumption) (hg:=by assumption)) (.c (j:=0) rfl (.c (j:=1) rfl .n)) ?_
  rintro ⟨p23,c24⟩ -
  dsimp only [List.append_eq,List.nil_append,List.cons_append]
  refine r_pv rfl rfl (zJ Try.underlying37 rfl)<|r_pv rfl rfl (zb rfl)<|zg<|zc<|zq ?_
  obtain ⟨hs1,hs2,hs3⟩:=Ms.loops_small hc0 (Ms.nextM_bmap F)
  rw [hnv] at hs1 hs2 hs3
  obtain ⟨LL,hLL⟩:∃z:List (List Int),z=Ms.loops (fun jj=>mget (Ms.nextM F) jj) nv:=⟨_,rfl⟩
  rw [← hLL]
  rw [← hLL] at hs1 hs2 hs3
  refine zha (X:=Nat×(Option Addr)×Nat×(List (Int×Int×Int))×(Option Addr)×Nat×(List (Int×Int×Int))) (fun x:Nat×(Option Addr)×Nat×(List (Int×Int×Int))×(Option Addr)×Nat×(List (Int×Int×Int))=>x.1≤LL.length∧x.2.2.2.1=Ms.closeV V (LL.take x.1)∧x.2.2.2.2.2.2=Ms.closeF F nv (LL.take x.1)) (fun x=>[(27,.int .i64 ((x.1:Nat):Int)),(26,.int .i64 ((LL.length:Nat):Int)),(25,.slice p23 (LL.length) c24),(3,.pointer (some ⟨u9_1,0,none⟩)),(2,.pointer (some ⟨b2,0,none⟩)),(1,.pointer (some ⟨b1,0,none⟩))]) (fun x=>[boxA u9_1 25 [.slice (x.2.1) (x.2.2.2.1.length) (x.2.2.1),.slice (x.2.2.2.2.1) (x.2.2.2.2.2.2.length) (x.2.2.2.2.2.1)],rowA 44 (rI3 .i64) (x.2.2.2.2.1) (x.2.2.2.2.2.1) (x.2.2.2.2.2.2),rowA 42 (rI3 .i64) (x.2.1) (x.2.2.1) (x.2.2.2.1),boxA b2 25 [.slice none 0 0,.slice none 0 0],boxA b1 25 [.slice pv nv cv,.slice pf nf cf]]) (fun x=>[slF (rS (rI .i64)) p23 c24 LL,slF (rI3 .i64) pv cv V,slF (rI3 .i64) pf cf F]) (fun x:Nat×(Option Addr)×Nat×(List (Int×Int×Int))×(Option Addr)×Nat×(List (Int×Int×Int))=>LL.length - x.1) (0,u3_1,u3_2,(([])++V),u7_1,u7_2,(([])++F)) (show 0≤LL.length∧(([])++V)=Ms.closeV V (LL.take 0)∧(([])++F)=Ms.closeF F nv (LL.take 0) from by exact ⟨Nat.zero_le _,by simp [Ms.closeV],by simp [Ms.closeF]⟩) ((.e rfl (by first|rfl|(congr 1;omega)|simp_all) (.of rfl)):SubM _ _) (ho:=((.e (i:=0) rfl (by first|rfl|simp [hnv,hnf]) (.of [0,0,0,0] rfl)):PickO _ _ _)) ((.of [0,1,2] rfl):SelR _ _ _) ?_
  rintro ⟨k,pW,cW,W,pA,cA,A⟩ hI
  replace hI:k≤LL.length∧W=Ms.closeV V (LL.take k)∧A=Ms.closeF F nv (LL.take k):=hI
  try dsimp only
  obtain ⟨hk,hW,hA⟩:=hI
  have hWl:W.length=nv+k:=by rw [hW,Ms.closeV_len hk,hnv]
  have hAl:A.length≤40:=by have h8:=Ms.closeF_small (L:=LL) (F:=F) (n:=nv) (k:=k);rw [← hA] at h8;omega
  refine ze<|za<|r_pv rfl rfl (zE rfl rfl)<|zg<|zc<|ze<|zD rfl (fun h5=> ?_) (fun h5=> ?_)
  ·
   refine zu<|zc<|ze<|zq<|ze<|za<|r_vl rfl rfl (zob (x0:=(LL.getD k [])) 0 k rfl Try.underlying37 sz50 rfl (by first|rfl|assumption|(simp;done)|omega) rfl rfl (gD (d:=[]) (by omega))) ?_
   rintro ⟨b6,o7,p8,c9⟩ -
   dsimp only [List.append_eq,List.nil_append,List.cons_append]
   refine r_u rfl rfl (zw (j:=0) 0 ty50 rfl rfl rfl rfl)<|r_pv rfl rfl (zd rfl)<|zg<|zc<|ze<|za<|r_pv rfl rfl (zd rfl)<|r_pv rfl rfl (zd rfl)<|r_pv rfl rfl (zd rfl)<|zg<|zc<|ze<|ze<|za<|r_pv rfl rfl (zb rfl)<|r_pv rfl rfl (zJ Try.underlying50 rfl)<|r_pv rfl rfl (zb rfl)<|zg<|zc<|zq ?_
   obtain ⟨lk,hlk⟩:∃z:List Int,z=(LL.getD k []):=⟨_,rfl⟩
   rw [← hlk]
   have hlk2:lk=LL.getD k []:=hlk
   have hl9:=hs3 lk (by rw [hlk2];exact Ms.getD_mem [] (by omega))
   refine zha (X:=Nat×Int×Int×Int) (fun x:Nat×Int×Int×Int=>x.1≤lk.length∧Ms.ctrS V (lk.take x.1)=(x.2.1,x.2.2.1,x.2.2.2)) (fun x=>[(8,.int .i64 (x.2.2.2)),(7,.int .i64 (x.2.2.1)),(6,.int .i64 (x.2.1)),(33,.int .i64 ((x.1:Nat):Int)),(32,.int .i64 ((lk.length:Nat):Int)),(31,.slice p8 (lk.length) c9),(5,.slice p8 (lk.length) c9),(27,.int .i64 ((k:Nat):Int)),(26,.int .i64 ((LL.length:Nat):Int)),(25,.slice p23 (LL.length) c24),(3,.pointer (some ⟨u9_1,0,none⟩)),(2,.pointer (some ⟨b2,0,none⟩)),(1,.pointer (some ⟨b1,0,none⟩))]) (fun x=>[boxA u9_1 25 [.slice pW (W.length) cW,.slice pA (A.length) cA],rowA 44 (rI3 .i64) pA cA A,rowA 42 (rI3 .i64) pW cW W,boxA b2 25 [.slice none 0 0,.slice none 0 0],boxA b1 25 [.slice pv nv cv,.slice pf nf cf]]) (fun x=>[atF b6 o7 [.slice p8 (lk.length) c9],slF (rI .i64) p8 c9 lk,slF (rS (rI .i64)) p23 c24 LL,slF (rI3 .i64) pv cv V,slF (rI3 .i64) pf cf F]) (fun x:Nat×Int×Int×Int=>lk.length - x.1) (0,(0:Int),(0:Int),(0:Int)) (show 0≤lk.length∧Ms.ctrS V (lk.take 0)=((0:Int),(0:Int),(0:Int)) from by exact ⟨Nat.zero_le _,rfl⟩) ((.e rfl (by first|rfl|(congr 1;omega)|simp_all) (.e rfl (by first|rfl|(congr 1;omega)|simp_all) (.e rfl (by first|rfl|(congr 1;omega)|simp_all) (.e rfl (by first|rfl|(congr 1;omega)|simp_all) (.of rfl))))):SubM _ _) (ho:=((.of [0,0,0,0,0] rfl):PickO _ _ _)) ((.of [0,1,2,3,4] rfl):SelR _ _ _) ?_
   rintro ⟨i,sx,sy,sz⟩ hJ
   replace hJ:i≤lk.length∧Ms.ctrS V (lk.take i)=(sx,sy,sz):=hJ
   try dsimp only
   obtain ⟨hi,hsum⟩:=hJ
   have hsb:=Ms.ctrS_b (Ms.pt_b hg) lk i hi
   rw [hsum] at hsb
   unfold Ms.inB at hsb
   simp only at hsb
   refine ze<|za<|r_pv rfl rfl (zE rfl rfl)<|zg<|zc<|ze<|zD rfl (fun h10=> ?_) (fun h10=> ?_)
   ·
    have hx:=hl9.2 (lk.getD i 0) (Ms.getD_mem 0 (by omega))
    have hvx:=hg.vat (i:=(lk.getD i 0).toNat) (by omega)
    refine zu<|zc<|ze<|zq<|ze<|za<|zI (x0:=(lk.getD i 0)) 1 i rfl Try.underlying50 sz3 rfl rfl rfl (by first|rfl|assumption|(simp;done)|omega) rfl rfl (gD (d:=0) (by omega)) (fun b11 o12 hok13=> ?_)
    replace hok13:=zl.1 hok13
    refine r_u rfl rfl (zw (j:=0) 0 ty3 rfl rfl rfl rfl)<|r_pv rfl rfl (zd rfl)<|zg<|zc<|zva (OW:=[]) (O:=[boxA u9_1 25 [.slice pW (W.length) cW,.slice pA (A.length) cA],rowA 44 (rI3 .i64) pA cA A,rowA 42 (rI3 .i64) pW cW W,boxA b2 25 [.slice none 0 0,.slice none 0 0],boxA b1 25 [.slice pv nv cv,.slice pf nf cf]]) 100000 mixed (.block (.then (.then (.block (.then (.block (.then (.then (.block (.then .ret)))))))))) (by kernel_rfl)<|d_pv 0 rfl rfl (by kernel_rfl) (by kernel_rfl) rfl rfl (zb rfl)<|d_pv 1 rfl rfl (by kernel_rfl) (by kernel_rfl) rfl rfl (zn Try.underlying25 rfl sz22 rfl rfl)<|d_u 2 rfl rfl (by kernel_rfl) (by kernel_rfl) rfl rfl (zf 4 ty22 rfl rfl rfl)<|d_pv 3 rfl rfl (by kernel_rfl) (by kernel_rfl) rfl rfl (zb rfl)<|zka (x0:=(V.getD ((lk.getD i 0).toNat) (0,0,0))) 4 rfl rfl (by kernel_rfl) (by kernel_rfl) 4 ((lk.getD i 0).toNat) rfl Try.underlying22 sz42 rfl rfl rfl (by first|rfl|assumption|(simp;done)|omega) rfl (by omega) (gD (d:=(0,0,0)) (by omega)) (fun b14 o15 hok16=> ?_)
    obtain ⟨hok16x,hok16y,hok16z⟩:=hok16
    replace hok16x:=zl.1 hok16x
    replace hok16y:=zl.1 hok16y
    replace hok16z:=zl.1 hok16z
    refine d_pv 5 rfl rfl (by kernel_rfl) (by kernel_rfl) rfl rfl (zn Try.underlying42 rfl sz3 rfl rfl)<|d_u 6 rfl rfl (by kernel_rfl) (by kernel_rfl) rfl rfl (zw (j:=0) 0 ty3 rfl rfl rfl rfl)<|d_pv 7 rfl rfl (by kernel_rfl) (by kernel_rfl) rfl rfl (zC (z:=(sx+(V.getD ((lk.getD i 0).toNat) (0,0,0)).1)) rfl rfl (w64 (by omega)))<|d_pv 8 rfl rfl (by kernel_rfl) (by kernel_rfl) rfl rfl (zb rfl)<|d_pv 9 rfl rfl (by kernel_rfl) (by kernel_rfl) rfl rfl (zn Try.underlying25 rfl sz22 rfl rfl)<|d_u 10 rfl rfl (by kernel_rfl) (by kernel_rfl) rfl rfl (zf 4 ty22 rfl rfl rfl)<|d_pv 11 rfl rfl (by kernel_rfl) (by kernel_rfl) rfl rfl (zb rfl)<|zka (x0:=(V.getD ((lk.getD i 0).toNat) (0,0,0))) 12 rfl rfl (by kernel_rfl) (by kernel_rfl) 5 ((lk.getD i 0).toNat) rfl Try.underlying22 sz42 rfl rfl rfl (by first|rfl|assumption|(simp;done)|omega) rfl (by omega) (gD (d:=(0,0,0)) (by omega)) (fun b17 o18 hok19=> ?_)
    obtain ⟨hok19x,hok19y,hok19z⟩:=hok19
    replace hok19x:=zl.1 hok19x
    replace hok19y:=zl.1 hok19y
    replace hok19z:=zl.1 hok19z
    refine d_pv 13 rfl rfl (by kernel_rfl) (by kernel_rfl) rfl rfl (zn Try.underlying42 rfl sz3 rfl rfl)<|d_u 14 rfl rfl (by kernel_rfl) (by kernel_rfl) rfl rfl (zw (j:=1) 0 ty3 rfl rfl rfl rfl)<|d_pv 15 rfl rfl (by kernel_rfl) (by kernel_rfl) rfl rfl (zC (z:=(sy+(V.getD ((lk.getD i 0).toNat) (0,0,0)).2.1)) rfl rfl (w64 (by omega)))<|d_pv 16 rfl rfl (by kernel_rfl) (by kernel_rfl) rfl rfl (zb rfl)<|d_pv 17 rfl rfl (by kernel_rfl) (by kernel_rfl) rfl rfl (zn Try.underlying25 rfl sz22 rfl rfl)<|d_u 18 rfl rfl (by kernel_rfl) (by kernel_rfl) rfl rfl (zf 4 ty22 rfl rfl rfl)<|d_pv 19 rfl rfl (by kernel_rfl) (by kernel_rfl) rfl rfl (zb rfl)<|zka (x0:=(V.getD ((lk.getD i 0).toNat) (0,0,0))) 20 rfl rfl (by kernel_rfl) (by kernel_rfl) 6 ((lk.getD i 0).toNat) rfl Try.underlying22 sz42 rfl rfl rfl (by first|rfl|assumption|(simp;done)|omega) rfl (by omega) (gD (d:=(0,0,0)) (by omega)) (fun b20 o21 hok22=> ?_)
    obtain ⟨hok22x,hok22y,hok22z⟩:=hok22
    replace hok22x:=zl.1 hok22x
    replace hok22y:=zl.1 hok22y
    replace hok22z:=zl.1 hok22z
    refine d_pv 21 rfl rfl (by kernel_rfl) (by kernel_rfl) rfl rfl (zn Try.underlying42 rfl sz3 rfl rfl)<|d_u 22 rfl rfl (by kernel_rfl) (by kernel_rfl) rfl rfl (zw (j:=2) 0 ty3 rfl rfl rfl rfl)<|d_pv 23 rfl rfl (by kernel_rfl) (by kernel_rfl) rfl rfl (zC (z:=(sz+(V.getD ((lk.getD i 0).toNat) (0,0,0)).2.2)) rfl rfl (w64 (by omega)))<|d_pv 24 rfl rfl (by kernel_rfl) (by kernel_rfl) rfl rfl (zd rfl)<|d_pv 25 rfl rfl (by kernel_rfl) (by kernel_rfl) rfl rfl (zd rfl)<|d_pv 26 rfl rfl (by kernel_rfl) (by kernel_rfl) rfl rfl (zd rfl)<|zwa (by kernel_rfl)<|zA<|zc<|za<|r_pv rfl rfl (zC (z:=(((i+1):Nat):Int)) rfl rfl (w64 (by omega)))<|r_pv rfl rfl (zb rfl)<|zg<|zba ((i+1),(sx+(V.getD ((lk.getD i 0).toNat) (0,0,0)).1),(sy+(V.getD ((lk.getD i 0).toNat) (0,0,0)).2.1),(sz+(V.getD ((lk.getD i 0).toNat) (0,0,0)).2.2)) (show (i+1)≤lk.length∧Ms.ctrS V (lk.take (i+1))=((sx+(V.getD ((lk.getD i 0).toNat) (0,0,0)).1),(sy+(V.getD ((lk.getD i 0).toNat) (0,0,0)).2.1),(sz+(V.getD ((lk.getD i 0).toNat) (0,0,0)).2.2)) from by exact ⟨by omega,by rw [Ms.ctrS_take (by omega),hsum];rfl⟩) (by show lk.length - (i+1)<lk.length - i;omega) ((.of rfl):SubM _ _) (ho:=((.of [0,0,0,0,0] rfl):PickO _ _ _)) ((.of [4,5,6,7,8] rfl):SelR _ _ _)
   ·
    refine zX<|zj<|zj<|zp<|zc<|ze ?_
    have hil:(i:Int)=(lk.length:Int):=by omega
    rw [hil] at hsb
    have hdx:=Ms.div_b (by omega) hsb.1
    have hdy:=Ms.div_b (by omega) hsb.2.1
    have hdz:=Ms.div_b (by omega) hsb.2.2
    refine za<|r_pv rfl rfl (zn Try.underlying25 rfl sz22 rfl rfl)<|r_u rfl rfl (zf 0 ty22 rfl rfl rfl)<|r_pv rfl rfl (zJ Try.underlying22 rfl)<|r_pv rfl rfl (zd rfl)<|zg<|zc<|ze<|za<|r_pv rfl rfl (zb rfl)<|r_pv rfl rfl (zJ Try.underlying50 rfl)<|r_pv rfl rfl (zd rfl)<|zg<|zc<|ze<|zTa (.c (i:=2) rfl (.c (i:=0) rfl (.c (i:=0) rfl (.c (i:=0) rfl (.c (i:=0) rfl .n)))))<|zva (OW:=[rowA 42 (rI3 .i64) pW cW W,boxA u9_1 25 [.slice pW (W.length) cW,.slice pA (A.length) cA]]) (O:=[rowA 44 (rI3 .i64) pA cA A,boxA b2 25 [.slice none 0 0,.slice none 0 0],boxA b1 25 [.slice pv nv cv,.slice pf nf cf]]) 13 mixed (.then (.block (.then (.then (.block (.then .ret)))))) (by kernel_rfl)<|d_pv 0 rfl rfl (by kernel_rfl) (by kernel_rfl) rfl rfl (zn Try.underlying25 rfl sz22 rfl rfl)<|d_uw 1 rfl rfl (by kernel_rfl) (by kernel_rfl) (by kernel_rfl) rfl rfl (zf 1 ty22 rfl rfl rfl)<|d_pv 2 rfl rfl (by kernel_rfl) (by kernel_rfl) rfl rfl (zb rfl)<|d_pv 3 rfl rfl (by kernel_rfl) (by kernel_rfl) rfl rfl (zb rfl)<|d_pv 5 rfl rfl (by kernel_rfl) (by kernel_rfl) rfl rfl (zb rfl)<|d_pv 6 rfl rfl (by kernel_rfl) (by kernel_rfl) rfl rfl (zb rfl)<|d_pv 8 rfl rfl (by kernel_rfl) (by kernel_rfl) rfl rfl (zb rfl)<|d_pv 9 rfl rfl (by kernel_rfl) (by kernel_rfl) rfl rfl (zb rfl)<|zO 4 (by kernel_rfl) (zza rfl rfl rfl rfl (.c rfl (.c rfl .n)) ce72 (zlc (a:=sx) (b:=((lk.length:Nat):Int)) (hb:=by first|rfl|assumption|omega|(simp;done)|(simp;omega)|(simp_all;done)) (ha:=by first|rfl|assumption|omega|(simp;done)|(simp;omega)|(simp_all;done))) (.n) ?_)
    refine zO 7 (by kernel_rfl) (zza rfl rfl rfl rfl (.c rfl (.c rfl .n)) ce72 (zlc (a:=sy) (b:=((lk.length:Nat):Int)) (hb:=by first|rfl|assumption|omega|(simp;done)|(simp;omega)|(simp_all;done)) (ha:=by first|rfl|assumption|omega|(simp;done)|(simp;omega)|(simp_all;done))) (.n) ?_)
    refine zO 10 (by kernel_rfl) (zza rfl rfl rfl rfl (.c rfl (.c rfl .n)) ce72 (zlc (a:=sz) (b:=((lk.length:Nat):Int)) (hb:=by first|rfl|assumption|omega|(simp;done)|(simp;omega)|(simp_all;done)) (ha:=by first|rfl|assumption|omega|(simp;done)|(simp;omega)|(simp_all;done))) (.n) ?_)
    refine d_pv 11 rfl rfl (by kernel_rfl) (by kernel_rfl) rfl rfl (zM zr42 rfl Try.underlying42 (.c sz3 (.c sz3 (.c sz3 .n))) (.c rfl (.c rfl (.c rfl .n))) (.c rfl rfl rfl (.take .nil) (.c rfl rfl rfl (.skip (.take .nil)) (.c rfl rfl rfl (.skip (.skip (.take .nil))) .n))))<|zO 12 (by kernel_rfl) (zkb rfl rfl rfl rfl (zz (enc:=fun z:Int×Int×Int=>[.int .i64 z.1,.int .i64 z.2.1,.int .i64 z.2.2]) (ok:=fun z=>InK .i64 z.1∧InK .i64 z.2.1∧InK .i64 z.2.2) (h1:=fun _=>rfl) (h2:=fun _=>rfl) (k:=1) Try.underlying22 inf42 rfl (by decide) (by decide) (by decide) (.c (x:=((sx / ((lk.length:Nat):Int)),(sy / ((lk.length:Nat):Int)),(sz / ((lk.length:Nat):Int)))) rfl rfl (fun _ _=>by exact ⟨zl.2 (by first|omega|decide|(dsimp only;omega)),zl.2 (by first|omega|decide|(dsimp only;omega)),zl.2 (by first|omega|decide|(dsimp only;omega))⟩) .n)) (fun b23 _=> ?_))
    refine zDa 0 rfl .z<|zO 13 (by kernel_rfl) (zVa (A':=fun v:Option Addr×Nat=>rowA 42 (rI3 .i64) v.1 v.2 (W++([((sx / ((lk.length:Nat):Int)),(sy / ((lk.length:Nat):Int)),(sz / ((lk.length:Nat):Int)))]))) (by kernel_rfl) rfl rfl rfl (zW 0 rfl Try.underlying22 inf42 (by decide) rfl rfl (by first|rfl|assumption|(simp;done)|omega) rfl (by first|rfl|assumption|(simp;done)|omega) (by omega) (by omega)) ?_)
    rintro ⟨p24,c25⟩ -
    dsimp only [List.append_eq,List.nil_append,List.cons_append]
    refine d_pv 14 rfl rfl (by kernel_rfl) (by kernel_rfl) rfl rfl (zn Try.underlying25 rfl sz22 rfl rfl)<|zsb (zS (i:=1) rfl)<|zO 15 (by kernel_rfl) (zca (by kernel_rfl) rfl rfl rfl rfl rfl sz22 rfl (.take .nil) ?_)
    refine zwa (by kernel_rfl)<|zc<|ze<|za<|r_pv rfl rfl (zb rfl)<|r_pv rfl rfl (zJ Try.underlying50 rfl)<|r_pv rfl rfl (zb rfl)<|zg<|zc<|zq<|zha (X:=Nat×(Option Addr)×Nat×(List (Int×Int×Int))) (fun x:Nat×(Option Addr)×Nat×(List (Int×Int×Int))=>x.1≤lk.length∧x.2.2.2=A++(Ms.fanF lk ((W.length:Nat):Int)).take x.1) (fun x=>[(84,.int .i64 ((x.1:Nat):Int)),(83,.int .i64 ((lk.length:Nat):Int)),(82,.slice p8 (lk.length) c9),(12,.int .i64 ((lk.length:Nat):Int)),(11,.int .i64 ((W.length:Nat):Int)),(5,.slice p8 (lk.length) c9),(27,.int .i64 ((k:Nat):Int)),(26,.int .i64 ((LL.length:Nat):Int)),(25,.slice p23 (LL.length) c24),(3,.pointer (some ⟨u9_1,0,none⟩)),(2,.pointer (some ⟨b2,0,none⟩)),(1,.pointer (some ⟨b1,0,none⟩))]) (fun x=>[boxA u9_1 25 [.slice p24 (W.length+1) c25,.slice (x.2.1) (x.2.2.2.length) (x.2.2.1)],rowA 42 (rI3 .i64) p24 c25 (W++([((sx / ((lk.length:Nat):Int)),(sy / ((lk.length:Nat):Int)),(sz / ((lk.length:Nat):Int)))])),rowA 44 (rI3 .i64) (x.2.1) (x.2.2.1) (x.2.2.2),boxA b2 25 [.slice none 0 0,.slice none 0 0],boxA b1 25 [.slice pv nv cv,.slice pf nf cf]]) (fun x=>[slF (rI3 .i64) (some ⟨b23,0,none⟩) 1 ([((sx / ((lk.length:Nat):Int)),(sy / ((lk.length:Nat):Int)),(sz / ((lk.length:Nat):Int)))]),atF b6 o7 [.slice p8 (lk.length) c9],slF (rI .i64) p8 c9 lk,slF (rS (rI .i64)) p23 c24 LL,slF (rI3 .i64) pv cv V,slF (rI3 .i64) pf cf F]) (fun x:Nat×(Option Addr)×Nat×(List (Int×Int×Int))=>lk.length - x.1) (0,pA,cA,A) (show 0≤lk.length∧A=A++(Ms.fanF lk ((W.length:Nat):Int)).take 0 from by exact ⟨Nat.zero_le _,by simp⟩) ((.e rfl (by first|rfl|(congr 1;omega)|simp_all) (.of rfl)):SubM _ _) (ho:=((.of [0,0,1,1,1] rfl):PickO _ _ _)) ((.of [0,1,2,3,4,5] rfl):SelR _ _ _) ?_
    rintro ⟨i,pB,cB,A2⟩ hJ
    replace hJ:i≤lk.length∧A2=A++(Ms.fanF lk ((W.length:Nat):Int)).take i:=hJ
    try dsimp only
    obtain ⟨hi,hA2⟩:=hJ
    have hA2l:A2.length≤80:=by rw [hA2,List.length_append,List.length_take,Ms.fan_len];omega
    have hmd:(i+1)%lk.length<lk.length:=Nat.mod_lt _ (by omega)
    refine ze<|za<|r_pv rfl rfl (zE rfl rfl)<|zg<|zc<|ze<|zD rfl (fun h26=> ?_) (fun h26=> ?_)
    ·
     refine zu<|zc<|ze<|zq<|ze<|za<|r_pv rfl rfl (zb rfl)<|zI (x0:=(lk.getD i 0)) 2 i rfl Try.underlying50 sz3 rfl rfl rfl (by first|rfl|assumption|(simp;done)|omega) rfl rfl (gD (d:=0) (by omega)) (fun b27 o28 hok29=> ?_)
     replace hok29:=zl.1 hok29
     refine r_u rfl rfl (zw (j:=0) 0 ty3 rfl rfl rfl rfl)<|r_pv rfl rfl (zd rfl)<|r_pv rfl rfl (zd rfl)<|zg<|zc<|zTa (.c (i:=2) rfl (.c (i:=0) rfl (.c (i:=0) rfl (.c (i:=0) rfl (.c (i:=0) rfl .n)))))<|zva (OW:=[rowA 44 (rI3 .i64) pB cB A2,boxA u9_1 25 [.slice p24 (W.length+1) c25,.slice pB (A2.length) cB]]) (O:=[rowA 42 (rI3 .i64) p24 c25 (W++([((sx / ((lk.length:Nat):Int)),(sy / ((lk.length:Nat):Int)),(sz / ((lk.length:Nat):Int)))])),boxA b2 25 [.slice none 0 0,.slice none 0 0],boxA b1 25 [.slice pv nv cv,.slice pf nf cf]]) 13 mixed (.block (.then (.then (.block (.block (.then (.then (.block (.then .ret))))))))) (by kernel_rfl)<|d_pv 0 rfl rfl (by kernel_rfl) (by kernel_rfl) rfl rfl (zn Try.underlying25 rfl sz23 rfl rfl)<|d_uw 1 rfl rfl (by kernel_rfl) (by kernel_rfl) (by kernel_rfl) rfl rfl (zf 1 ty23 rfl rfl rfl)<|d_pv 2 rfl rfl (by kernel_rfl) (by kernel_rfl) rfl rfl (zb rfl)<|d_pv 3 rfl rfl (by kernel_rfl) (by kernel_rfl) rfl rfl (zb rfl)<|d_pv 4 rfl rfl (by kernel_rfl) (by kernel_rfl) rfl rfl (zC (z:=(((i+1):Nat):Int)) rfl rfl (w64 (by omega)))<|d_pv 5 rfl rfl (by kernel_rfl) (by kernel_rfl) rfl rfl (zb rfl)<|d_pv 6 rfl rfl (by kernel_rfl) (by kernel_rfl) rfl rfl (zgb (z:=((((i+1)%lk.length):Nat):Int)) rfl rfl (by omega) (remN (by omega) (by omega)))<|zka (x0:=(lk.getD ((i+1)%lk.length) 0)) 7 rfl rfl (by kernel_rfl) (by kernel_rfl) 3 ((i+1)%lk.length) rfl Try.underlying50 sz3 rfl rfl rfl (by first|rfl|assumption|(simp;done)|omega) rfl rfl (gD (d:=0) (by omega)) (fun b30 o31 hok32=> ?_)
     replace hok32:=zl.1 hok32
     refine d_u 8 rfl rfl (by kernel_rfl) (by kernel_rfl) rfl rfl (zw (j:=0) 0 ty3 rfl rfl rfl rfl)<|d_pv 9 rfl rfl (by kernel_rfl) (by kernel_rfl) rfl rfl (zb rfl)<|d_pv 10 rfl rfl (by kernel_rfl) (by kernel_rfl) rfl rfl (zb rfl)<|d_pv 11 rfl rfl (by kernel_rfl) (by kernel_rfl) rfl rfl (zT zr44 rfl Try.underlying44 sz3 (.c rfl (.c rfl (.c rfl .n))) (.c rfl rfl rfl (.take .nil) (.c rfl rfl rfl (.skip (.take .nil)) (.c rfl rfl rfl (.skip (.skip (.take .nil))) .n))))<|zO 12 (by kernel_rfl) (zkb rfl rfl rfl rfl (zz (enc:=fun z:Int×Int×Int=>[.int .i64 z.1,.int .i64 z.2.1,.int .i64 z.2.2]) (ok:=fun z=>InK .i64 z.1∧InK .i64 z.2.1∧InK .i64 z.2.2) (h1:=fun _=>rfl) (h2:=fun _=>rfl) (k:=1) Try.underlying23 inf44 rfl (by decide) (by decide) (by decide) (.c (x:=((lk.getD ((i+1)%lk.length) 0),(lk.getD i 0),((W.length:Nat):Int))) rfl rfl (fun _ _=>by exact ⟨zl.2 (by first|omega|decide|(dsimp only;omega)),zl.2 (by first|omega|decide|(dsimp only;omega)),zl.2 (by first|omega|decide|(dsimp only;omega))⟩) .n)) (fun b33 _=> ?_))
     refine zDa 0 rfl .z<|zO 13 (by kernel_rfl) (zVa (A':=fun v:Option Addr×Nat=>rowA 44 (rI3 .i64) v.1 v.2 (A2++([((lk.getD ((i+1)%lk.length) 0),(lk.getD i 0),((W.length:Nat):Int))]))) (by kernel_rfl) rfl rfl rfl (zW 0 rfl Try.underlying23 inf44 (by decide) rfl rfl (by first|rfl|assumption|(simp;done)|omega) rfl (by first|rfl|assumption|(simp;done)|omega) (by omega) (by omega)) ?_)
     rintro ⟨p34,c35⟩ -
     dsimp only [List.append_eq,List.nil_append,List.cons_append]
     refine d_pv 14 rfl rfl (by kernel_rfl) (by kernel_rfl) rfl rfl (zn Try.underlying25 rfl sz23 rfl rfl)<|zsb (zS (i:=1) rfl)<|zO 15 (by kernel_rfl) (zca (by kernel_rfl) rfl rfl rfl rfl rfl sz23 rfl (.skip (.take .nil)) ?_)
     refine zwa (by kernel_rfl)<|zA<|zc<|za<|r_pv rfl rfl (zC (z:=(((i+1):Nat):Int)) rfl rfl (w64 (by omega)))<|r_pv rfl rfl (zb rfl)<|zg<|zba ((i+1),p34,c35,(A2++([((lk.getD ((i+1)%lk.length) 0),(lk.getD i 0),((W.length:Nat):Int))]))) (show (i+1)≤lk.length∧(A2++([((lk.getD ((i+1)%lk.length) 0),(lk.getD i 0),((W.length:Nat):Int))]))=A++(Ms.fanF lk ((W.length:Nat):Int)).take (i+1) from by exact ⟨by omega,by rw [Ms.fan_take (by omega),←List.append_assoc,←hA2]⟩) (by show lk.length - (i+1)<lk.length - i;omega) ((.of rfl):SubM _ _) (ho:=((.e (i:=0) rfl (by first|rfl|simp) (.of [2,0,1,1] rfl)):PickO _ _ _)) ((.of [3,4,5,6,7,8] rfl):SelR _ _ _)
    ·
     refine zX<|zj<|zj<|zp<|zA<|zc<|za<|r_pv rfl rfl (zC (z:=(((k+1):Nat):Int)) rfl rfl (w64 (by omega)))<|r_pv rfl rfl (zb rfl)<|zg<|zba ((k+1),p24,c25,(W++([((sx / ((lk.length:Nat):Int)),(sy / ((lk.length:Nat):Int)),(sz / ((lk.length:Nat):Int)))])),pB,cB,A2) (show (k+1)≤LL.length∧(W++([((sx / ((lk.length:Nat):Int)),(sy / ((lk.length:Nat):Int)),(sz / ((lk.length:Nat):Int)))]))=Ms.closeV V (LL.take (k+1))∧A2=Ms.closeF F nv (LL.take (k+1)) from by exact ⟨by omega,by (rw [Ms.closeV_take (by omega),←hW,←hlk2];unfold Ms.ctr;rw [show Ms.ctrS V lk=(sx,sy,sz) by rw [← hsum,List.take_of_length_le (by omega)]]),by (rw [Ms.closeF_take (by omega),←hA,←hlk2,hA2,←hWl,List.take_of_length_le (by rw [Ms.fan_len];omega)])⟩) (by show LL.length - (k+1)<LL.length - k;omega) ((.of rfl):SubM _ _) (ho:=((.e (i:=0) rfl (by first|rfl|simp) (.of [1,0,0,0] rfl)):PickO _ _ _)) ((.of [3,4,5] rfl):SelR _ _ _)
  ·
   refine zX<|zj<|zj<|zp<|zc<|ze<|za<|r_u rfl rfl (zh 0 ty25 rfl rfl (.take (.take .nil)))<|zv 3 rfl rfl rfl rfl rfl sz25 rfl (.take (.take .nil)) (.s (.s (.s .z)))<|zg<|zc<|zK ?_
   have hz1:Ms.closeV V LL=W:=by rw [hW,List.take_of_length_le (by omega)]
   have hz2:Ms.closeF F nv LL=A:=by rw [hA,List.take_of_length_le (by omega)]
   refine zKa 1 rfl (.s .z)<|zKa 2 rfl (.s (.s .z)) ?_
   exact zB Try.results33 (pW,cW,pA,cA) trivial (zR 3 ty25 rfl rfl (.take (.take .nil))) (by rw [hz1,hz2]) (ho:=(.n:PickO _ _ _)) ((.e (j:=0) rfl (by rw [hz1]) (.e (j:=1) rfl (by rw [hz2]) .n)):SelR _ _ _)
 refine zQ (X:=Nat×Option Addr×Nat×Nat×Option Addr×Nat×Nat) (k':=1) (L':=(lb 11 1023)) (fun (u0_1,u3_1,u3_2,u4_1,u7_1,u7_2,u9_1)=>([(3,.pointer (some ⟨u9_1,0,none⟩)),(23,.agg #[.slice u3_1 (0+nv) u3_2,.slice u7_1 (0+nf) u7_2]),(2,.pointer (some ⟨b2,0,none⟩)),(1,.pointer (some ⟨b1,0,none⟩))],[boxA u9_1 25 [.slice none 0 0,.slice none 0 0],rowA 44 (rI3 .i64) u7_1 u7_2 (([])++F),rowA 42 (rI3 .i64) u3_1 u3_2 (([])++V)],[boxA b2 25 [.slice none 0 0,.slice none 0 0],boxA b1 25 [.slice pv nv cv,.slice pf nf cf]],[slF (rI3 .i64) pv cv V,slF (rI3 .i64) pf cf F])) ?_ (fun hD1=> ?_)
 ·
  rintro ⟨u0_1,u3_1,u3_2,u4_1,u7_1,u7_2,u9_1⟩
  dsimp only
  refine zO 10 (by kernel_rfl) ?_
  ·
   refine zca (by kernel_rfl) rfl rfl rfl rfl rfl sz25 rfl (.take (.take .nil)) ?_
   exact zt (hD0 (u0_1,u3_1,u3_2,u4_1,u7_1,u7_2,u9_1)) (by kernel_rfl) ((.of rfl):SubM _ _) .rfl .rfl ((.of [0,1] rfl):SelR _ _ _)
 refine zQ (X:=Nat×Option Addr×Nat×Nat×Option Addr×Nat) (k':=2) (L':=(lb 11 511)) (fun (u0_1,u3_1,u3_2,u4_1,u7_1,u7_2)=>([(23,.agg #[.slice u3_1 (0+nv) u3_2,.slice u7_1 (0+nf) u7_2]),(2,.pointer (some ⟨b2,0,none⟩)),(1,.pointer (some ⟨b1,0,none⟩))],[rowA 44 (rI3 .i64) u7_1 u7_2 (([])++F),rowA 42 (rI3 .i64) u3_1 u3_2 (([])++V)],[boxA b2 25 [.slice none 0 0,.slice none 0 0],boxA b1 25 [.slice pv nv cv,.slice pf nf cf]],[slF (rI3 .i64) pv cv V,slF (rI3 .i64) pf cf F])) ?_ (fun hD2=> ?_)
 ·
  rintro ⟨u0_1,u3_1,u3_2,u4_1,u7_1,u7_2⟩
  dsimp only
  refine zO 9 (by kernel_rfl) ?_
  ·
   refine zU rfl rfl rfl rfl (zr zr25 rfl) (fun u9_1 _=> ?_)
   exact zt (hD1 (u0_1,u3_1,u3_2,u4_1,u7_1,u7_2,u9_1)) (by kernel_rfl) ((.of rfl):SubM _ _) .rfl .rfl ((.of [0,1] rfl):SelR _ _ _)
 refine zQ (X:=Nat×Option Addr×Nat×Nat×Nat) (k':=3) (L':=(lb 11 639)) (fun (u0_1,u3_1,u3_2,u4_1,u9_1)=>([(3,.pointer (some ⟨u9_1,0,none⟩)),(19,.slice (some ⟨u4_1,0,none⟩) 0 0),(18,.slice u3_1 (0+nv) u3_2),(21,.slice pf nf cf),(2,.pointer (some ⟨b2,0,none⟩)),(1,.pointer (some ⟨b1,0,none⟩))],[boxA u9_1 25 [.slice none 0 0,.slice none 0 0],rowA 44 (rI3 .i64) (some ⟨u4_1,0,none⟩) 0 ([]),rowA 42 (rI3 .i64) u3_1 u3_2 (([])++V)],[boxA b2 25 [.slice none 0 0,.slice none 0 0],boxA b1 25 [.slice pv nv cv,.slice pf nf cf]],[slF (rI3 .i64) pv cv V,slF (rI3 .i64) pf cf F])) ?_ (fun hD3=> ?_)
 ·
  rintro ⟨u0_1,u3_1,u3_2,u4_1,u9_1⟩
  dsimp only
  refine zO 7 (by kernel_rfl) ?_
  ·
   refine zeb (zS (i:=1) rfl)<|zVa (A':=fun v:Option Addr×Nat=>rowA 44 (rI3 .i64) v.1 v.2 (([])++F)) (by kernel_rfl) rfl rfl rfl (zW 1 rfl Try.underlying23 inf44 (by decide) rfl rfl (by first|rfl|assumption|(simp;done)|omega) rfl (by first|rfl|assumption|(simp;done)|omega) (by omega) (by omega)) ?_
   rintro ⟨u7_1,u7_2⟩ -
   dsimp only [List.append_eq,List.nil_append,List.cons_append]
   refine d_pv 8 rfl rfl (by kernel_rfl) (by kernel_rfl) rfl rfl (zM zr25 rfl Try.underlying25 (.c sz22 (.c sz23 .n)) (.c rfl (.c rfl .n)) (.c rfl rfl rfl (.take .nil) (.c rfl rfl rfl (.skip (.take .nil)) .n))) ?_
   exact zt (hD1 (u0_1,u3_1,u3_2,u4_1,u7_1,u7_2,u9_1)) (by kernel_rfl) ((.of rfl):SubM _ _) (zN 1 rfl (zN 0 rfl (zN 0 rfl .nil))) .rfl ((.of [0,1] rfl):SelR _ _ _)
 refine zQ (X:=Nat×Option Addr×Nat×Nat) (k':=4) (L':=(lb 11 127)) (fun (u0_1,u3_1,u3_2,u4_1)=>([(19,.slice (some ⟨u4_1,0,none⟩) 0 0),(18,.slice u3_1 (0+nv) u3_2),(21,.slice pf nf cf),(2,.pointer (some ⟨b2,0,none⟩)),(1,.pointer (some ⟨b1,0,none⟩))],[rowA 44 (rI3 .i64) (some ⟨u4_1,0,none⟩) 0 ([]),rowA 42 (rI3 .i64) u3_1 u3_2 (([])++V)],[boxA b2 25 [.slice none 0 0,.slice none 0 0],boxA b1 25 [.slice pv nv cv,.slice pf nf cf]],[slF (rI3 .i64) pv cv V,slF (rI3 .i64) pf cf F])) ?_ (fun hD4=> ?_)
 ·
  rintro ⟨u0_1,u3_1,u3_2,u4_1⟩
  dsimp only
  refine zRa 7 9 (by kernel_rfl) ?_ ?_
  ·
   refine zVa (A':=fun v:Option Addr×Nat=>rowA 44 (rI3 .i64) v.1 v.2 (([])++F)) (by kernel_rfl) rfl rfl rfl (zW 1 rfl Try.underlying23 inf44 (by decide) rfl rfl (by first|rfl|assumption|(simp;done)|omega) rfl (by first|rfl|assumption|(simp;done)|omega) (by omega) (by omega)) ?_
   rintro ⟨u7_1,u7_2⟩ -
   dsimp only [List.append_eq,List.nil_append,List.cons_append]
   refine d_pv 8 rfl rfl (by kernel_rfl) (by kernel_rfl) rfl rfl (zM zr25 rfl Try.underlying25 (.c sz22 (.c sz23 .n)) (.c rfl (.c rfl .n)) (.c rfl rfl rfl (.take .nil) (.c rfl rfl rfl (.skip (.take .nil)) .n))) ?_
   exact zt (hD2 (u0_1,u3_1,u3_2,u4_1,u7_1,u7_2)) (by kernel_rfl) ((.of rfl):SubM _ _) .rfl .rfl ((.of [0,1] rfl):SelR _ _ _)
  ·
   refine zU rfl rfl rfl rfl (zr zr25 rfl) (fun u9_1 _=> ?_)
   exact zt (hD3 (u0_1,u3_1,u3_2,u4_1,u9_1)) (by kernel_rfl) ((.of rfl):SubM _ _) .rfl .rfl ((.of [0,1] rfl):SelR _ _ _)
 refine zQ (X:=Nat×Option Addr×Nat×Nat) (k':=4) (L':=(lb 11 623)) (fun (u0_1,u3_1,u3_2,u9_1)=>([(3,.pointer (some ⟨u9_1,0,none⟩)),(18,.slice u3_1 (0+nv) u3_2),(21,.slice pf nf cf),(2,.pointer (some ⟨b2,0,none⟩)),(1,.pointer (some ⟨b1,0,none⟩))],[boxA u9_1 25 [.slice none 0 0,.slice none 0 0],rowA 42 (rI3 .i64) u3_1 u3_2 (([])++V)],[boxA b2 25 [.slice none 0 0,.slice none 0 0],boxA b1 25 [.slice pv nv cv,.slice pf nf cf]],[slF (rI3 .i64) pv cv V,slF (rI3 .i64) pf cf F])) ?_ (fun hD5=> ?_)
 ·
  rintro ⟨u0_1,u3_1,u3_2,u9_1⟩
  dsimp only
  refine zO 4 (by kernel_rfl) ?_
  ·
   refine zU rfl rfl rfl rfl (zP (rI3 .i64) Try.underlying23 inf44) (fun u4_1 _=> ?_)
   exact zt (hD3 (u0_1,u3_1,u3_2,u4_1,u9_1)) (by kernel_rfl) ((.of rfl):SubM _ _) (zN 1 rfl (zN 0 rfl (zN 0 rfl .nil))) .rfl ((.of [0,1] rfl):SelR _ _ _)
 refine zQ (X:=Nat×Nat×Nat) (k':=4) (L':=(lb 11 631)) (fun (u0_1,u4_1,u9_1)=>([(3,.pointer (some ⟨u9_1,0,none⟩)),(19,.slice (some ⟨u4_1,0,none⟩) 0 0),(15,.slice (some ⟨u0_1,0,none⟩) 0 0),(21,.slice pf nf cf),(17,.slice pv nv cv),(2,.pointer (some ⟨b2,0,none⟩)),(1,.pointer (some ⟨b1,0,none⟩))],[boxA u9_1 25 [.slice none 0 0,.slice none 0 0],rowA 44 (rI3 .i64) (some ⟨u4_1,0,none⟩) 0 ([]),rowA 42 (rI3 .i64) (some ⟨u0_1,0,none⟩) 0 ([])],[boxA b2 25 [.slice none 0 0,.slice none 0 0],boxA b1 25 [.slice pv nv cv,.slice pf nf cf]],[slF (rI3 .i64) pv cv V,slF (rI3 .i64) pf cf F])) ?_ (fun hD6=> ?_)
 ·
  rintro ⟨u0_1,u4_1,u9_1⟩
  dsimp only
  refine zO 3 (by kernel_rfl) ?_
  ·
   refine zeb (zS (i:=2) rfl)<|zVa (A':=fun v:Option Addr×Nat=>rowA 42 (rI3 .i64) v.1 v.2 (([])++V)) (by kernel_rfl) rfl rfl rfl (zW 0 rfl Try.underlying22 inf42 (by decide) rfl rfl (by first|rfl|assumption|(simp;done)|omega) rfl (by first|rfl|assumption|(simp;done)|omega) (by omega) (by omega)) ?_
   rintro ⟨u3_1,u3_2⟩ -
   dsimp only [List.append_eq,List.nil_append,List.cons_append]
   exact zt (hD3 (u0_1,u3_1,u3_2,u4_1,u9_1)) (by kernel_rfl) ((.of rfl):SubM _ _) (zN 1 rfl (zN 1 rfl (zN 0 rfl .nil))) .rfl ((.of [0,1] rfl):SelR _ _ _)
 refine zQ (X:=Nat×Option Addr×Nat) (k':=5) (L':=(lb 11 111)) (fun (u0_1,u3_1,u3_2)=>([(18,.slice u3_1 (0+nv) u3_2),(21,.slice pf nf cf),(2,.pointer (some ⟨b2,0,none⟩)),(1,.pointer (some ⟨b1,0,none⟩))],[rowA 42 (rI3 .i64) u3_1 u3_2 (([])++V)],[boxA b2 25 [.slice none 0 0,.slice none 0 0],boxA b1 25 [.slice pv nv cv,.slice pf nf cf]],[slF (rI3 .i64) pv cv V,slF (rI3 .i64) pf cf F])) ?_ (fun hD7=> ?_)
 ·
  rintro ⟨u0_1,u3_1,u3_2⟩
  dsimp only
  refine zRa 4 9 (by kernel_rfl) ?_ ?_
  ·
   refine zU rfl rfl rfl rfl (zP (rI3 .i64) Try.underlying23 inf44) (fun u4_1 _=> ?_)
   exact zt (hD4 (u0_1,u3_1,u3_2,u4_1)) (by kernel_rfl) ((.of rfl):SubM _ _) .rfl .rfl ((.of [0,1] rfl):SelR _ _ _)
  ·
   refine zU rfl rfl rfl rfl (zr zr25 rfl) (fun u9_1 _=> ?_)
   exact zt (hD5 (u0_1,u3_1,u3_2,u9_1)) (by kernel_rfl) ((.of rfl):SubM _ _) .rfl .rfl ((.of [0,1] rfl):SelR _ _ _)
 refine zQ (X:=Nat×Nat) (k':=5) (L':=(lb 11 119)) (fun (u0_1,u4_1)=>([(19,.slice (some ⟨u4_1,0,none⟩) 0 0),(15,.slice (some ⟨u0_1,0,none⟩) 0 0),(21,.slice pf nf cf),(17,.slice pv nv cv),(2,.pointer (some ⟨b2,0,none⟩)),(1,.pointer (some ⟨b1,0,none⟩))],[rowA 44 (rI3 .i64) (some ⟨u4_1,0,none⟩) 0 ([]),rowA 42 (rI3 .i64) (some ⟨u0_1,0,none⟩) 0 ([])],[boxA b2 25 [.slice none 0 0,.slice none 0 0],boxA b1 25 [.slice pv nv cv,.slice pf nf cf]],[slF (rI3 .i64) pv cv V,slF (rI3 .i64) pf cf F])) ?_ (fun hD8=> ?_)
 ·
  rintro ⟨u0_1,u4_1⟩
  dsimp only
  refine zRa 3 9 (by kernel_rfl) ?_ ?_
  ·
   refine zeb (zS (i:=1) rfl)<|zVa (A':=fun v:Option Addr×Nat=>rowA 42 (rI3 .i64) v.1 v.2 (([])++V)) (by kernel_rfl) rfl rfl rfl (zW 0 rfl Try.underlying22 inf42 (by decide) rfl rfl (by first|rfl|assumption|(simp;done)|omega) rfl (by first|rfl|assumption|(simp;done)|omega) (by omega) (by omega)) ?_
   rintro ⟨u3_1,u3_2⟩ -
   dsimp only [List.append_eq,List.nil_append,List.cons_append]
   exact zt (hD4 (u0_1,u3_1,u3_2,u4_1)) (by kernel_rfl) ((.of rfl):SubM _ _) (zN 1 rfl (zN 0 rfl .nil)) .rfl ((.of [0,1] rfl):SelR _ _ _)
  ·
   refine zU rfl rfl rfl rfl (zr zr25 rfl) (fun u9_1 _=> ?_)
   exact zt (hD6 (u0_1,u4_1,u9_1)) (by kernel_rfl) ((.of rfl):SubM _ _) .rfl .rfl ((.of [0,1] rfl):SelR _ _ _)
 refine zQ (X:=Nat×Nat) (k':=5) (L':=(lb 11 615)) (fun (u0_1,u9_1)=>([(3,.pointer (some ⟨u9_1,0,none⟩)),(15,.slice (some ⟨u0_1,0,none⟩) 0 0),(21,.slice pf nf cf),(17,.slice pv nv cv),(2,.pointer (some ⟨b2,0,none⟩)),(1,.pointer (some ⟨b1,0,none⟩))],[boxA u9_1 25 [.slice none 0 0,.slice none 0 0],rowA 42 (rI3 .i64) (some ⟨u0_1,0,none⟩) 0 ([])],[boxA b2 25 [.slice none 0 0,.slice none 0 0],boxA b1 25 [.slice pv nv cv,.slice pf nf cf]],[slF (rI3 .i64) pv cv V,slF (rI3 .i64) pf cf F])) ?_ (fun hD9=> ?_)
 ·
  rintro ⟨u0_1,u9_1⟩
  dsimp only
  refine zRa 3 4 (by kernel_rfl) ?_ ?_
  ·
   refine zeb (zS (i:=1) rfl)<|zVa (A':=fun v:Option Addr×Nat=>rowA 42 (rI3 .i64) v.1 v.2 (([])++V)) (by kernel_rfl) rfl rfl rfl (zW 0 rfl Try.underlying22 inf42 (by decide) rfl rfl (by first|rfl|assumption|(simp;done)|omega) rfl (by first|rfl|assumption|(simp;done)|omega) (by omega) (by omega)) ?_
   rintro ⟨u3_1,u3_2⟩ -
   dsimp only [List.append_eq,List.nil_append,List.cons_append]
   exact zt (hD5 (u0_1,u3_1,u3_2,u9_1)) (by kernel_rfl) ((.of rfl):SubM _ _) (zN 1 rfl (zN 0 rfl .nil)) .rfl ((.of [0,1] rfl):SelR _ _ _)
  ·
   refine zU rfl rfl rfl rfl (zP (rI3 .i64) Try.underlying23 inf44) (fun u4_1 _=> ?_)
   exact zt (hD6 (u0_1,u4_1,u9_1)) (by kernel_rfl) ((.of rfl):SubM _ _) (zN 1 rfl (zN 0 rfl (zN 0 rfl .nil))) .rfl ((.of [0,1] rfl):SelR _ _ _)
 refine zQ (X:=Nat×Nat) (k':=5) (L':=(lb 11 630)) (fun (u4_1,u9_1)=>([(3,.pointer (some ⟨u9_1,0,none⟩)),(19,.slice (some ⟨u4_1,0,none⟩) 0 0),(21,.slice pf nf cf),(17,.slice pv nv cv),(2,.pointer (some ⟨b2,0,none⟩)),(1,.pointer (some ⟨b1,0,none⟩))],[boxA u9_1 25 [.slice none 0 0,.slice none 0 0],rowA 44 (rI3 .i64) (some ⟨u4_1,0,none⟩) 0 ([])],[boxA b2 25 [.slice none 0 0,.slice none 0 0],boxA b1 25 [.slice pv nv cv,.slice pf nf cf]],[slF (rI3 .i64) pv cv V,slF (rI3 .i64) pf cf F])) ?_ (fun hD10=> ?_)
 ·
  rintro ⟨u4_1,u9_1⟩
  dsimp only
  refine zO 0 (by kernel_rfl) ?_
  ·
   refine zU rfl rfl rfl rfl (zP (rI3 .i64) Try.underlying22 inf42) (fun u0_1 _=> ?_)
   exact zt (hD6 (u0_1,u4_1,u9_1)) (by kernel_rfl) ((.of rfl):SubM _ _) (zN 1 rfl (zN 1 rfl (zN 0 rfl .nil))) .rfl ((.of [0,1] rfl):SelR _ _ _)
 refine zQ (X:=Nat) (k':=6) (L':=(lb 11 103)) (fun u0_1=>([(15,.slice (some ⟨u0_1,0,none⟩) 0 0),(21,.slice pf nf cf),(17,.slice pv nv cv),(2,.pointer (some ⟨b2,0,none⟩)),(1,.pointer (some ⟨b1,0,none⟩))],[rowA 42 (rI3 .i64) (some ⟨u0_1,0,none⟩) 0 ([])],[boxA b2 25 [.slice none 0 0,.slice none 0 0],boxA b1 25 [.slice pv nv cv,.slice pf nf cf]],[slF (rI3 .i64) pv cv V,slF (rI3 .i64) pf cf F])) ?_ (fun hD11=> ?_)
 ·
  rintro u0_1
  dsimp only
  refine zSa 3 4 9 (by kernel_rfl) ?_ ?_ ?_
  ·
   refine zVa (A':=fun v:Option Addr×Nat=>rowA 42 (rI3 .i64) v.1 v.2 (([])++V)) (by kernel_rfl) rfl rfl rfl (zW 0 rfl Try.underlying22 inf42 (by decide) rfl rfl (by first|rfl|assumption|(simp;done)|omega) rfl (by first|rfl|assumption|(simp;done)|omega) (by omega) (by omega)) ?_
   rintro ⟨u3_1,u3_2⟩ -
   dsimp only [List.append_eq,List.nil_append,List.cons_append]
   exact zt (hD7 (u0_1,u3_1,u3_2)) (by kernel_rfl) ((.of rfl):SubM _ _) .rfl .rfl ((.of [0,1] rfl):SelR _ _ _)
  ·
   refine zU rfl rfl rfl rfl (zP (rI3 .i64) Try.underlying23 inf44) (fun u4_1 _=> ?_)
   exact zt (hD8 (u0_1,u4_1)) (by kernel_rfl) ((.of rfl):SubM _ _) .rfl .rfl ((.of [0,1] rfl):SelR _ _ _)
  ·
   refine zU rfl rfl rfl rfl (zr zr25 rfl) (fun u9_1 _=> ?_)
   exact zt (hD9 (u0_1,u9_1)) (by kernel_rfl) ((.of rfl):SubM _ _) .rfl .rfl ((.of [0,1] rfl):SelR _ _ _)
 refine zQ (X:=Nat) (k':=6) (L':=(lb 11 118)) (fun u4_1=>([(19,.slice (some ⟨u4_1,0,none⟩) 0 0),(21,.slice pf nf cf),(17,.slice pv nv cv),(2,.pointer (some ⟨b2,0,none⟩)),(1,.pointer (some ⟨b1,0,none⟩))],[rowA 44 (rI3 .i64) (some ⟨u4_1,0,none⟩) 0 ([])],[boxA b2 25 [.slice none 0 0,.slice none 0 0],boxA b1 25 [.slice pv nv cv,.slice pf nf cf]],[slF (rI3 .i64) pv cv V,slF (rI3 .i64) pf cf F])) ?_ (fun hD12=> ?_)
 ·
  rintro u4_1
  dsimp only
  refine zRa 0 9 (by kernel_rfl) ?_ ?_
  ·
   refine zU rfl rfl rfl rfl (zP (rI3 .i64) Try.underlying22 inf42) (fun u0_1 _=> ?_)
   exact zt (hD8 (u0_1,u4_1)) (by kernel_rfl) ((.of rfl):SubM _ _) (zN 1 rfl (zN 0 rfl .nil)) .rfl ((.of [0,1] rfl):SelR _ _ _)
  ·
   refine zU rfl rfl rfl rfl (zr zr25 rfl) (fun u9_1 _=> ?_)
   exact zt (hD10 (u4_1,u9_1)) (by kernel_rfl) ((.of rfl):SubM _ _) .rfl .rfl ((.of [0,1] rfl):SelR _ _ _)
 refine zQ (X:=Nat) (k':=6) (L':=(lb 11 614)) (fun u9_1=>([(3,.pointer (some ⟨u9_1,0,none⟩)),(21,.slice pf nf cf),(17,.slice pv nv cv),(2,.pointer (some ⟨b2,0,none⟩)),(1,.pointer (some ⟨b1,0,none⟩))],[boxA u9_1 25 [.slice none 0 0,.slice none 0 0]],[boxA b2 25 [.slice none 0 0,.slice none 0 0],boxA b1 25 [.slice pv nv cv,.slice pf nf cf]],[slF (rI3 .i64) pv cv V,slF (rI3 .i64) pf cf F])) ?_ (fun hD13=> ?_)
 ·
  rintro u9_1
  dsimp only
  refine zRa 0 4 (by kernel_rfl) ?_ ?_
  ·
   refine zU rfl rfl rfl rfl (zP (rI3 .i64) Try.underlying22 inf42) (fun u0_1 _=> ?_)
   exact zt (hD9 (u0_1,u9_1)) (by kernel_rfl) ((.of rfl):SubM _ _) (zN 1 rfl (zN 0 rfl .nil)) .rfl ((.of [0,1] rfl):SelR _ _ _)
  ·
   refine zU rfl rfl rfl rfl (zP (rI3 .i64) Try.underlying23 inf44) (fun u4_1 _=> ?_)
   exact zt (hD10 (u4_1,u9_1)) (by kernel_rfl) ((.of rfl):SubM _ _) (zN 1 rfl (zN 0 rfl .nil)) .rfl ((.of [0,1] rfl):SelR _ _ _)
 refine zSa 0 4 9 (by kernel_rfl) ?_ ?_ ?_
 ·
  refine zU rfl rfl rfl rfl (zP (rI3 .i64) Try.underlying22 inf42) (fun u0_1 _=> ?_)
  exact zt (hD11 u0_1) (by kernel_rfl) ((.of rfl):SubM _ _) .rfl .rfl ((.of [0,1] rfl):SelR _ _ _)
 ·
  refine zU rfl rfl rfl rfl (zP (rI3 .i64) Try.underlying23 inf44) (fun u4_1 _=> ?_)
  exact zt (hD12 u4_1) (by kernel_rfl) ((.of rfl):SubM _ _) .rfl .rfl ((.of [0,1] rfl):SelR _ _ _)
 ·
  refine zU rfl rfl rfl rfl (zr zr25 rfl) (fun u9_1 _=> ?_)
  exact zt (hD13 u9_1) (by kernel_rfl) ((.of rfl):SubM _ _) .rfl .rfl ((.of [0,1] rfl):SelR _ _ _)
end Go.Proofs.Ytalfgjpbbongcaa.Sp
namespace Go.Proofs.Ytalfgjpbbongcaa.Sp
open Go
set_option linter.unusedVariables false
set_option maxRecDepth 100000
set_option maxHeartbeats 8000000
theorem zXb {pv:Option Addr} {nv:Nat} {cv:Nat} {V:List (Int×Int×Int)} {pf:Option Addr} {nf:Nat} {cf:Nat} {F:List (Int×Int×Int)} (hnv:V.length=nv) (hnf:F.length=nf):Con Try.prog 7 [.agg #[.slice pv nv cv,.slice pf nf cf]] [] [slF (rI3 .i64) pv cv V,slF (rI3 .i64) pf cf F] (Y:=Unit) (fun y=>True) (fun y=> .bool true) (fun y=>[]) (fun y=>[]):=by
  refine zy Try.func7 rfl rfl rfl (fun c=> ?_)
  show RunC _ _ _ _ _ [(0,.agg #[.slice pv nv cv,.slice pf nf cf])] [] [slF (rI3 .i64) pv cv V,slF (rI3 .i64) pf cf F]
  refine zda 0 rfl (fun hL0=> ?_)
  refine zda 1 rfl (fun hL1=> ?_)
  refine ze<|za<|zV rfl rfl (zla rfl rfl) (fun b1=> ?_)
  refine r_pv rfl rfl (zd rfl)<|zg<|zc<|ze<|ze<|za<|zea rfl rfl (.n) ce12 (zUd) (.n)<|r_pv rfl rfl (zhb rfl)<|zg<|zc<|zya rfl rfl<|zu<|zc<|ze<|ze<|za<|r_u rfl rfl (zh 0 ty25 rfl rfl (.take (.take .nil)))<|zea rfl rfl (.c rfl .n) ce13 (zBe (pv:=pv) (nv:=nv) (cv:=cv) (V:=V) (pf:=pf) (nf:=nf) (cf:=cf) (F:=F) (hnv:=by assumption) (hnf:=by assumption)) (.c (j:=0) rfl (.c (j:=1) rfl .n))<|r_pv rfl rfl (zJc rfl)<|zg<|zc<|zD rfl (fun hfew=> ?_) (fun hfew=> ?_)
  ·
    refine ze<|za<|r_pv rfl rfl (zd rfl)<|zg<|zc<|zK<|zk ?_
    exact zB Try.results7 () trivial (zx rfl) rfl (ho:=(.n:PickO _ _ _)) (.n:SelR _ _ _)
  ·
    refine zu<|zc<|ze<|za<|r_u rfl rfl (zh 0 ty25 rfl rfl (.take (.take .nil)))<|zfa rfl rfl (.c rfl .n) ce31 (zVd (pv:=pv) (nv:=nv) (cv:=cv) (V:=V) (pf:=pf) (nf:=nf) (cf:=cf) (F:=F) (hnv:=by assumption) (hnf:=by assumption) (hV16:=by first|rfl|assumption|omega) (hF24:=by first|rfl|assumption|omega)) (.c (j:=0) rfl (.c (j:=1) rfl .n)) ?_
    rintro ⟨p22,c23,p34,c35,bm1⟩ hB
    dsimp only [List.append_eq,List.nil_append,List.cons_append]
    replace hB:Ms.check V F=0→Ms.BMap F bm1:=hB
    refine r_pv rfl rfl (zb rfl)<|r_pv rfl rfl (zY rfl rfl)<|r_pv rfl rfl (zY rfl rfl)<|zV rfl rfl (zr zr25 rfl) (fun b6=> ?_)
    refine zv 0 rfl rfl rfl rfl rfl sz25 rfl (.take (.take .nil)) .z<|r_pv rfl rfl (zd rfl)<|zg<|zc<|ze<|ze<|za<|r_u rfl rfl (zh 1 ty25 rfl rfl (.take (.take .nil)))<|zea rfl rfl (.c rfl .n) ce15 (zec (pv:=pv) (nv:=nv) (cv:=cv) (V:=V) (pf:=pf) (nf:=nf) (cf:=cf) (F:=F) (hnv:=by assumption) (hnf:=by assumption)) (.c (j:=2) rfl (.c (j:=3) rfl .n))<|r_pv rfl rfl (zd rfl)<|zg<|zc<|ze<|za<|r_pv rfl rfl (zb rfl)<|r_pv rfl rfl (zMa rfl rfl)<|zg<|zc<|zD rfl (fun hc=> ?_) (fun hc=> ?_)
    ·
      have hz1:(if Ms.check V F=0 then Ms.closeV V (Ms.loops (fun jj=>mget bm1 jj) nv) else [])=[]:=if_neg hc
      have hz2:(if Ms.check V F=0 then Ms.closeF F nv (Ms.loops (fun jj=>mget bm1 jj) nv) else [])=[]:=if_neg hc
      refine ze<|c_nilF (rI3 .i64)<|za<|r_pv rfl rfl (zb rfl)<|r_pv rfl rfl (zb rfl)<|r_pv rfl rfl (zFa rfl rfl) ?_
      rw [show (decide (Ms.check V F=Ms.check V F))=true from by exact decide_eq_true rfl]
      refine r_pv rfl rfl (zb rfl)<|r_u rfl rfl (zh 0 ty25 rfl rfl (.take (.take .nil)))<|r_pv rfl rfl (zM zr25 rfl Try.underlying25 (.c sz22 (.c sz23 .n)) .n .n)<|zea rfl rfl (.c rfl (.c rfl .n)) ce32 (zZc (pv:=p22) (nv:=(if Ms.check V F=0 then Ms.closeV V (Ms.loops (fun jj=>mget bm1 jj) nv) else []).length) (cv:=c23) (V:=(if Ms.check V F=0 then Ms.closeV V (Ms.loops (fun jj=>mget bm1 jj) nv) else [])) (pf:=p34) (nf:=(if Ms.check V F=0 then Ms.closeF F nv (Ms.loops (fun jj=>mget bm1 jj) nv) else []).length) (cf:=c35) (F:=(if Ms.check V F=0 then Ms.closeF F nv (Ms.loops (fun jj=>mget bm1 jj) nv) else [])) (pv2:=none) (nv2:=0) (cv2:=0) (V2:=[]) (pf2:=none) (nf2:=0) (cf2:=0) (F2:=[]) (hnv:=by first|rfl|assumption|omega) (hnf:=by first|rfl|assumption|omega) (hnv2:=by first|rfl|assumption|omega) (hnf2:=by first|rfl|assumption|omega)) (.c (j:=1) rfl (.c (j:=2) rfl (.c (j:=0) rfl (.c (j:=0) rfl .n)))) ?_
      rw [show (decide ((if Ms.check V F=0 then Ms.closeV V (Ms.loops (fun jj=>mget bm1 jj) nv) else [])=([])∧(if Ms.check V F=0 then Ms.closeF F nv (Ms.loops (fun jj=>mget bm1 jj) nv) else [])=([])))=true from by exact decide_eq_true ⟨hz1,hz2⟩]
      refine r_pv rfl rfl (zH rfl rfl)<|r_pv rfl rfl (zd rfl)<|zg<|zc<|zK<|zk ?_
      exact zB Try.results7 () trivial (zx rfl) rfl (ho:=(.n:PickO _ _ _)) (.n:SelR _ _ _)
    ·
      have hc0:=Decidable.not_not.1 hc
      have hf0:=Ms.check_form hc0
      have hg:=Ms.form_zero.1 hf0
      have hnv5:nv≤512:=by have:=hg.nv;omega
      have hnf5:nf≤1024:=by have:=hg.nf;omega
      have hB:=hB hc0
      obtain ⟨hk1,hk2⟩:=Ms.closes_law hc0 hB (by omega) (by omega)
      rw [hnv] at hk1 hk2
      have hz1:(if Ms.check V F=0 then Ms.closeV V (Ms.loops (fun jj=>mget bm1 jj) nv) else [])=Ms.closeV V (Ms.loops (fun jj=>mget bm1 jj) nv):=if_pos hc0
      have hz2:(if Ms.check V F=0 then Ms.closeF F nv (Ms.loops (fun jj=>mget bm1 jj) nv) else [])=Ms.closeF F nv (Ms.loops (fun jj=>mget bm1 jj) nv):=if_pos hc0
      have hq1:Ms.loops (fun jj=>mget bm1 jj) nv=Ms.loops (fun jj=>mget (Ms.nextM F) jj) nv:=by rw [Ms.bmap_unique (Ms.border_uniq hc0) hB (Ms.nextM_bmap F)]
      obtain ⟨CV,hCV⟩:∃z:List (Int×Int×Int),z=(if Ms.check V F=0 then Ms.closeV V (Ms.loops (fun jj=>mget bm1 jj) nv) else []):=⟨_,rfl⟩
      rw [← hCV]
      obtain ⟨CF,hCF⟩:∃z:List (Int×Int×Int),z=(if Ms.check V F=0 then Ms.closeF F nv (Ms.loops (fun jj=>mget bm1 jj) nv) else []):=⟨_,rfl⟩
      rw [← hCF]
      rw [← hz1,←hz2,←hCV,←hCF] at hk1
      rw [← hz2,←hCF] at hk2
      rw [hz1,hq1] at hCV
      rw [hz2,hq1] at hCF
      have hgC:=Ms.form_zero.1 (Ms.check_form hk1)
      refine zu<|zc<|ze<|ze<|zva (OW:=[]) (O:=[boxA b6 25 [.slice p22 (CV.length) c23,.slice p34 (CF.length) c35],boxA b1 25 [.slice pv nv cv,.slice pf nf cf]]) 100000 mixed (.then (.then .ret)) (by kernel_rfl)<|d_pv 0 rfl rfl (by kernel_rfl) (by kernel_rfl) rfl rfl (zb rfl)<|d_pv 1 rfl rfl (by kernel_rfl) (by kernel_rfl) rfl rfl (zMa rfl rfl) ?_
      rw [show (decide (Ms.check V F≠0))=false from by exact decide_eq_false (fun h=>h hc0)]
      refine d_pv 2 rfl rfl (by kernel_rfl) (by kernel_rfl) rfl rfl (zb rfl)<|d_u 3 rfl rfl (by kernel_rfl) (by kernel_rfl) rfl rfl (zh 0 ty25 rfl rfl (.take (.take .nil)))<|d_u 4 rfl rfl (by kernel_rfl) (by kernel_rfl) rfl rfl (zh 1 ty25 rfl rfl (.take (.take .nil)))<|zO 5 (by kernel_rfl) (zL rfl rfl rfl rfl (.c rfl .n) ce33 (zUc (pv:=pv) (nv:=nv) (cv:=cv) (V:=V) (pf:=pf) (nf:=nf) (cf:=cf) (F:=F) (hnv:=by assumption) (hnf:=by assumption) (hV16:=by first|rfl|assumption|omega) (hF24:=by first|rfl|assumption|omega) (hg:=by first|rfl|assumption|omega) (hc0:=by first|rfl|assumption|omega)) (.c (j:=2) rfl (.c (j:=3) rfl .n)) ?_)
      rintro ⟨p27,c28,p39,c310⟩ -
      dsimp only [List.append_eq,List.nil_append,List.cons_append]
      refine zO 6 (by kernel_rfl) (zza rfl rfl rfl rfl (.c rfl (.c rfl .n)) ce32 (zZc (pv:=p22) (nv:=CV.length) (cv:=c23) (V:=CV) (pf:=p34) (nf:=CF.length) (cf:=c35) (F:=CF) (pv2:=p27) (nv2:=(Ms.closeV V (Ms.loops (fun jj=>mget (Ms.nextM F) jj) nv)).length) (cv2:=c28) (V2:=Ms.closeV V (Ms.loops (fun jj=>mget (Ms.nextM F) jj) nv)) (pf2:=p39) (nf2:=(Ms.closeF F nv (Ms.loops (fun jj=>mget (Ms.nextM F) jj) nv)).length) (cf2:=c310) (F2:=Ms.closeF F nv (Ms.loops (fun jj=>mget (Ms.nextM F) jj) nv)) (hnv:=by first|rfl|assumption|omega) (hnf:=by first|rfl|assumption|omega) (hnv2:=by first|rfl|assumption|omega) (hnf2:=by first|rfl|assumption|omega)) (.c (j:=2) rfl (.c (j:=3) rfl (.c (j:=0) rfl (.c (j:=1) rfl .n)))) ?_)
      rw [show (decide (CV=(Ms.closeV V (Ms.loops (fun jj=>mget (Ms.nextM F) jj) nv))∧CF=(Ms.closeF F nv (Ms.loops (fun jj=>mget (Ms.nextM F) jj) nv))))=true from by exact decide_eq_true ⟨hCV,hCF⟩]
      refine d_pv 7 rfl rfl (by kernel_rfl) (by kernel_rfl) rfl rfl (zhb rfl)<|d_pv 8 rfl rfl (by kernel_rfl) (by kernel_rfl) rfl rfl (zH rfl rfl)<|d_pv 9 rfl rfl (by kernel_rfl) (by kernel_rfl) rfl rfl (zb rfl)<|d_u 10 rfl rfl (by kernel_rfl) (by kernel_rfl) rfl rfl (zh 0 ty25 rfl rfl (.take (.take .nil)))<|zO 11 (by kernel_rfl) (zza rfl rfl rfl rfl (.c rfl .n) ce15 (zec (pv:=p22) (nv:=CV.length) (cv:=c23) (V:=CV) (pf:=p34) (nf:=CF.length) (cf:=c35) (F:=CF) (hnv:=by first|rfl|assumption|omega) (hnf:=by first|rfl|assumption|omega)) (.c (j:=2) rfl (.c (j:=3) rfl .n)) ?_)
      refine d_pv 12 rfl rfl (by kernel_rfl) (by kernel_rfl) rfl rfl (zMa rfl rfl) ?_
      rw [show (decide (Ms.check CV CF≠0))=false from by exact decide_eq_false (fun h=>h hk1)]
      refine d_pv 13 rfl rfl (by kernel_rfl) (by kernel_rfl) rfl rfl (zH rfl rfl)<|zwa (by kernel_rfl)<|zc<|zya rfl rfl<|zu<|zc<|ze<|za<|r_u rfl rfl (zh 0 ty25 rfl rfl (.take (.take .nil)))<|zfa rfl rfl (.c rfl .n) ce23 (zUb (pv:=p22) (nv:=CV.length) (cv:=c23) (V:=CV) (pf:=p34) (nf:=CF.length) (cf:=c35) (F:=CF) (hnv:=by first|rfl|assumption|omega) (hnf:=by first|rfl|assumption|omega)) (.c (j:=2) rfl (.c (j:=3) rfl .n)) ?_
      rintro ⟨p211,c212,bm2⟩ hB2
      dsimp only [List.append_eq,List.nil_append,List.cons_append]
      replace hB2:Ms.check CV CF=0→Ms.BMap CF bm2:=hB2
      refine r_pv rfl rfl (zb rfl)<|r_pv rfl rfl (zY rfl rfl)<|r_pv rfl rfl (zY rfl rfl)<|r_pv rfl rfl (zd rfl)<|r_pv rfl rfl (zd rfl)<|zg<|zc<|ze ?_
      have hb0:(((Ms.bordersR CV CF bm2).length:Nat):Int)=0:=by
        unfold Ms.bordersR
        rw [if_pos hk1]
        have h9:=(Ms.loops_bnd hgC (hB2 hk1)).1
        by_cases h8:0<(Ms.loops (fun jj=>mget bm2 jj) CV.length).length
        · exact absurd hk2 (h9 h8)
        · omega
      refine za<|r_pv rfl rfl (zb rfl)<|r_pv rfl rfl (zFa rfl rfl) ?_
      rw [show (decide (Ms.check CV CF=0))=true from by exact decide_eq_true hk1]
      refine r_pv rfl rfl (zb rfl)<|r_pv rfl rfl (zb rfl)<|r_pv rfl rfl (zJ Try.underlying37 rfl)<|r_pv rfl rfl (zFa rfl rfl) ?_
      rw [show (decide ((((Ms.bordersR CV CF bm2).length:Nat):Int)=0))=true from by exact decide_eq_true hb0]
      refine r_pv rfl rfl (zH rfl rfl)<|r_pv rfl rfl (zd rfl)<|zg<|zc<|zK ?_
      exact zB Try.results7 () trivial (zx rfl) rfl (ho:=(.n:PickO _ _ _)) (.n:SelR _ _ _)
end Go.Proofs.Ytalfgjpbbongcaa.Sp
