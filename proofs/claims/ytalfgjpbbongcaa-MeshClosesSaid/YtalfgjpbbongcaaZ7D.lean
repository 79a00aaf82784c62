/- Lemmas on the walk and plain lemmas that the claim of this folder uses; each states its own conditions. Lines were printed by a program of ours. -/
import Derived.Test.YtalfgjpbbongcaaZ7C
set_option linter.unusedVariables false
set_option linter.unusedSimpArgs false
set_option linter.unusedSectionVars false
namespace Go.Proofs.Ytalfgjpbbongcaa.Sp
open Go
set_option linter.unusedVariables false
set_option maxRecDepth 100000
set_option maxHeartbeats 8000000
theorem zUb {pv:Option Addr} {nv:Nat} {cv:Nat} {V:List (Int×Int×Int)} {pf:Option Addr} {nf:Nat} {cf:Nat} {F:List (Int×Int×Int)} (hnv:V.length=nv) (hnf:F.length=nf):Con Try.prog 23 [.agg #[.slice pv nv cv,.slice pf nf cf]] [] [slF (rI3 .i64) pv cv V,slF (rI3 .i64) pf cf F] (Y:=(Option Addr)×Nat×(List (Int×Int))) (fun y=>Ms.check V F=0→Ms.BMap F y.2.2) (fun y=> .tuple #[.slice (y.1) ((Ms.bordersR V F y.2.2).length) (y.2.1),.int .i64 (Ms.check V F)]) (fun y=>[]) (fun y=>[slF (rS (rI .i64)) (y.1) (y.2.1) (Ms.bordersR V F y.2.2)]):=by
 refine zy Try.func23 rfl rfl rfl (fun c=> ?_)
 show RunC _ _ _ _ _ [(0,.agg #[.slice pv nv cv,.slice pf nf cf])] [] [slF (rI3 .i64) pv cv V,slF (rI3 .i64) pf cf F]
 refine zda 0 rfl (fun hL0=> ?_)
 refine zda 1 rfl (fun hL1=> ?_)
 refine ze<|za<|zV rfl rfl (zla rfl rfl) (fun b1=> ?_)
 refine r_pv rfl rfl (zd rfl)<|r_pv rfl rfl (zd rfl)<|zg<|zc<|ze<|ze<|za<|r_u rfl rfl (zh 0 ty25 rfl rfl (.take (.take .nil)))<|zea rfl rfl (.c rfl .n) ce14 (znb (pv:=pv) (nv:=nv) (cv:=cv) (V:=V) (pf:=pf) (nf:=nf) (cf:=cf) (F:=F) (hnv:=by assumption) (hnf:=by assumption)) (.c (j:=0) rfl (.c (j:=1) rfl .n))<|r_pv rfl rfl (zd rfl)<|zg<|zc<|ze<|za<|r_pv rfl rfl (zb rfl)<|r_pv rfl rfl (zMa rfl rfl)<|zg<|zc<|zD rfl (fun hcode=> ?_) (fun hcode=> ?_)
 ·
  refine ze<|za<|r_pv rfl rfl (zb rfl)<|r_pv rfl rfl (zd rfl)<|r_pv rfl rfl (zd rfl)<|zg<|zc<|zK<|zk ?_
  have hz:Ms.bordersR V F []=[]:=by unfold Ms.bordersR;rw [if_neg hcode]
  refine zwc (rS (rI .i64)) ?_
  exact zub Try.results23 (none,0,[]) (fun h=>absurd h hcode) (zx rfl) (zx rfl) (by rw [hz];rfl) (ho:=(.n:PickO _ _ _)) ((.e (j:=0) rfl (by rw [hz]) .n):SelR _ _ _)
 ·
  have hc0:=Decidable.not_not.1 hcode
  have hf0:=Ms.check_form hc0
  have hg:=Ms.form_zero.1 hf0
  have hnv5:nv≤512:=by have:=hg.nv;omega
  have hnf5:nf≤1024:=by have:=hg.nf;omega
  refine zu<|zc<|ze<|za<|r_u rfl rfl (zh 0 ty25 rfl rfl (.take (.take .nil)))<|zfa rfl rfl (.c rfl .n) ce65 (zHc (pv:=pv) (nv:=nv) (cv:=cv) (V:=V) (pf:=pf) (nf:=nf) (cf:=cf) (F:=F) (hnv:=by assumption) (hnf:=by assumption) (hg:=by first|rfl|assumption|omega|(simp;done)|(simp;omega)|(simp_all;done))) (.c (j:=0) rfl (.c (j:=1) rfl .n)) ?_
  rintro ⟨p22,c23,bm1⟩ hB
  dsimp only [List.append_eq,List.nil_append,List.cons_append]
  replace hB:Ms.BMap F bm1:=hB
  refine r_pv rfl rfl (zd rfl)<|r_pv rfl rfl (zd rfl)<|zg<|zc<|zK ?_
  have hz:Ms.bordersR V F bm1=Ms.loops (fun jj=>mget bm1 jj) nv:=by unfold Ms.bordersR;rw [if_pos hc0,hnv]
  exact zub Try.results23 (p22,c23,bm1) (fun _=>hB) (zx rfl) (zx rfl) (by rw [hz,hc0]) (ho:=(.n:PickO _ _ _)) ((.e (j:=0) rfl (by rw [hz]) .n):SelR _ _ _)
theorem zIc {pv:Option Addr} {nv:Nat} {cv:Nat} {V:List (Int×Int×Int)} {pf:Option Addr} {nf:Nat} {cf:Nat} {F:List (Int×Int×Int)} (hnv:V.length=nv) (hnf:F.length=nf) (hg:Ms.Good V F):Con Try.prog 17 [.agg #[.slice pv nv cv,.slice pf nf cf]] [] [slF (rI3 .i64) pv cv V,slF (rI3 .i64) pf cf F] (Y:=(Option Addr)×Nat) (fun y=>True) (fun y=> .slice (y.1) ((Ms.loops (fun jj=>mget (Ms.nextM F) jj) nv).length) (y.2)) (fun y=>[]) (fun y=>[slF (rS (rI .i64)) (y.1) (y.2) (Ms.loops (fun jj=>mget (Ms.nextM F) jj) nv)]):=by
 refine zy Try.func17 rfl rfl rfl (fun c=> ?_)
 show RunC _ _ _ _ _ [(0,.agg #[.slice pv nv cv,.slice pf nf cf])] [] [slF (rI3 .i64) pv cv V,slF (rI3 .i64) pf cf F]
 refine zda 0 rfl (fun hL0=> ?_)
 refine zda 1 rfl (fun hL1=> ?_)
 have hnv5:nv≤512:=by have:=hg.nv;omega
 have hnf5:nf≤1024:=by have:=hg.nf;omega
 have hln:=Ms.all_len F
 have hB:=Ms.nextM_bmap F
 refine ze<|za<|zV rfl rfl (zla rfl rfl) (fun b1=> ?_)
 refine r_pv rfl rfl (zd rfl)<|zg<|zc<|ze<|za<|r_u rfl rfl (zh 0 ty25 rfl rfl (.take (.take .nil)))<|zfa rfl rfl (.c rfl .n) ce50 (zRd (pv:=pv) (nv:=nv) (cv:=cv) (V:=V) (pf:=pf) (nf:=nf) (cf:=cf) (F:=F) (hnv:=by assumption) (hnf:=by assumption) (hbf:=by first|rfl|assumption|omega|(simp;done)|(simp;omega)|(simp_all;done))) (.c (j:=0) rfl (.c (j:=1) rfl .n)) ?_
 rintro ⟨p22,c23⟩ -
 dsimp only [List.append_eq,List.nil_append,List.cons_append]
 refine r_pv rfl rfl (zd rfl)<|zg<|zc<|ze<|za<|zEa rfl rfl (zGa (κ:=Int) (ν:=Int) (fun z:Int=> .int .i64 z) (fun z:Int=> .int .i64 z) (InK .i64)) (fun b4 _=> ?_)
 refine r_pv rfl rfl (zd rfl)<|zg<|zc<|ze<|ze<|za<|r_pv rfl rfl (zb rfl)<|r_pv rfl rfl (zJ Try.underlying80 rfl)<|r_pv rfl rfl (zb rfl)<|zg<|zc<|zq<|zha (X:=Nat) (fun x:Nat=>x≤(Ms.all F).length) (fun x=>[(19,.int .i64 ((x:Nat):Int)),(18,.int .i64 (((Ms.all F).length:Nat):Int)),(17,.slice p22 ((Ms.all F).length) c23),(4,.map (some b4)),(3,.slice p22 ((Ms.all F).length) c23),(2,.slice none 0 0),(1,.pointer (some ⟨b1,0,none⟩))]) (fun x=>[mapA b4 (fun z:Int=> .int .i64 z) (fun z:Int=> .int .i64 z) (InK .i64) (((Ms.all F).take x).foldl (Ms.nextS F) []),boxA b1 25 [.slice pv nv cv,.slice pf nf cf]]) (fun x=>[slF (rI2 .i64) p22 c23 (Ms.all F),slF (rI3 .i64) pv cv V,slF (rI3 .i64) pf cf F]) (fun x:Nat=>(Ms.all F).length - x) 0 (show 0≤(Ms.all F).length from by exact Nat.zero_le _) ((.e rfl (by first|rfl|(congr 1;omega)|simp_all) (.of rfl)):SubM _ _) (ho:=((.e (i:=0) rfl (by rfl) (.c (i:=0) rfl .n)):PickO _ _ _)) ((.of [0,1,2] rfl):SelR _ _ _) ?_
 rintro i hI
 replace hI:i≤(Ms.all F).length:=hI
 try dsimp only
 refine ze<|za<|r_pv rfl rfl (zE rfl rfl)<|zg<|zc<|ze<|zD rfl (fun h5=> ?_) (fun h5=> ?_)
 ·
  have har:=Ms.all_rng hg (Ms.getD_mem (l:=Ms.all F) (i:=i) (0,0) (by omega))
  refine zu<|zc<|ze<|zq<|ze<|za<|zI (x0:=((Ms.all F).getD i (0,0))) 0 i rfl Try.underlying80 sz72 rfl rfl rfl (by first|rfl|assumption|(simp;done)|omega) rfl rfl (gD (d:=(0,0)) (by omega)) (fun b6 o7 hok8=> ?_)
  obtain ⟨hok8x,hok8y⟩:=hok8
  replace hok8x:=zl.1 hok8x
  replace hok8y:=zl.1 hok8y
  refine r_u rfl rfl (zG (j:=0) 0 ty72 rfl rfl rfl (.take (.take .nil)))<|zV rfl rfl (zr zr72 rfl) (fun b9=> ?_)
  refine zv 0 rfl rfl rfl rfl rfl sz72 rfl (.take (.take .nil)) .z<|zg<|zc<|ze<|za<|r_pv rfl rfl (zb rfl)<|r_pv rfl rfl (zm (i:=1) Try.underlying72 sz3 rfl rfl (by decide) rfl)<|r_u rfl rfl (zf 0 ty3 rfl rfl rfl)<|r_pv rfl rfl (zm (i:=0) Try.underlying72 sz3 rfl rfl (by decide) rfl)<|r_u rfl rfl (zf 0 ty3 rfl rfl rfl)<|r_pv rfl rfl (zT zr72 rfl Try.underlying72 sz3 (.c rfl (.c rfl .n)) (.c rfl rfl rfl (.take .nil) (.c rfl rfl rfl (.skip (.take .nil)) .n)))<|zea rfl rfl (.c rfl (.c rfl .n)) ce51 (zGc (p:=p22) (n:=(Ms.all F).length) (cap:=c23) (l:=Ms.all F) (ex:=((Ms.all F).getD i (0,0)).2) (ey:=((Ms.all F).getD i (0,0)).1) (hn:=by first|rfl|assumption|omega|(simp;done)|(simp;omega)|(simp_all;done))) (.c (j:=1) rfl .n)<|r_pv rfl rfl (zFa rfl rfl)<|zg<|zc<|zD rfl (fun hcnt=> ?_) (fun hcnt=> ?_)
  ·
   refine za<|r_pv rfl rfl (zb rfl)<|r_pv rfl rfl (zm (i:=0) Try.underlying72 sz3 rfl rfl (by decide) rfl)<|r_u rfl rfl (zf 0 ty3 rfl rfl rfl)<|r_pv rfl rfl (zm (i:=1) Try.underlying72 sz3 rfl rfl (by decide) rfl)<|r_u rfl rfl (zf 0 ty3 rfl rfl rfl)<|zBa 1 rfl rfl rfl (zga (a0:=((Ms.all F).getD i (0,0)).1) (v:=((Ms.all F).getD i (0,0)).2) ky3 Try.underlying76 rfl rfl rfl (zl.2 (by omega))) (fun _=>(.s .z)) (fun _ _=> ?_)
   refine zg<|zA<|zc<|za<|r_pv rfl rfl (zC (z:=(((i+1):Nat):Int)) rfl rfl (w64 (by omega)))<|r_pv rfl rfl (zb rfl)<|zg<|zba (i+1) (show (i+1)≤(Ms.all F).length from by exact (by omega:i+1≤(Ms.all F).length)) (by show (Ms.all F).length - (i+1)<(Ms.all F).length - i;omega) ((.of rfl):SubM _ _) (ho:=((.e (i:=1) rfl (by rw [Ms.nextM_take (by omega)];unfold Ms.nextS;rw [if_pos (by omega)]) (.c (i:=1) rfl .n)):PickO _ _ _)) ((.of [1,2,3] rfl):SelR _ _ _)
  ·
   refine zu<|zA<|zc<|za<|r_pv rfl rfl (zC (z:=(((i+1):Nat):Int)) rfl rfl (w64 (by omega)))<|r_pv rfl rfl (zb rfl)<|zg<|zba (i+1) (show (i+1)≤(Ms.all F).length from by exact (by omega:i+1≤(Ms.all F).length)) (by show (Ms.all F).length - (i+1)<(Ms.all F).length - i;omega) ((.of rfl):SubM _ _) (ho:=((.e (i:=1) rfl (by rw [Ms.nextM_take (by omega)];unfold Ms.nextS;rw [if_neg (by omega)]) (.c (i:=1) rfl .n)):PickO _ _ _)) ((.of [1,2,3] rfl):SelR _ _ _)
 ·
  refine zX<|zj<|zj<|zp<|zc<|ze<|za<|zEa rfl rfl (zP (rS (rI .i64)) Try.underlying37 inf50) (fun b10 _=> ?_)
  refine r_pv rfl rfl (zd rfl)<|zg<|zc<|ze<|za<|zEa rfl rfl (zGa (κ:=Int) (ν:=Bool) (fun z:Int=> .int .i64 z) (fun z:Bool=> .bool z) (InK .i64)) (fun b11 _=> ?_)
  refine r_pv rfl rfl (zd rfl)<|zg<|zc<|ze<|ze ?_
  have e12:((Ms.all F).take i).foldl (Ms.nextS F) []=Ms.nextM F:=by rw [List.take_of_length_le (by omega)];rfl
  rw [e12]
  refine za<|r_pv rfl rfl (zn Try.underlying25 rfl sz22 rfl rfl)<|r_u rfl rfl (zf 3 ty22 rfl rfl rfl)<|r_pv rfl rfl (zJ Try.underlying22 rfl)<|r_pv rfl rfl (zb rfl)<|zg<|zc<|zq<|zha (X:=Nat×(List (Int×Bool))×(List Int)×(Option Addr)×Nat×(List (List Int))) (fun x:Nat×(List (Int×Bool))×(List Int)×(Option Addr)×Nat×(List (List Int))=>x.1≤nv∧Ms.Marks x.2.1 x.2.2.1∧Ms.LInv (fun jj=>mget (Ms.nextM F) jj) nv x.1 x.2.2.1 x.2.2.2.2.2) (fun x=>[(7,.slice (x.2.2.2.1) (x.2.2.2.2.2.length) (x.2.2.2.2.1)),(42,.int .i64 ((x.1:Nat):Int)),(41,.int .i64 ((nv:Nat):Int)),(8,.map (some b11)),(4,.map (some b4)),(2,.slice none 0 0)]) (fun x=>[mapA b11 (fun z:Int=> .int .i64 z) (fun z:Bool=> .bool z) (InK .i64) (x.2.1),rowA 50 (rS (rI .i64)) (x.2.2.2.1) (x.2.2.2.2.1) (x.2.2.2.2.2),mapA b4 (fun z:Int=> .int .i64 z) (fun z:Int=> .int .i64 z) (InK .i64) (Ms.nextM F),boxA b1 25 [.slice pv nv cv,.slice pf nf cf]]) (fun x=>[slF (rI2 .i64) p22 c23 (Ms.all F),slF (rI3 .i64) pv cv V,slF (rI3 .i64) pf cf F]) (fun x:Nat×(List (Int×Bool))×(List Int)×(Option Addr)×Nat×(List (List Int))=>nv - x.1) (0,([]:List (Int×Bool)),([]:List Int),some ⟨b10,0,none⟩,0,([]:List (List Int))) (show 0≤nv∧Ms.Marks ([]:List (Int×Bool)) ([]:List Int)∧Ms.LInv (fun jj=>mget (Ms.nextM F) jj) nv 0 ([]:List Int) ([]:List (List Int)) from by exact ⟨Nat.zero_le _,Ms.Marks.nil,Ms.LInv.start _ _⟩) ((.e rfl (by first|rfl|(congr 1;omega)|simp_all) (.e rfl (by first|rfl|(congr 1;omega)|simp_all) (.of rfl))):SubM _ _) (ho:=((.e (i:=0) rfl (by first|rfl|(congr 1;omega)|simp_all) (.e (i:=0) rfl (by first|rfl|(congr 1;omega)|simp_all) (.of [0,0] rfl))):PickO _ _ _)) ((.of [0,1,2] rfl):SelR _ _ _) ?_
  rintro ⟨v,dm,K,p,c,out⟩ hI
  replace hI:v≤nv∧Ms.Marks dm K∧Ms.LInv (fun jj=>mget (Ms.nextM F) jj) nv v K out:=hI
  try dsimp only
  obtain ⟨hv,hM,hL⟩:=hI
  have hol:=hL.len
  refine ze<|za<|r_pv rfl rfl (zE rfl rfl)<|zg<|zc<|ze<|zD rfl (fun h13=> ?_) (fun h13=> ?_)
  ·
   refine zu<|zc<|ze<|zq<|ze<|za<|r_pv rfl rfl (zb rfl)<|r_pv rfl rfl (zd rfl)<|zg<|zc<|ze<|ze<|za<|r_pv rfl rfl (zb rfl)<|r_pv rfl rfl (zb rfl)<|r_u rfl rfl (zYa (z:=0) (a0:=((v:Nat):Int)) (v:= .int .i64 ((mget (Ms.nextM F) ((v:Nat):Int)).getD 0)) 2 rfl ky3 Try.underlying76 zr3 rfl rfl (zl.2 (by omega)) rfl)<|r_pv rfl rfl (zb rfl)<|r_pv rfl rfl (zY rfl rfl)<|r_pv rfl rfl (zY rfl rfl)<|r_pv rfl rfl (zd rfl)<|r_pv rfl rfl (zd rfl)<|zg<|zc<|zLa (X:=Unit) (fun x=>True) (fun x=>[(57,.bool (decide (((!((mget (Ms.nextM F) ((v:Nat):Int)).isSome))=true)∨(((mget dm ((v:Nat):Int)).getD false)=true)))),(9,.int .i64 ((v:Nat):Int)),(7,.slice p (out.length) c),(42,.int .i64 ((v:Nat):Int)),(41,.int .i64 ((nv:Nat):Int)),(8,.map (some b11)),(4,.map (some b4)),(2,.slice none 0 0)]) (fun x=>[mapA b11 (fun z:Int=> .int .i64 z) (fun z:Bool=> .bool z) (InK .i64) dm,rowA 50 (rS (rI .i64)) p c out,mapA b4 (fun z:Int=> .int .i64 z) (fun z:Int=> .int .i64 z) (InK .i64) (Ms.nextM F),boxA b1 25 [.slice pv nv cv,.slice pf nf cf]]) (fun x=>[slF (rI2 .i64) p22 c23 (Ms.all F),slF (rI3 .i64) pv cv V,slF (rI3 .i64) pf cf F]) ?_ ?_
   ·
    refine za<|r_pv rfl rfl (zb rfl)<|r_pv rfl rfl (zhb rfl)<|zuc rfl rfl (zb rfl) (fun h14=> ?_) (fun h14=> ?_)
    ·
     refine zi rfl rfl<|zi rfl rfl<|zi rfl rfl<|r_pv rfl rfl (zH rfl rfl)<|zg ?_
     exact zja () (show True from by first|trivial|omega|simp_all) ((.e rfl (congrArg Value.bool (by first|(simp_all;done)|(simp_all;omega)|(simp;omega)|omega)) (.of rfl)):SubM _ _) (ho:=((.of [0,0,0,0] rfl):PickO _ _ _)) ((.of [0,1,2] rfl):SelR _ _ _)
    ·
     refine r_pv rfl rfl (zb rfl)<|r_pv rfl rfl (zb rfl)<|r_u rfl rfl (zoa (z:=false) (a0:=((v:Nat):Int)) (v:= .bool ((mget dm ((v:Nat):Int)).getD false)) 0 rfl ky3 Try.underlying94 zr4 rfl rfl (zl.2 (by omega)) rfl)<|r_pv rfl rfl (zH rfl rfl)<|zg ?_
     exact zja () (show True from by first|trivial|omega|simp_all) ((.e rfl (congrArg Value.bool (by first|(simp_all;done)|(simp_all;omega)|(simp;omega)|omega)) (.of rfl)):SubM _ _) (ho:=((.of [0,0,0,0] rfl):PickO _ _ _)) ((.of [0,1,2] rfl):SelR _ _ _)
   ·
    rintro ⟨⟩ -
    try dsimp only
    refine zD rfl (fun hsk=> ?_) (fun hsk=> ?_)
    ·
     refine zX<|zj<|zp<|zc<|za<|r_pv rfl rfl (zC (z:=(((v+1):Nat):Int)) rfl rfl (w64 (by omega)))<|r_pv rfl rfl (zb rfl)<|zg<|zba ((v+1),dm,K,p,c,out) (show (v+1)≤nv∧Ms.Marks dm K∧Ms.LInv (fun jj=>mget (Ms.nextM F) jj) nv (v+1) K out from by exact ⟨by omega,hM,hL.skip (hsk.imp id hM.yes)⟩) (by show nv - (v+1)<nv - v;omega) ((.of rfl):SubM _ _) (ho:=((.of [0,0,0,0] rfl):PickO _ _ _)) ((.of [0,1,2] rfl):SelR _ _ _)
    ·
     refine zu<|zc<|ze<|za<|zEa rfl rfl (zP (rI .i64) Try.underlying50 inf3) (fun b15 _=> ?_)
     refine r_pv rfl rfl (zd rfl)<|zg<|zc<|ze<|ze<|za<|r_pv rfl rfl (zb rfl)<|r_pv rfl rfl (zd rfl)<|zg<|zc<|zq<|zha (X:=(List (Int×Bool))×(Option Addr)×Nat×(List Int)×Int) (fun x:(List (Int×Bool))×(Option Addr)×Nat×(List Int)×Int=>Ms.Marks x.1 (K++x.2.2.2.1)∧Ms.WInv (fun jj=>mget (Ms.nextM F) jj) nv K (v:Int) x.2.2.2.1 x.2.2.2.2) (fun x=>[(13,.int .i64 (x.2.2.2.2)),(12,.slice (x.2.1) (x.2.2.2.1.length) (x.2.2.1)),(7,.slice p (out.length) c),(42,.int .i64 ((v:Nat):Int)),(41,.int .i64 ((nv:Nat):Int)),(8,.map (some b11)),(4,.map (some b4)),(2,.slice none 0 0)]) (fun x=>[rowA 3 (rI .i64) (x.2.1) (x.2.2.1) (x.2.2.2.1),mapA b11 (fun z:Int=> .int .i64 z) (fun z:Bool=> .bool z) (InK .i64) (x.1),rowA 50 (rS (rI .i64)) p c out,mapA b4 (fun z:Int=> .int .i64 z) (fun z:Int=> .int .i64 z) (InK .i64) (Ms.nextM F),boxA b1 25 [.slice pv nv cv,.slice pf nf cf]]) (fun x=>[slF (rI2 .i64) p22 c23 (Ms.all F),slF (rI3 .i64) pv cv V,slF (rI3 .i64) pf cf F]) (fun x:(List (Int×Bool))×(Option Addr)×Nat×(List Int)×Int=>nv - (K++x.2.2.2.1).length) (dm,some ⟨b15,0,none⟩,0,([]:List Int),((v:Nat):Int)) (show Ms.Marks dm (K++([]:List Int))∧Ms.WInv (fun jj=>mget (Ms.nextM F) jj) nv K (v:Int) ([]:List Int) ((v:Nat):Int) from by exact ⟨by simpa using hM,Ms.WInv.start hL.rng hL.nodup (by omega)⟩) ((.c rfl (.e rfl (by first|rfl|(congr 1;omega)|simp_all) (.of rfl))):SubM _ _) (ho:=((.e (i:=0) rfl (by first|rfl|(congr 1;omega)|simp_all) (.of [0,0,0,0] rfl)):PickO _ _ _)) ((.of [0,1,2] rfl):SelR _ _ _) ?_
     rintro ⟨dm2,p2,c2,W,a⟩ hJ
     replace hJ:Ms.Marks dm2 (K++W)∧Ms.WInv (fun jj=>mget (Ms.nextM F) jj) nv K (v:Int) W a:=hJ
     try dsimp only
     obtain ⟨hM2,hW⟩:=hJ
     have hWl:=hW.len
     have hWl2:=hWl
     rw [List.length_append] at hWl
     have ha:=hW.at_
     refine ze<|ze<|za<|r_pv rfl rfl (zb rfl)<|r_pv rfl rfl (zb rfl)<|r_u rfl rfl (zoa (z:=false) (a0:=a) (v:= .bool ((mget dm2 a).getD false)) 1 rfl ky3 Try.underlying94 zr4 rfl rfl (zl.2 (by omega)) rfl)<|r_pv rfl rfl (zhb rfl)<|zg<|zc<|zAa rfl (fun hst=> ?_) (fun hst=> ?_)
     ·
      have hst2:(mget dm2 a).getD false=false:=by simpa using hst
      have hnx:=hB.rng hg (a:=a) (by omega)
      rw [hnv] at hnx
      refine zu<|zc<|ze<|zq<|ze<|za<|r_pv rfl rfl (zb rfl)<|r_pv rfl rfl (zb rfl)<|zBa 1 rfl rfl rfl (zga (a0:=a) (v:=true) ky3 Try.underlying94 rfl rfl rfl (zl.2 (by omega))) (fun _=>(.s .z)) (fun _ _=> ?_)
      refine zg<|zc<|za<|r_pv rfl rfl (zb rfl)<|r_pv rfl rfl (zb rfl)<|zEa rfl rfl (zz (enc:=fun z:Int=>[.int .i64 z]) (ok:=InK .i64) (h1:=fun _=>rfl) (h2:=fun _=>rfl) (k:=1) Try.underlying50 inf3 rfl (by decide) (by decide) (by decide) (.c (x:=a) rfl rfl (fun _ _=>by exact zl.2 (by omega)) .n)) (fun b16 _=> ?_)
      refine zxa 0 rfl .z<|zBa 1 rfl rfl rfl (zW 0 rfl Try.underlying50 inf3 (by decide) rfl rfl (by first|rfl|assumption|(simp;done)|omega) rfl (by first|rfl|assumption|(simp;done)|omega) (by omega) (by omega)) (fun _=>(.s .z)) ?_
      rintro ⟨p17,c18⟩ -
      dsimp only [List.append_eq,List.nil_append,List.cons_append]
      refine r_pv rfl rfl (zd rfl)<|zg<|zA<|zc<|za<|r_pv rfl rfl (zb rfl)<|r_pv rfl rfl (zb rfl)<|r_u rfl rfl (zoa (z:=0) (a0:=a) (v:= .int .i64 ((mget (Ms.nextM F) a).getD 0)) 4 rfl ky3 Try.underlying76 zr3 rfl rfl (zl.2 (by omega)) rfl)<|r_pv rfl rfl (zd rfl)<|zg<|zba (mput dm2 a true,p17,c18,(W++[a]),((mget (Ms.nextM F) a).getD 0)) (show Ms.Marks (mput dm2 a true) (K++(W++[a]))∧Ms.WInv (fun jj=>mget (Ms.nextM F) jj) nv K (v:Int) (W++[a]) ((mget (Ms.nextM F) a).getD 0) from by exact ⟨by rw [← List.append_assoc];exact hM2.step (hM2.no hst2),hW.step (hM2.no hst2) hnx⟩) (by have:=(hW.step (hM2.no hst2) hnx).len;simp only [List.length_append,List.length_cons,List.length_nil] at *;omega) ((.c rfl (.e rfl (by simp) (.of rfl))):SubM _ _) (ho:=((.e (i:=1) rfl (by first|rfl|(congr 1;omega)|simp_all) (.of [1,1,1,1] rfl)):PickO _ _ _)) ((.of [1,2,3] rfl):SelR _ _ _)
     ·
      have hst3:(mget dm2 a).getD false=true:=by simpa using hst
      refine zX<|zj<|zj<|zp<|zc<|za<|r_pv rfl rfl (zb rfl)<|r_pv rfl rfl (zb rfl)<|zxa 0 rfl .z<|zEa rfl rfl (zBc 0 rfl Try.underlying37 inf50 rfl (by first|rfl|assumption|(simp;done)|omega)) (fun b19 _=> ?_)
      refine zxa 0 rfl .z<|zBa 3 rfl rfl rfl (zW 0 rfl Try.underlying37 inf50 (by decide) rfl rfl (by first|rfl|assumption|(simp;done)|omega) rfl (by first|rfl|assumption|(simp;done)|omega) (by omega) (by omega)) (fun _=>(.s (.s (.s .z)))) ?_
      rintro ⟨p20,c21⟩ -
      dsimp only [List.append_eq,List.nil_append,List.cons_append]
      refine r_pv rfl rfl (zd rfl)<|zg<|zA<|zc<|za<|r_pv rfl rfl (zC (z:=(((v+1):Nat):Int)) rfl rfl (w64 (by omega)))<|r_pv rfl rfl (zb rfl)<|zg<|zba ((v+1),dm2,K++W,p20,c21,(out++[W])) (show (v+1)≤nv∧Ms.Marks dm2 (K++W)∧Ms.LInv (fun jj=>mget (Ms.nextM F) jj) nv (v+1) (K++W) (out++[W]) from by exact ⟨by omega,hM2,hL.step (fun h=>hsk (h.imp id (fun hk=>by rw [hM.get];simpa using hk))) hW (hM2.yes hst3)⟩) (by show nv - (v+1)<nv - v;omega) ((.e rfl (by simp) (.of rfl)):SubM _ _) (ho:=((.c (i:=2) rfl (.e (i:=2) rfl (by first|rfl|(congr 1;omega)|simp_all) (.of [2,2] rfl))):PickO _ _ _)) ((.of [2,3,4] rfl):SelR _ _ _)
  ·
   refine zX<|zj<|zj<|zp<|zc<|ze<|za<|r_pv rfl rfl (zb rfl)<|r_pv rfl rfl (zd rfl)<|zg<|zc<|zK ?_
   have hvn:v=nv:=by omega
   subst hvn
   have hfin:=hL.fin
   refine zKa 1 rfl (.s .z) ?_
   exact zB Try.results17 (p,c) trivial (zx rfl) (by rw [hfin]) (ho:=(.n:PickO _ _ _)) ((.e (j:=0) rfl (by rw [hfin]) .n):SelR _ _ _)
end Go.Proofs.Ytalfgjpbbongcaa.Sp
namespace Go.Proofs.Ytalfgjpbbongcaa.Sp
open Go
set_option linter.unusedVariables false
set_option maxRecDepth 100000
set_option maxHeartbeats 8000000
theorem zSd {pv:Option Addr} {nv:Nat} {cv:Nat} {V:List (Int×Int×Int)} {pf:Option Addr} {nf:Nat} {cf:Nat} {F:List (Int×Int×Int)} (hnv:V.length=nv) (hnf:F.length=nf) (hg:Ms.Good V F):Con Try.prog 66 [.agg #[.slice pv nv cv,.slice pf nf cf]] [] [slF (rI3 .i64) pv cv V,slF (rI3 .i64) pf cf F] (Y:=Nat×(List ((Int×Int)×Tri))) (fun y=>Raw y.2 (Ms.sides F)) (fun y=> .map (some y.1)) (fun y=>[mapA y.1 (fun z:Int×Int=> .agg #[.int .i64 z.1,.int .i64 z.2]) (fun z:Option Addr×Nat×Nat=> .slice z.1 z.2.1 z.2.2) (fun z=>InK .i64 z.1∧InK .i64 z.2) (y.2)]) (fun y=>[rawF (rI .i64) (y.2) (Ms.sides F)]):=by
 refine zy Try.func66 rfl rfl rfl (fun c=> ?_)
 show RunC _ _ _ _ _ [(0,.agg #[.slice pv nv cv,.slice pf nf cf])] [] [slF (rI3 .i64) pv cv V,slF (rI3 .i64) pf cf F]
 refine zda 0 rfl (fun hL0=> ?_)
 refine zda 1 rfl (fun hL1=> ?_)
 have hnv5:nv≤512:=by have:=hg.nv;omega
 have hnf5:nf≤1024:=by have:=hg.nf;omega
 refine ze<|za<|zV rfl rfl (zla rfl rfl) (fun b1=> ?_)
 refine r_pv rfl rfl (zd rfl)<|zg<|zc<|ze<|za<|zEa rfl rfl (zGa (κ:=Int×Int) (ν:=Option Addr×Nat×Nat) (fun z:Int×Int=> .agg #[.int .i64 z.1,.int .i64 z.2]) (fun z:Option Addr×Nat×Nat=> .slice z.1 z.2.1 z.2.2) (fun z=>InK .i64 z.1∧InK .i64 z.2)) (fun b2 _=> ?_)
 refine r_pv rfl rfl (zd rfl)<|zg<|zc<|ze<|ze<|zMb (fun w mm=>mm.mrNew 3 (rI .i64))<|za<|r_pv rfl rfl (zn Try.underlying25 rfl sz23 rfl rfl)<|r_u rfl rfl (zf 1 ty23 rfl rfl rfl)<|r_pv rfl rfl (zJ Try.underlying23 rfl)<|r_pv rfl rfl (zb rfl)<|zg<|zc<|zq<|zha (X:=Nat) (fun x:Nat=>x≤nf) (fun x=>[(12,.int .i64 ((x:Nat):Int)),(11,.int .i64 ((nf:Nat):Int)),(10,.slice pf nf cf),(3,.map (some b2)),(2,.map none)]) (fun x=>[mrA b2 (fun z:Int×Int=> .agg #[.int .i64 z.1,.int .i64 z.2]) (fun z=>InK .i64 z.1∧InK .i64 z.2) 3 (rI .i64) (Ms.sides (F.take x)),boxA b1 25 [.slice pv nv cv,.slice pf nf cf]]) (fun x=>[slF (rI3 .i64) pv cv V,slF (rI3 .i64) pf cf F]) (fun x:Nat=>nf - x) 0 (show 0≤nf from by exact Nat.zero_le _) ((.e rfl (by first|rfl|(congr 1;omega)|simp_all) (.of rfl)):SubM _ _) (ho:=((.e (i:=0) rfl (by rfl) (.c (i:=0) rfl .n)):PickO _ _ _)) ((.of [0,1] rfl):SelR _ _ _) ?_
 rintro i hI
 replace hI:i≤nf:=hI
 try dsimp only
 refine ze<|za<|r_pv rfl rfl (zE rfl rfl)<|zg<|zc<|ze<|zD rfl (fun h3=> ?_) (fun h3=> ?_)
 ·
  have hat:=hg.at (show i<F.length by omega)
  have hsl0:=Ms.sides_len (F.take i)
  rw [List.length_take] at hsl0
  refine zu<|zc<|ze<|zq<|ze<|za<|r_pv rfl rfl (zb rfl)<|zI (x0:=(F.getD i (0,0,0))) 1 i rfl Try.underlying23 sz44 rfl rfl rfl (by first|rfl|assumption|(simp;done)|omega) rfl rfl (gD (d:=(0,0,0)) (by omega)) (fun b4 o5 hok6=> ?_)
  obtain ⟨hok6x,hok6y,hok6z⟩:=hok6
  replace hok6x:=zl.1 hok6x
  replace hok6y:=zl.1 hok6y
  replace hok6z:=zl.1 hok6z
  refine r_u rfl rfl (zG (j:=0) 0 ty44 rfl rfl rfl (.take (.take (.take .nil))))<|zV rfl rfl (zr zr44 rfl) (fun b7=> ?_)
  refine r_pv rfl rfl (zd rfl)<|zv 0 rfl rfl rfl rfl rfl sz44 rfl (.take (.take (.take .nil))) .z<|zg<|zc<|ze<|za<|r_u rfl rfl (zh 0 ty44 rfl rfl (.take (.take (.take .nil))))<|zea rfl rfl (.c rfl .n) ce47 (zSb (ex:=(F.getD i (0,0,0)).1) (ey:=(F.getD i (0,0,0)).2.1) (ez:=(F.getD i (0,0,0)).2.2)) (.n)<|r_pv rfl rfl (zb rfl)<|zg<|zc<|zq<|zbb<|zaa<|ze<|za<|r_pv rfl rfl (zE rfl rfl)<|zg<|zc<|ze<|zZ rfl rfl<|zu<|zc<|ze<|zq<|ze<|za<|r_pv rfl rfl (zta (i:=0) Try.underlying74 ty73 rfl rfl (by decide) (.take (.take .nil)))<|zV rfl rfl (zr zr73 rfl) (fun b8=> ?_)
  refine zv 0 rfl rfl rfl rfl rfl sz73 rfl (.take (.take .nil)) .z<|zg<|zc<|zXc (fun w mm=>mm.mrOpen 2 ((min ((F.getD i (0,0,0)).1) ((F.getD i (0,0,0)).2.1)),(max ((F.getD i (0,0,0)).1) ((F.getD i (0,0,0)).2.1))) rfl) ?_
  rintro ⟨raw0,pz0,cz0⟩ ⟨hraw0,hgt0⟩
  dsimp only [List.eraseIdx] at hgt0 ⊢
  obtain ⟨lz0,hlz0⟩:∃z,z=(mget (Ms.sides (F.take i)) ((min ((F.getD i (0,0,0)).1) ((F.getD i (0,0,0)).2.1)),(max ((F.getD i (0,0,0)).1) ((F.getD i (0,0,0)).2.1)))).getD []:=⟨_,rfl⟩
  rw [← hlz0] at hgt0 ⊢
  have hlb0:lz0.length≤4000:=by have h9:=hsl0 ((min ((F.getD i (0,0,0)).1) ((F.getD i (0,0,0)).2.1)),(max ((F.getD i (0,0,0)).1) ((F.getD i (0,0,0)).2.1)));rw [← hlz0] at h9;omega
  refine zTa (.c (i:=1) rfl (.c (i:=0) rfl (.c (i:=0) rfl (.c (i:=0) rfl (.c (i:=0) rfl (.c (i:=0) rfl .n))))))<|zva (OW:=[rowA 3 (rI .i64) pz0 cz0 lz0,mapA b2 (fun z:Int×Int=> .agg #[.int .i64 z.1,.int .i64 z.2]) (fun z:Option Addr×Nat×Nat=> .slice z.1 z.2.1 z.2.2) (fun z=>InK .i64 z.1∧InK .i64 z.2) raw0]) (O:=[allA (mrest 3 (rI .i64) ((min ((F.getD i (0,0,0)).1) ((F.getD i (0,0,0)).2.1)),(max ((F.getD i (0,0,0)).1) ((F.getD i (0,0,0)).2.1))) raw0 (Ms.sides (F.take i))),boxA b8 73 [.int .i64 ((F.getD i (0,0,0)).1),.int .i64 ((F.getD i (0,0,0)).2.1)],boxA b7 44 [.int .i64 ((F.getD i (0,0,0)).1),.int .i64 ((F.getD i (0,0,0)).2.1),.int .i64 ((F.getD i (0,0,0)).2.2)],boxA b1 25 [.slice pv nv cv,.slice pf nf cf]]) 9 mixed (.block (.then (.then (.block (.block (.then (.then (.block (.then .ret))))))))) (by kernel_rfl)<|d_pv 0 rfl rfl (by kernel_rfl) (by kernel_rfl) rfl rfl (zb rfl)<|d_uw 1 rfl rfl (by kernel_rfl) (by kernel_rfl) (by kernel_rfl) rfl rfl (zh 3 ty73 rfl rfl (.take (.take .nil)))<|d_pv 3 rfl rfl (by kernel_rfl) (by kernel_rfl) rfl rfl (zb rfl)<|d_uw 4 rfl rfl (by kernel_rfl) (by kernel_rfl) (by kernel_rfl) rfl rfl (zh 3 ty73 rfl rfl (.take (.take .nil)))<|d_pv 7 rfl rfl (by kernel_rfl) (by kernel_rfl) rfl rfl (zb rfl)<|zPb (m':=[(29,.int .i64 ((i:Nat):Int)),(26,.agg #[.int .i64 ((F.getD i (0,0,0)).1),.int .i64 ((F.getD i (0,0,0)).2.1)]),(25,.map (some b2)),(23,.agg #[.int .i64 ((F.getD i (0,0,0)).1),.int .i64 ((F.getD i (0,0,0)).2.1)]),(22,.map (some b2)),(7,.pointer (some ⟨b8,0,none⟩)),(21,.agg #[.int .i64 ((F.getD i (0,0,0)).1),.int .i64 ((F.getD i (0,0,0)).2.1)]),(20,.bool true),(19,.int .i64 0),(18,.agg #[.int .i64 ((F.getD i (0,0,0)).1),.int .i64 ((F.getD i (0,0,0)).2.1),.int .i64 ((F.getD i (0,0,0)).2.1),.int .i64 ((F.getD i (0,0,0)).2.2),.int .i64 ((F.getD i (0,0,0)).2.2),.int .i64 ((F.getD i (0,0,0)).1)]),(4,.int .i64 ((i:Nat):Int)),(12,.int .i64 ((i:Nat):Int)),(11,.int .i64 ((nf:Nat):Int)),(10,.slice pf nf cf),(3,.map (some b2)),(2,.map none)]) (R':=[slF (rI3 .i64) pv cv V,slF (rI3 .i64) pf cf F]) ((.of rfl):SubM _ _) (List.Perm.refl _) (List.Perm.refl _) ((.of [1,2] rfl):SelR _ _ _)<|zQ (X:=Nat×Option Addr×Nat) (k':=0) (L':=(lb 11 2047)) (fun (u8_1,u9_1,u9_2)=>([(31,.slice u9_1 (lz0.length+1) u9_2),(30,.slice (some ⟨u8_1,0,none⟩) 1 1),(28,.slice pz0 (lz0.length) cz0),(27,.agg #[.int .i64 (min ((F.getD i (0,0,0)).1) ((F.getD i (0,0,0)).2.1)),.int .i64 (max ((F.getD i (0,0,0)).1) ((F.getD i (0,0,0)).2.1))]),(24,.agg #[.int .i64 (min ((F.getD i (0,0,0)).1) ((F.getD i (0,0,0)).2.1)),.int .i64 (max ((F.getD i (0,0,0)).1) ((F.getD i (0,0,0)).2.1))]),(29,.int .i64 ((i:Nat):Int)),(26,.agg #[.int .i64 ((F.getD i (0,0,0)).1),.int .i64 ((F.getD i (0,0,0)).2.1)]),(25,.map (some b2)),(23,.agg #[.int .i64 ((F.getD i (0,0,0)).1),.int .i64 ((F.getD i (0,0,0)).2.1)]),(22,.map (some b2)),(7,.pointer (some ⟨b8,0,none⟩)),(21,.agg #[.int .i64 ((F.getD i (0,0,0)).1),.int .i64 ((F.getD i (0,0,0)).2.1)]),(20,.bool true),(19,.int .i64 0),(18,.agg #[.int .i64 ((F.getD i (0,0,0)).1),.int .i64 ((F.getD i (0,0,0)).2.1),.int .i64 ((F.getD i (0,0,0)).2.1),.int .i64 ((F.getD i (0,0,0)).2.2),.int .i64 ((F.getD i (0,0,0)).2.2),.int .i64 ((F.getD i (0,0,0)).1)]),(4,.int .i64 ((i:Nat):Int)),(12,.int .i64 ((i:Nat):Int)),(11,.int .i64 ((nf:Nat):Int)),(10,.slice pf nf cf),(3,.map (some b2)),(2,.map none)],[mapA b2 (fun z:Int×Int=> .agg #[.int .i64 z.1,.int .i64 z.2]) (fun z:Option Addr×Nat×Nat=> .slice z.1 z.2.1 z.2.2) (fun z=>InK .i64 z.1∧InK .i64 z.2) (mput raw0 ((min ((F.getD i (0,0,0)).1) ((F.getD i (0,0,0)).2.1)),(max ((F.getD i (0,0,0)).1) ((F.getD i (0,0,0)).2.1))) (u9_1,lz0.length+1,u9_2)),rowA 3 (rI .i64) u9_1 u9_2 (lz0++([((i:Nat):Int)]))],[emA,allA (mrest 3 (rI .i64) ((min ((F.getD i (0,0,0)).1) ((F.getD i (0,0,0)).2.1)),(max ((F.getD i (0,0,0)).1) ((F.getD i (0,0,0)).2.1))) raw0 (Ms.sides (F.take i))),boxA b8 73 [.int .i64 ((F.getD i (0,0,0)).1),.int .i64 ((F.getD i (0,0,0)).2.1)],boxA b7 44 [.int .i64 ((F.getD i (0,0,0)).1),.int .i64 ((F.getD i (0,0,0)).2.1),.int .i64 ((F.getD i (0,0,0)).2.2)],boxA b1 25 [.slice pv nv cv,.slice pf nf cf]],[slF (rI .i64) (some ⟨u8_1,0,none⟩) 1 ([((i:Nat):Int)]),slF (rI3 .i64) pv cv V,slF (rI3 .i64) pf cf F])) ?_ (fun hD0=> ?_)
  ·
   rintro ⟨u8_1,u9_1,u9_2⟩
   dsimp only
   refine zwa (by kernel_rfl)<|zA<|zc<|zMb (fun w mm=>(mm.perm (zN 0 rfl (zN 0 rfl (zN 1 rfl (List.Perm.refl _))))).mrClose (xs:=(lz0++([((i:Nat):Int)]))) ((min ((F.getD i (0,0,0)).1) ((F.getD i (0,0,0)).2.1)),(max ((F.getD i (0,0,0)).1) ((F.getD i (0,0,0)).2.1))) hraw0 (by simp)) ?_
   try dsimp only [List.eraseIdx]
   obtain ⟨Mq0,hMq0⟩:∃z,z=Ms.sideS (Ms.sides (F.take i)) (Ms.pl (((F.getD i (0,0,0)).1),((F.getD i (0,0,0)).2.1)),((i:Nat):Int)):=⟨_,rfl⟩
   rw [show mput (Ms.sides (F.take i)) ((min ((F.getD i (0,0,0)).1) ((F.getD i (0,0,0)).2.1)),(max ((F.getD i (0,0,0)).1) ((F.getD i (0,0,0)).2.1))) (lz0++([((i:Nat):Int)]))=Mq0 by rw [hMq0,hlz0];rfl]
   have hsl1:=Ms.sideS_len hsl0 (Ms.pl (((F.getD i (0,0,0)).1),((F.getD i (0,0,0)).2.1)),((i:Nat):Int))
   rw [← hMq0] at hsl1
   refine za<|r_pv rfl rfl (zC (z:=1) rfl rfl (w64 (by decide)))<|r_pv rfl rfl (zb rfl)<|zg<|zna<|zaa<|ze<|za<|r_pv rfl rfl (zE rfl rfl)<|zg<|zc<|ze<|zZ rfl rfl<|zu<|zc<|ze<|zq<|ze<|za<|r_pv rfl rfl (zta (i:=1) Try.underlying74 ty73 rfl rfl (by decide) (.skip (.skip (.take (.take .nil)))))<|zV rfl rfl (zr zr73 rfl) (fun b9=> ?_)
   refine zv 0 rfl rfl rfl rfl rfl sz73 rfl (.take (.take .nil)) .z<|zg<|zc<|zXc (fun w mm=>mm.mrOpen 1 ((min ((F.getD i (0,0,0)).2.1) ((F.getD i (0,0,0)).2.2)),(max ((F.getD i (0,0,0)).2.1) ((F.getD i (0,0,0)).2.2))) rfl) ?_
   rintro ⟨raw1,pz1,cz1⟩ ⟨hraw1,hgt1⟩
   dsimp only [List.eraseIdx] at hgt1 ⊢
   obtain ⟨lz1,hlz1⟩:∃z,z=(mget Mq0 ((min ((F.getD i (0,0,0)).2.1) ((F.getD i (0,0,0)).2.2)),(max ((F.getD i (0,0,0)).2.1) ((F.getD i (0,0,0)).2.2)))).getD []:=⟨_,rfl⟩
   rw [← hlz1] at hgt1 ⊢
   have hlb1:lz1.length≤4000:=by have h9:=hsl1 ((min ((F.getD i (0,0,0)).2.1) ((F.getD i (0,0,0)).2.2)),(max ((F.getD i (0,0,0)).2.1) ((F.getD i (0,0,0)).2.2)));rw [← hlz1] at h9;omega
   refine zTa (.c (i:=1) rfl (.c (i:=0) rfl (.c (i:=0) rfl (.c (i:=0) rfl (.c (i:=0) rfl (.c (i:=0) rfl (.c (i:=0) rfl (.c (i:=0) rfl .n))))))))<|zva (OW:=[rowA 3 (rI .i64) pz1 cz1 lz1,mapA b2 (fun z:Int×Int=> .agg #[.int .i64 z.1,.int .i64 z.2]) (fun z:Option Addr×Nat×Nat=> .slice z.1 z.2.1 z.2.2) (fun z=>InK .i64 z.1∧InK .i64 z.2) raw1]) (O:=[allA (mrest 3 (rI .i64) ((min ((F.getD i (0,0,0)).2.1) ((F.getD i (0,0,0)).2.2)),(max ((F.getD i (0,0,0)).2.1) ((F.getD i (0,0,0)).2.2))) raw1 Mq0),boxA b9 73 [.int .i64 ((F.getD i (0,0,0)).2.1),.int .i64 ((F.getD i (0,0,0)).2.2)],emA,boxA b8 73 [.int .i64 ((F.getD i (0,0,0)).1),.int .i64 ((F.getD i (0,0,0)).2.1)],boxA b7 44 [.int .i64 ((F.getD i (0,0,0)).1),.int .i64 ((F.getD i (0,0,0)).2.1),.int .i64 ((F.getD i (0,0,0)).2.2)],boxA b1 25 [.slice pv nv cv,.slice pf nf cf]]) 9 mixed (.block (.then (.then (.block (.block (.then (.then (.block (.then .ret))))))))) (by kernel_rfl)<|d_pv 0 rfl rfl (by kernel_rfl) (by kernel_rfl) rfl rfl (zb rfl)<|d_uw 1 rfl rfl (by kernel_rfl) (by kernel_rfl) (by kernel_rfl) rfl rfl (zh 3 ty73 rfl rfl (.take (.take .nil)))<|d_pv 3 rfl rfl (by kernel_rfl) (by kernel_rfl) rfl rfl (zb rfl)<|d_uw 4 rfl rfl (by kernel_rfl) (by kernel_rfl) (by kernel_rfl) rfl rfl (zh 3 ty73 rfl rfl (.take (.take .nil)))<|d_pv 7 rfl rfl (by kernel_rfl) (by kernel_rfl) rfl rfl (zb rfl)<|zPb (m':=[(29,.int .i64 ((i:Nat):Int)),(26,.agg #[.int .i64 ((F.getD i (0,0,0)).2.1),.int .i64 ((F.getD i (0,0,0)).2.2)]),(25,.map (some b2)),(23,.agg #[.int .i64 ((F.getD i (0,0,0)).2.1),.int .i64 ((F.getD i (0,0,0)).2.2)]),(22,.map (some b2)),(7,.pointer (some ⟨b9,0,none⟩)),(21,.agg #[.int .i64 ((F.getD i (0,0,0)).2.1),.int .i64 ((F.getD i (0,0,0)).2.2)]),(20,.bool true),(19,.int .i64 1),(32,.int .i64 1),(31,.slice u9_1 (lz0.length+1) u9_2),(30,.slice (some ⟨u8_1,0,none⟩) 1 1),(28,.slice pz0 (lz0.length) cz0),(27,.agg #[.int .i64 (min ((F.getD i (0,0,0)).1) ((F.getD i (0,0,0)).2.1)),.int .i64 (max ((F.getD i (0,0,0)).1) ((F.getD i (0,0,0)).2.1))]),(24,.agg #[.int .i64 (min ((F.getD i (0,0,0)).1) ((F.getD i (0,0,0)).2.1)),.int .i64 (max ((F.getD i (0,0,0)).1) ((F.getD i (0,0,0)).2.1))]),(18,.agg #[.int .i64 ((F.getD i (0,0,0)).1),.int .i64 ((F.getD i (0,0,0)).2.1),.int .i64 ((F.getD i (0,0,0)).2.1),.int .i64 ((F.getD i (0,0,0)).2.2),.int .i64 ((F.getD i (0,0,0)).2.2),.int .i64 ((F.getD i (0,0,0)).1)]),(4,.int .i64 ((i:Nat):Int)),(12,.int .i64 ((i:Nat):Int)),(11,.int .i64 ((nf:Nat):Int)),(10,.slice pf nf cf),(3,.map (some b2)),(2,.map none)]) (R':=[slF (rI .i64) (some ⟨u8_1,0,none⟩) 1 ([((i:Nat):Int)]),slF (rI3 .i64) pv cv V,slF (rI3 .i64) pf cf F]) ((.of rfl):SubM _ _) (List.Perm.refl _) (List.Perm.refl _) ((.of [0,1,2] rfl):SelR _ _ _) ?_
   obtain ⟨qd1,hqd1⟩:∃z:Int,z=(min ((F.getD i (0,0,0)).1) ((F.getD i (0,0,0)).2.1)):=⟨_,rfl⟩
   rw [← hqd1]
   obtain ⟨qd2,hqd2⟩:∃z:Int,z=(max ((F.getD i (0,0,0)).1) ((F.getD i (0,0,0)).2.1)):=⟨_,rfl⟩
   rw [← hqd2]
   refine zQ (X:=Nat×Option Addr×Nat) (k':=0) (L':=(lb 11 2047)) (fun (u8_1r2,u9_1r2,u9_2r2)=>([(31,.slice u9_1r2 (lz1.length+1) u9_2r2),(30,.slice (some ⟨u8_1r2,0,none⟩) 1 1),(28,.slice pz1 (lz1.length) cz1),(27,.agg #[.int .i64 (min ((F.getD i (0,0,0)).2.1) ((F.getD i (0,0,0)).2.2)),.int .i64 (max ((F.getD i (0,0,0)).2.1) ((F.getD i (0,0,0)).2.2))]),(24,.agg #[.int .i64 (min ((F.getD i (0,0,0)).2.1) ((F.getD i (0,0,0)).2.2)),.int .i64 (max ((F.getD i (0,0,0)).2.1) ((F.getD i (0,0,0)).2.2))]),(29,.int .i64 ((i:Nat):Int)),(26,.agg #[.int .i64 ((F.getD i (0,0,0)).2.1),.int .i64 ((F.getD i (0,0,0)).2.2)]),(25,.map (some b2)),(23,.agg #[.int .i64 ((F.getD i (0,0,0)).2.1),.int .i64 ((F.getD i (0,0,0)).2.2)]),(22,.map (some b2)),(7,.pointer (some ⟨b9,0,none⟩)),(21,.agg #[.int .i64 ((F.getD i (0,0,0)).2.1),.int .i64 ((F.getD i (0,0,0)).2.2)]),(20,.bool true),(19,.int .i64 1),(32,.int .i64 1),(18,.agg #[.int .i64 ((F.getD i (0,0,0)).1),.int .i64 ((F.getD i (0,0,0)).2.1),.int .i64 ((F.getD i (0,0,0)).2.1),.int .i64 ((F.getD i (0,0,0)).2.2),.int .i64 ((F.getD i (0,0,0)).2.2),.int .i64 ((F.getD i (0,0,0)).1)]),(4,.int .i64 ((i:Nat):Int)),(12,.int .i64 ((i:Nat):Int)),(11,.int .i64 ((nf:Nat):Int)),(10,.slice pf nf cf),(3,.map (some b2)),(2,.map none)],[mapA b2 (fun z:Int×Int=> .agg #[.int .i64 z.1,.int .i64 z.2]) (fun z:Option Addr×Nat×Nat=> .slice z.1 z.2.1 z.2.2) (fun z=>InK .i64 z.1∧InK .i64 z.2) (mput raw1 ((min ((F.getD i (0,0,0)).2.1) ((F.getD i (0,0,0)).2.2)),(max ((F.getD i (0,0,0)).2.1) ((F.getD i (0,0,0)).2.2))) (u9_1r2,lz1.length+1,u9_2r2)),rowA 3 (rI .i64) u9_1r2 u9_2r2 (lz1++([((i:Nat):Int)]))],[emA,allA (mrest 3 (rI .i64) ((min ((F.getD i (0,0,0)).2.1) ((F.getD i (0,0,0)).2.2)),(max ((F.getD i (0,0,0)).2.1) ((F.getD i (0,0,0)).2.2))) raw1 Mq0),boxA b9 73 [.int .i64 ((F.getD i (0,0,0)).2.1),.int .i64 ((F.getD i (0,0,0)).2.2)],emA,boxA b8 73 [.int .i64 ((F.getD i (0,0,0)).1),.int .i64 ((F.getD i (0,0,0)).2.1)],boxA b7 44 [.int .i64 ((F.getD i (0,0,0)).1),.int .i64 ((F.getD i (0,0,0)).2.1),.int .i64 ((F.getD i (0,0,0)).2.2)],boxA b1 25 [.slice pv nv cv,.slice pf nf cf]],[slF (rI .i64) (some ⟨u8_1r2,0,none⟩) 1 ([((i:Nat):Int)]),slF (rI .i64) (some ⟨u8_1,0,none⟩) 1 ([((i:Nat):Int)]),slF (rI3 .i64) pv cv V,slF (rI3 .i64) pf cf F])) ?_ (fun hD0=> ?_)
   ·
    rintro ⟨u8_1r2,u9_1r2,u9_2r2⟩
    dsimp only
    refine zwa (by kernel_rfl) ?_
    subst hqd1 hqd2
    refine zA<|zc<|zMb (fun w mm=>(mm.perm (zN 0 rfl (zN 0 rfl (zN 1 rfl (List.Perm.refl _))))).mrClose (xs:=(lz1++([((i:Nat):Int)]))) ((min ((F.getD i (0,0,0)).2.1) ((F.getD i (0,0,0)).2.2)),(max ((F.getD i (0,0,0)).2.1) ((F.getD i (0,0,0)).2.2))) hraw1 (by simp)) ?_
    try dsimp only [List.eraseIdx]
    obtain ⟨Mq1,hMq1⟩:∃z,z=Ms.sideS Mq0 (Ms.pl (((F.getD i (0,0,0)).2.1),((F.getD i (0,0,0)).2.2)),((i:Nat):Int)):=⟨_,rfl⟩
    rw [show mput Mq0 ((min ((F.getD i (0,0,0)).2.1) ((F.getD i (0,0,0)).2.2)),(max ((F.getD i (0,0,0)).2.1) ((F.getD i (0,0,0)).2.2))) (lz1++([((i:Nat):Int)]))=Mq1 by rw [hMq1,hlz1];rfl]
    have hsl2:=Ms.sideS_len hsl1 (Ms.pl (((F.getD i (0,0,0)).2.1),((F.getD i (0,0,0)).2.2)),((i:Nat):Int))
    rw [← hMq1] at hsl2
    refine za<|r_pv rfl rfl (zC (z:=2) rfl rfl (w64 (by decide)))<|r_pv rfl rfl (zb rfl)<|zg<|zna<|zaa<|ze<|za<|r_pv rfl rfl (zE rfl rfl)<|zg<|zc<|ze<|zZ rfl rfl<|zu<|zc<|ze<|zq<|ze<|za<|r_pv rfl rfl (zta (i:=2) Try.underlying74 ty73 rfl rfl (by decide) (.skip (.skip (.skip (.skip (.take (.take .nil)))))))<|zV rfl rfl (zr zr73 rfl) (fun b10=> ?_)
    refine zv 0 rfl rfl rfl rfl rfl sz73 rfl (.take (.take .nil)) .z<|zg<|zc<|zXc (fun w mm=>mm.mrOpen 1 ((min ((F.getD i (0,0,0)).2.2) ((F.getD i (0,0,0)).1)),(max ((F.getD i (0,0,0)).2.2) ((F.getD i (0,0,0)).1))) rfl) ?_
    rintro ⟨raw2,pz2,cz2⟩ ⟨hraw2,hgt2⟩
    dsimp only [List.eraseIdx] at hgt2 ⊢
    obtain ⟨lz2,hlz2⟩:∃z,z=(mget Mq1 ((min ((F.getD i (0,0,0)).2.2) ((F.getD i (0,0,0)).1)),(max ((F.getD i (0,0,0)).2.2) ((F.getD i (0,0,0)).1)))).getD []:=⟨_,rfl⟩
    rw [← hlz2] at hgt2 ⊢
    have hlb2:lz2.length≤4000:=by have h9:=hsl2 ((min ((F.getD i (0,0,0)).2.2) ((F.getD i (0,0,0)).1)),(max ((F.getD i (0,0,0)).2.2) ((F.getD i (0,0,0)).1)));rw [← hlz2] at h9;omega
    refine zTa (.c (i:=1) rfl (.c (i:=0) rfl (.c (i:=0) rfl (.c (i:=0) rfl (.c (i:=0) rfl (.c (i:=0) rfl (.c (i:=0) rfl (.c (i:=0) rfl (.c (i:=0) rfl (.c (i:=0) rfl .n))))))))))<|zva (OW:=[rowA 3 (rI .i64) pz2 cz2 lz2,mapA b2 (fun z:Int×Int=> .agg #[.int .i64 z.1,.int .i64 z.2]) (fun z:Option Addr×Nat×Nat=> .slice z.1 z.2.1 z.2.2) (fun z=>InK .i64 z.1∧InK .i64 z.2) raw2]) (O:=[allA (mrest 3 (rI .i64) ((min ((F.getD i (0,0,0)).2.2) ((F.getD i (0,0,0)).1)),(max ((F.getD i (0,0,0)).2.2) ((F.getD i (0,0,0)).1))) raw2 Mq1),boxA b10 73 [.int .i64 ((F.getD i (0,0,0)).2.2),.int .i64 ((F.getD i (0,0,0)).1)],emA,boxA b9 73 [.int .i64 ((F.getD i (0,0,0)).2.1),.int .i64 ((F.getD i (0,0,0)).2.2)],emA,boxA b8 73 [.int .i64 ((F.getD i (0,0,0)).1),.int .i64 ((F.getD i (0,0,0)).2.1)],boxA b7 44 [.int .i64 ((F.getD i (0,0,0)).1),.int .i64 ((F.getD i (0,0,0)).2.1),.int .i64 ((F.getD i (0,0,0)).2.2)],boxA b1 25 [.slice pv nv cv,.slice pf nf cf]]) 9 mixed (.block (.then (.then (.block (.block (.then (.then (.block (.then .ret))))))))) (by kernel_rfl)<|d_pv 0 rfl rfl (by kernel_rfl) (by kernel_rfl) rfl rfl (zb rfl)<|d_uw 1 rfl rfl (by kernel_rfl) (by kernel_rfl) (by kernel_rfl) rfl rfl (zh 3 ty73 rfl rfl (.take (.take .nil)))<|d_pv 3 rfl rfl (by kernel_rfl) (by kernel_rfl) rfl rfl (zb rfl)<|d_uw 4 rfl rfl (by kernel_rfl) (by kernel_rfl) (by kernel_rfl) rfl rfl (zh 3 ty73 rfl rfl (.take (.take .nil)))<|d_pv 7 rfl rfl (by kernel_rfl) (by kernel_rfl) rfl rfl (zb rfl)<|zPb (m':=[(29,.int .i64 ((i:Nat):Int)),(26,.agg #[.int .i64 ((F.getD i (0,0,0)).2.2),.int .i64 ((F.getD i (0,0,0)).1)]),(25,.map (some b2)),(23,.agg #[.int .i64 ((F.getD i (0,0,0)).2.2),.int .i64 ((F.getD i (0,0,0)).1)]),(22,.map (some b2)),(7,.pointer (some ⟨b10,0,none⟩)),(21,.agg #[.int .i64 ((F.getD i (0,0,0)).2.2),.int .i64 ((F.getD i (0,0,0)).1)]),(20,.bool true),(19,.int .i64 2),(32,.int .i64 2),(31,.slice u9_1r2 (lz1.length+1) u9_2r2),(30,.slice (some ⟨u8_1r2,0,none⟩) 1 1),(28,.slice pz1 (lz1.length) cz1),(27,.agg #[.int .i64 (min ((F.getD i (0,0,0)).2.1) ((F.getD i (0,0,0)).2.2)),.int .i64 (max ((F.getD i (0,0,0)).2.1) ((F.getD i (0,0,0)).2.2))]),(24,.agg #[.int .i64 (min ((F.getD i (0,0,0)).2.1) ((F.getD i (0,0,0)).2.2)),.int .i64 (max ((F.getD i (0,0,0)).2.1) ((F.getD i (0,0,0)).2.2))]),(18,.agg #[.int .i64 ((F.getD i (0,0,0)).1),.int .i64 ((F.getD i (0,0,0)).2.1),.int .i64 ((F.getD i (0,0,0)).2.1),.int .i64 ((F.getD i (0,0,0)).2.2),.int .i64 ((F.getD i (0,0,0)).2.2),.int .i64 ((F.getD i (0,0,0)).1)]),(4,.int .i64 ((i:Nat):Int)),(12,.int .i64 ((i:Nat):Int)),(11,.int .i64 ((nf:Nat):Int)),(10,.slice pf nf cf),(3,.map (some b2)),(2,.map none)]) (R':=[slF (rI .i64) (some ⟨u8_1r2,0,none⟩) 1 ([((i:Nat):Int)]),slF (rI .i64) (some ⟨u8_1,0,none⟩) 1 ([((i:Nat):Int)]),slF (rI3 .i64) pv cv V,slF (rI3 .i64) pf cf F]) ((.of rfl):SubM _ _) (List.Perm.refl _) (List.Perm.refl _) ((.of [0,1,2,3] rfl):SelR _ _ _) ?_
    obtain ⟨qd1,hqd1⟩:∃z:Int,z=(min ((F.getD i (0,0,0)).2.1) ((F.getD i (0,0,0)).2.2)):=⟨_,rfl⟩
    rw [← hqd1]
    obtain ⟨qd2,hqd2⟩:∃z:Int,z=(max ((F.getD i (0,0,0)).2.1) ((F.getD i (0,0,0)).2.2)):=⟨_,rfl⟩
    rw [← hqd2]
    refine zQ (X:=Nat×Option Addr×Nat) (k':=0) (L':=(lb 11 2047)) (fun (u8_1r3,u9_1r3,u9_2r3)=>([(31,.slice u9_1r3 (lz2.length+1) u9_2r3),(30,.slice (some ⟨u8_1r3,0,none⟩) 1 1),(28,.slice pz2 (lz2.length) cz2),(27,.agg #[.int .i64 (min ((F.getD i (0,0,0)).2.2) ((F.getD i (0,0,0)).1)),.int .i64 (max ((F.getD i (0,0,0)).2.2) ((F.getD i (0,0,0)).1))]),(24,.agg #[.int .i64 (min ((F.getD i (0,0,0)).2.2) ((F.getD i (0,0,0)).1)),.int .i64 (max ((F.getD i (0,0,0)).2.2) ((F.getD i (0,0,0)).1))]),(29,.int .i64 ((i:Nat):Int)),(26,.agg #[.int .i64 ((F.getD i (0,0,0)).2.2),.int .i64 ((F.getD i (0,0,0)).1)]),(25,.map (some b2)),(23,.agg #[.int .i64 ((F.getD i (0,0,0)).2.2),.int .i64 ((F.getD i (0,0,0)).1)]),(22,.map (some b2)),(7,.pointer (some ⟨b10,0,none⟩)),(21,.agg #[.int .i64 ((F.getD i (0,0,0)).2.2),.int .i64 ((F.getD i (0,0,0)).1)]),(20,.bool true),(19,.int .i64 2),(32,.int .i64 2),(18,.agg #[.int .i64 ((F.getD i (0,0,0)).1),.int .i64 ((F.getD i (0,0,0)).2.1),.int .i64 ((F.getD i (0,0,0)).2.1),.int .i64 ((F.getD i (0,0,0)).2.2),.int .i64 ((F.getD i (0,0,0)).2.2),.int .i64 ((F.getD i (0,0,0)).1)]),(4,.int .i64 ((i:Nat):Int)),(12,.int .i64 ((i:Nat):Int)),(11,.int .i64 ((nf:Nat):Int)),(10,.slice pf nf cf),(3,.map (some b2)),(2,.map none)],[mapA b2 (fun z:Int×Int=> .agg #[.int .i64 z.1,.int .i64 z.2]) (fun z:Option Addr×Nat×Nat=> .slice z.1 z.2.1 z.2.2) (fun z=>InK .i64 z.1∧InK .i64 z.2) (mput raw2 ((min ((F.getD i (0,0,0)).2.2) ((F.getD i (0,0,0)).1)),(max ((F.getD i (0,0,0)).2.2) ((F.getD i (0,0,0)).1))) (u9_1r3,lz2.length+1,u9_2r3)),rowA 3 (rI .i64) u9_1r3 u9_2r3 (lz2++([((i:Nat):Int)]))],[emA,allA (mrest 3 (rI .i64) ((min ((F.getD i (0,0,0)).2.2) ((F.getD i (0,0,0)).1)),(max ((F.getD i (0,0,0)).2.2) ((F.getD i (0,0,0)).1))) raw2 Mq1),boxA b10 73 [.int .i64 ((F.getD i (0,0,0)).2.2),.int .i64 ((F.getD i (0,0,0)).1)],emA,boxA b9 73 [.int .i64 ((F.getD i (0,0,0)).2.1),.int .i64 ((F.getD i (0,0,0)).2.2)],emA,boxA b8 73 [.int .i64 ((F.getD i (0,0,0)).1),.int .i64 ((F.getD i (0,0,0)).2.1)],boxA b7 44 [.int .i64 ((F.getD i (0,0,0)).1),.int .i64 ((F.getD i (0,0,0)).2.1),.int .i64 ((F.getD i (0,0,0)).2.2)],boxA b1 25 [.slice pv nv cv,.slice pf nf cf]],[slF (rI .i64) (some ⟨u8_1r3,0,none⟩) 1 ([((i:Nat):Int)]),slF (rI .i64) (some ⟨u8_1r2,0,none⟩) 1 ([((i:Nat):Int)]),slF (rI .i64) (some ⟨u8_1,0,none⟩) 1 ([((i:Nat):Int)]),slF (rI3 .i64) pv cv V,slF (rI3 .i64) pf cf F])) ?_ (fun hD0=> ?_)
    ·
     rintro ⟨u8_1r3,u9_1r3,u9_2r3⟩
     dsimp only
     refine zwa (by kernel_rfl) ?_
     subst hqd1 hqd2
     refine zA<|zc<|zMb (fun w mm=>(mm.perm (zN 0 rfl (zN 0 rfl (zN 1 rfl (List.Perm.refl _))))).mrClose (xs:=(lz2++([((i:Nat):Int)]))) ((min ((F.getD i (0,0,0)).2.2) ((F.getD i (0,0,0)).1)),(max ((F.getD i (0,0,0)).2.2) ((F.getD i (0,0,0)).1))) hraw2 (by simp)) ?_
     try dsimp only [List.eraseIdx]
     obtain ⟨Mq2,hMq2⟩:∃z,z=Ms.sideS Mq1 (Ms.pl (((F.getD i (0,0,0)).2.2),((F.getD i (0,0,0)).1)),((i:Nat):Int)):=⟨_,rfl⟩
     rw [show mput Mq1 ((min ((F.getD i (0,0,0)).2.2) ((F.getD i (0,0,0)).1)),(max ((F.getD i (0,0,0)).2.2) ((F.getD i (0,0,0)).1))) (lz2++([((i:Nat):Int)]))=Mq2 by rw [hMq2,hlz2];rfl]
     have hsl3:=Ms.sideS_len hsl2 (Ms.pl (((F.getD i (0,0,0)).2.2),((F.getD i (0,0,0)).1)),((i:Nat):Int))
     rw [← hMq2] at hsl3
     refine za<|r_pv rfl rfl (zC (z:=3) rfl rfl (w64 (by decide)))<|r_pv rfl rfl (zb rfl)<|zg<|zna<|zaa<|ze<|za<|r_pv rfl rfl (zE rfl rfl)<|zg<|zc<|ze<|zya rfl rfl<|zX<|zj<|zj<|zp<|zA<|zc<|za<|r_pv rfl rfl (zC (z:=(((i+1):Nat):Int)) rfl rfl (w64 (by omega)))<|r_pv rfl rfl (zb rfl)<|zg<|zba (i+1) (show (i+1)≤nf from by exact (by omega:i+1≤nf)) (by show nf - (i+1)<nf - i;omega) ((.of rfl):SubM _ _) (ho:=((.e (i:=0) rfl (by rw [hMq2,hMq1,hMq0,Ms.sides_take (by omega)]) (.c (i:=7) rfl .n)):PickO _ _ _)) ((.of [3,4] rfl):SelR _ _ _)
    refine zQ (X:=Nat×Option Addr×Nat) (k':=1) (L':=(lb 11 1023)) (fun (u8_1r3,u9_1r3,u9_2r3)=>([(31,.slice u9_1r3 (lz2.length+1) u9_2r3),(30,.slice (some ⟨u8_1r3,0,none⟩) 1 1),(28,.slice pz2 (lz2.length) cz2),(27,.agg #[.int .i64 (min ((F.getD i (0,0,0)).2.2) ((F.getD i (0,0,0)).1)),.int .i64 (max ((F.getD i (0,0,0)).2.2) ((F.getD i (0,0,0)).1))]),(24,.agg #[.int .i64 (min ((F.getD i (0,0,0)).2.2) ((F.getD i (0,0,0)).1)),.int .i64 (max ((F.getD i (0,0,0)).2.2) ((F.getD i (0,0,0)).1))]),(29,.int .i64 ((i:Nat):Int)),(26,.agg #[.int .i64 ((F.getD i (0,0,0)).2.2),.int .i64 ((F.getD i (0,0,0)).1)]),(25,.map (some b2)),(23,.agg #[.int .i64 ((F.getD i (0,0,0)).2.2),.int .i64 ((F.getD i (0,0,0)).1)]),(22,.map (some b2)),(7,.pointer (some ⟨b10,0,none⟩)),(21,.agg #[.int .i64 ((F.getD i (0,0,0)).2.2),.int .i64 ((F.getD i (0,0,0)).1)]),(20,.bool true),(19,.int .i64 2),(32,.int .i64 2),(18,.agg #[.int .i64 ((F.getD i (0,0,0)).1),.int .i64 ((F.getD i (0,0,0)).2.1),.int .i64 ((F.getD i (0,0,0)).2.1),.int .i64 ((F.getD i (0,0,0)).2.2),.int .i64 ((F.getD i (0,0,0)).2.2),.int .i64 ((F.getD i (0,0,0)).1)]),(4,.int .i64 ((i:Nat):Int)),(12,.int .i64 ((i:Nat):Int)),(11,.int .i64 ((nf:Nat):Int)),(10,.slice pf nf cf),(3,.map (some b2)),(2,.map none)],[rowA 3 (rI .i64) u9_1r3 u9_2r3 (lz2++([((i:Nat):Int)])),mapA b2 (fun z:Int×Int=> .agg #[.int .i64 z.1,.int .i64 z.2]) (fun z:Option Addr×Nat×Nat=> .slice z.1 z.2.1 z.2.2) (fun z=>InK .i64 z.1∧InK .i64 z.2) raw2],[emA,allA (mrest 3 (rI .i64) ((min ((F.getD i (0,0,0)).2.2) ((F.getD i (0,0,0)).1)),(max ((F.getD i (0,0,0)).2.2) ((F.getD i (0,0,0)).1))) raw2 Mq1),boxA b10 73 [.int .i64 ((F.getD i (0,0,0)).2.2),.int .i64 ((F.getD i (0,0,0)).1)],emA,boxA b9 73 [.int .i64 ((F.getD i (0,0,0)).2.1),.int .i64 ((F.getD i (0,0,0)).2.2)],emA,boxA b8 73 [.int .i64 ((F.getD i (0,0,0)).1),.int .i64 ((F.getD i (0,0,0)).2.1)],boxA b7 44 [.int .i64 ((F.getD i (0,0,0)).1),.int .i64 ((F.getD i (0,0,0)).2.1),.int .i64 ((F.getD i (0,0,0)).2.2)],boxA b1 25 [.slice pv nv cv,.slice pf nf cf]],[slF (rI .i64) (some ⟨u8_1r3,0,none⟩) 1 ([((i:Nat):Int)]),slF (rI .i64) (some ⟨u8_1r2,0,none⟩) 1 ([((i:Nat):Int)]),slF (rI .i64) (some ⟨u8_1,0,none⟩) 1 ([((i:Nat):Int)]),slF (rI3 .i64) pv cv V,slF (rI3 .i64) pf cf F])) ?_ (fun hD1=> ?_)
    ·
     rintro ⟨u8_1r3,u9_1r3,u9_2r3⟩
     dsimp only
     refine zO 10 (by kernel_rfl) ?_
     ·
      refine zeb (zS (i:=1) rfl)<|zVa (A':=fun _=>mapA b2 (fun z:Int×Int=> .agg #[.int .i64 z.1,.int .i64 z.2]) (fun z:Option Addr×Nat×Nat=> .slice z.1 z.2.1 z.2.2) (fun z=>InK .i64 z.1∧InK .i64 z.2) (mput raw2 ((min ((F.getD i (0,0,0)).2.2) ((F.getD i (0,0,0)).1)),(max ((F.getD i (0,0,0)).2.2) ((F.getD i (0,0,0)).1))) (u9_1r3,lz2.length+1,u9_2r3))) (by kernel_rfl) rfl rfl rfl (zga (a0:=((min ((F.getD i (0,0,0)).2.2) ((F.getD i (0,0,0)).1)),(max ((F.getD i (0,0,0)).2.2) ((F.getD i (0,0,0)).1)))) (v:=(u9_1r3,lz2.length+1,u9_2r3)) ky73 Try.underlying98 rfl rfl rfl (⟨zl.2 (by omega),zl.2 (by omega)⟩)) (fun _ _=> ?_)
      exact zt (hD0 (u8_1r3,u9_1r3,u9_2r3)) (by kernel_rfl) ((.of rfl):SubM _ _) .rfl .rfl ((.of [0,1,2,3,4] rfl):SelR _ _ _)
    refine zQ (X:=Nat) (k':=2) (L':=(lb 11 511)) (fun u8_1r3=>([(30,.slice (some ⟨u8_1r3,0,none⟩) 1 1),(28,.slice pz2 (lz2.length) cz2),(27,.agg #[.int .i64 (min ((F.getD i (0,0,0)).2.2) ((F.getD i (0,0,0)).1)),.int .i64 (max ((F.getD i (0,0,0)).2.2) ((F.getD i (0,0,0)).1))]),(24,.agg #[.int .i64 (min ((F.getD i (0,0,0)).2.2) ((F.getD i (0,0,0)).1)),.int .i64 (max ((F.getD i (0,0,0)).2.2) ((F.getD i (0,0,0)).1))]),(29,.int .i64 ((i:Nat):Int)),(26,.agg #[.int .i64 ((F.getD i (0,0,0)).2.2),.int .i64 ((F.getD i (0,0,0)).1)]),(25,.map (some b2)),(23,.agg #[.int .i64 ((F.getD i (0,0,0)).2.2),.int .i64 ((F.getD i (0,0,0)).1)]),(22,.map (some b2)),(7,.pointer (some ⟨b10,0,none⟩)),(21,.agg #[.int .i64 ((F.getD i (0,0,0)).2.2),.int .i64 ((F.getD i (0,0,0)).1)]),(20,.bool true),(19,.int .i64 2),(32,.int .i64 2),(31,.slice u9_1r2 (lz1.length+1) u9_2r2),(18,.agg #[.int .i64 ((F.getD i (0,0,0)).1),.int .i64 ((F.getD i (0,0,0)).2.1),.int .i64 ((F.getD i (0,0,0)).2.1),.int .i64 ((F.getD i (0,0,0)).2.2),.int .i64 ((F.getD i (0,0,0)).2.2),.int .i64 ((F.getD i (0,0,0)).1)]),(4,.int .i64 ((i:Nat):Int)),(12,.int .i64 ((i:Nat):Int)),(11,.int .i64 ((nf:Nat):Int)),(10,.slice pf nf cf),(3,.map (some b2)),(2,.map none)],[rowA 3 (rI .i64) pz2 cz2 lz2,mapA b2 (fun z:Int×Int=> .agg #[.int .i64 z.1,.int .i64 z.2]) (fun z:Option Addr×Nat×Nat=> .slice z.1 z.2.1 z.2.2) (fun z=>InK .i64 z.1∧InK .i64 z.2) raw2],[emA,allA (mrest 3 (rI .i64) ((min ((F.getD i (0,0,0)).2.2) ((F.getD i (0,0,0)).1)),(max ((F.getD i (0,0,0)).2.2) ((F.getD i (0,0,0)).1))) raw2 Mq1),boxA b10 73 [.int .i64 ((F.getD i (0,0,0)).2.2),.int .i64 ((F.getD i (0,0,0)).1)],emA,boxA b9 73 [.int .i64 ((F.getD i (0,0,0)).2.1),.int .i64 ((F.getD i (0,0,0)).2.2)],emA,boxA b8 73 [.int .i64 ((F.getD i (0,0,0)).1),.int .i64 ((F.getD i (0,0,0)).2.1)],boxA b7 44 [.int .i64 ((F.getD i (0,0,0)).1),.int .i64 ((F.getD i (0,0,0)).2.1),.int .i64 ((F.getD i (0,0,0)).2.2)],boxA b1 25 [.slice pv nv cv,.slice pf nf cf]],[slF (rI .i64) (some ⟨u8_1r3,0,none⟩) 1 ([((i:Nat):Int)]),slF (rI .i64) (some ⟨u8_1r2,0,none⟩) 1 ([((i:Nat):Int)]),slF (rI .i64) (some ⟨u8_1,0,none⟩) 1 ([((i:Nat):Int)]),slF (rI3 .i64) pv cv V,slF (rI3 .i64) pf cf F])) ?_ (fun hD2=> ?_)
    ·
     rintro u8_1r3
     dsimp only
     refine zO 9 (by kernel_rfl) ?_
     ·
      refine zVa (A':=fun v:Option Addr×Nat=>rowA 3 (rI .i64) v.1 v.2 (lz2++([((i:Nat):Int)]))) (by kernel_rfl) rfl rfl rfl (zW 0 rfl Try.underlying50 inf3 (by decide) rfl rfl (by first|rfl|assumption|(simp;done)|omega) rfl (by first|rfl|assumption|(simp;done)|omega) (by omega) (by omega)) ?_
      rintro ⟨u9_1r3,u9_2r3⟩ -
      dsimp only [List.append_eq,List.nil_append,List.cons_append]
      exact zt (hD1 (u8_1r3,u9_1r3,u9_2r3)) (by kernel_rfl) ((.of rfl):SubM _ _) .rfl .rfl ((.of [0,1,2,3,4] rfl):SelR _ _ _)
    refine zQ (X:=Unit) (k':=3) (L':=(lb 11 255)) (fun _=>([(28,.slice pz2 (lz2.length) cz2),(27,.agg #[.int .i64 (min ((F.getD i (0,0,0)).2.2) ((F.getD i (0,0,0)).1)),.int .i64 (max ((F.getD i (0,0,0)).2.2) ((F.getD i (0,0,0)).1))]),(24,.agg #[.int .i64 (min ((F.getD i (0,0,0)).2.2) ((F.getD i (0,0,0)).1)),.int .i64 (max ((F.getD i (0,0,0)).2.2) ((F.getD i (0,0,0)).1))]),(29,.int .i64 ((i:Nat):Int)),(26,.agg #[.int .i64 ((F.getD i (0,0,0)).2.2),.int .i64 ((F.getD i (0,0,0)).1)]),(25,.map (some b2)),(23,.agg #[.int .i64 ((F.getD i (0,0,0)).2.2),.int .i64 ((F.getD i (0,0,0)).1)]),(22,.map (some b2)),(7,.pointer (some ⟨b10,0,none⟩)),(21,.agg #[.int .i64 ((F.getD i (0,0,0)).2.2),.int .i64 ((F.getD i (0,0,0)).1)]),(20,.bool true),(19,.int .i64 2),(32,.int .i64 2),(31,.slice u9_1r2 (lz1.length+1) u9_2r2),(30,.slice (some ⟨u8_1r2,0,none⟩) 1 1),(18,.agg #[.int .i64 ((F.getD i (0,0,0)).1),.int .i64 ((F.getD i (0,0,0)).2.1),.int .i64 ((F.getD i (0,0,0)).2.1),.int .i64 ((F.getD i (0,0,0)).2.2),.int .i64 ((F.getD i (0,0,0)).2.2),.int .i64 ((F.getD i (0,0,0)).1)]),(4,.int .i64 ((i:Nat):Int)),(12,.int .i64 ((i:Nat):Int)),(11,.int .i64 ((nf:Nat):Int)),(10,.slice pf nf cf),(3,.map (some b2)),(2,.map none)],[rowA 3 (rI .i64) pz2 cz2 lz2,mapA b2 (fun z:Int×Int=> .agg #[.int .i64 z.1,.int .i64 z.2]) (fun z:Option Addr×Nat×Nat=> .slice z.1 z.2.1 z.2.2) (fun z=>InK .i64 z.1∧InK .i64 z.2) raw2],[allA (mrest 3 (rI .i64) ((min ((F.getD i (0,0,0)).2.2) ((F.getD i (0,0,0)).1)),(max ((F.getD i (0,0,0)).2.2) ((F.getD i (0,0,0)).1))) raw2 Mq1),boxA b10 73 [.int .i64 ((F.getD i (0,0,0)).2.2),.int .i64 ((F.getD i (0,0,0)).1)],emA,boxA b9 73 [.int .i64 ((F.getD i (0,0,0)).2.1),.int .i64 ((F.getD i (0,0,0)).2.2)],emA,boxA b8 73 [.int .i64 ((F.getD i (0,0,0)).1),.int .i64 ((F.getD i (0,0,0)).2.1)],boxA b7 44 [.int .i64 ((F.getD i (0,0,0)).1),.int .i64 ((F.getD i (0,0,0)).2.1),.int .i64 ((F.getD i (0,0,0)).2.2)],boxA b1 25 [.slice pv nv cv,.slice pf nf cf]],[slF (rI .i64) (some ⟨u8_1r2,0,none⟩) 1 ([((i:Nat):Int)]),slF (rI .i64) (some ⟨u8_1,0,none⟩) 1 ([((i:Nat):Int)]),slF (rI3 .i64) pv cv V,slF (rI3 .i64) pf cf F])) ?_ (fun hD3=> ?_)
    ·
     rintro ⟨⟩
     dsimp only
     refine zO 8 (by kernel_rfl) ?_
     ·
      refine zkb rfl rfl rfl rfl (zz (enc:=fun z:Int=>[.int .i64 z]) (ok:=InK .i64) (h1:=fun _=>rfl) (h2:=fun _=>rfl) (k:=1) Try.underlying50 inf3 rfl (by decide) (by decide) (by decide) (.c (x:=((i:Nat):Int)) rfl rfl (fun _ _=>by exact zl.2 (by omega)) .n)) (fun u8_1r3 _=> ?_)
      refine zDa 0 rfl .z ?_
      exact zt (hD2 u8_1r3) (by kernel_rfl) ((.of rfl):SubM _ _) .rfl .rfl ((.of [0,1,2,3,4] rfl):SelR _ _ _)
    refine zQ (X:=Nat) (k':=4) (L':=(lb 11 415)) (fun u8_1r3=>([(30,.slice (some ⟨u8_1r3,0,none⟩) 1 1),(24,.agg #[.int .i64 (min ((F.getD i (0,0,0)).2.2) ((F.getD i (0,0,0)).1)),.int .i64 (max ((F.getD i (0,0,0)).2.2) ((F.getD i (0,0,0)).1))]),(29,.int .i64 ((i:Nat):Int)),(26,.agg #[.int .i64 ((F.getD i (0,0,0)).2.2),.int .i64 ((F.getD i (0,0,0)).1)]),(25,.map (some b2)),(23,.agg #[.int .i64 ((F.getD i (0,0,0)).2.2),.int .i64 ((F.getD i (0,0,0)).1)]),(22,.map (some b2)),(7,.pointer (some ⟨b10,0,none⟩)),(21,.agg #[.int .i64 ((F.getD i (0,0,0)).2.2),.int .i64 ((F.getD i (0,0,0)).1)]),(20,.bool true),(19,.int .i64 2),(32,.int .i64 2),(31,.slice u9_1r2 (lz1.length+1) u9_2r2),(28,.slice pz1 (lz1.length) cz1),(27,.agg #[.int .i64 qd1,.int .i64 qd2]),(18,.agg #[.int .i64 ((F.getD i (0,0,0)).1),.int .i64 ((F.getD i (0,0,0)).2.1),.int .i64 ((F.getD i (0,0,0)).2.1),.int .i64 ((F.getD i (0,0,0)).2.2),.int .i64 ((F.getD i (0,0,0)).2.2),.int .i64 ((F.getD i (0,0,0)).1)]),(4,.int .i64 ((i:Nat):Int)),(12,.int .i64 ((i:Nat):Int)),(11,.int .i64 ((nf:Nat):Int)),(10,.slice pf nf cf),(3,.map (some b2)),(2,.map none)],[rowA 3 (rI .i64) pz2 cz2 lz2,mapA b2 (fun z:Int×Int=> .agg #[.int .i64 z.1,.int .i64 z.2]) (fun z:Option Addr×Nat×Nat=> .slice z.1 z.2.1 z.2.2) (fun z=>InK .i64 z.1∧InK .i64 z.2) raw2],[emA,allA (mrest 3 (rI .i64) ((min ((F.getD i (0,0,0)).2.2) ((F.getD i (0,0,0)).1)),(max ((F.getD i (0,0,0)).2.2) ((F.getD i (0,0,0)).1))) raw2 Mq1),boxA b10 73 [.int .i64 ((F.getD i (0,0,0)).2.2),.int .i64 ((F.getD i (0,0,0)).1)],emA,boxA b9 73 [.int .i64 ((F.getD i (0,0,0)).2.1),.int .i64 ((F.getD i (0,0,0)).2.2)],emA,boxA b8 73 [.int .i64 ((F.getD i (0,0,0)).1),.int .i64 ((F.getD i (0,0,0)).2.1)],boxA b7 44 [.int .i64 ((F.getD i (0,0,0)).1),.int .i64 ((F.getD i (0,0,0)).2.1),.int .i64 ((F.getD i (0,0,0)).2.2)],boxA b1 25 [.slice pv nv cv,.slice pf nf cf]],[slF (rI .i64) (some ⟨u8_1r3,0,none⟩) 1 ([((i:Nat):Int)]),slF (rI .i64) (some ⟨u8_1r2,0,none⟩) 1 ([((i:Nat):Int)]),slF (rI .i64) (some ⟨u8_1,0,none⟩) 1 ([((i:Nat):Int)]),slF (rI3 .i64) pv cv V,slF (rI3 .i64) pf cf F])) ?_ (fun hD4=> ?_)
    ·
     rintro u8_1r3
     dsimp only
     refine zO 5 (by kernel_rfl) ?_
     ·
      refine zza rfl rfl rfl rfl (.c rfl .n) ce75 (zIa (ex:=((F.getD i (0,0,0)).2.2)) (ey:=((F.getD i (0,0,0)).1))) (.n)<|d_uw 6 rfl rfl (by kernel_rfl) (by kernel_rfl) (by kernel_rfl) rfl rfl (zoa (z:=(none,0,0)) (a0:=((min ((F.getD i (0,0,0)).2.2) ((F.getD i (0,0,0)).1)),(max ((F.getD i (0,0,0)).2.2) ((F.getD i (0,0,0)).1)))) (v:= .slice pz2 (lz2.length) cz2) 1 rfl ky73 Try.underlying98 zr50 rfl rfl (⟨zl.2 (by omega),zl.2 (by omega)⟩) (by rw [hgt2])) ?_
      exact zt (hD2 u8_1r3) (by kernel_rfl) ((.of rfl):SubM _ _) .rfl .rfl ((.of [0,1,2,3,4] rfl):SelR _ _ _)
    refine zQ (X:=Unit) (k':=5) (L':=(lb 11 159)) (fun _=>([(24,.agg #[.int .i64 (min ((F.getD i (0,0,0)).2.2) ((F.getD i (0,0,0)).1)),.int .i64 (max ((F.getD i (0,0,0)).2.2) ((F.getD i (0,0,0)).1))]),(29,.int .i64 ((i:Nat):Int)),(26,.agg #[.int .i64 ((F.getD i (0,0,0)).2.2),.int .i64 ((F.getD i (0,0,0)).1)]),(25,.map (some b2)),(23,.agg #[.int .i64 ((F.getD i (0,0,0)).2.2),.int .i64 ((F.getD i (0,0,0)).1)]),(22,.map (some b2)),(7,.pointer (some ⟨b10,0,none⟩)),(21,.agg #[.int .i64 ((F.getD i (0,0,0)).2.2),.int .i64 ((F.getD i (0,0,0)).1)]),(20,.bool true),(19,.int .i64 2),(32,.int .i64 2),(31,.slice u9_1r2 (lz1.length+1) u9_2r2),(30,.slice (some ⟨u8_1r2,0,none⟩) 1 1),(28,.slice pz1 (lz1.length) cz1),(27,.agg #[.int .i64 qd1,.int .i64 qd2]),(18,.agg #[.int .i64 ((F.getD i (0,0,0)).1),.int .i64 ((F.getD i (0,0,0)).2.1),.int .i64 ((F.getD i (0,0,0)).2.1),.int .i64 ((F.getD i (0,0,0)).2.2),.int .i64 ((F.getD i (0,0,0)).2.2),.int .i64 ((F.getD i (0,0,0)).1)]),(4,.int .i64 ((i:Nat):Int)),(12,.int .i64 ((i:Nat):Int)),(11,.int .i64 ((nf:Nat):Int)),(10,.slice pf nf cf),(3,.map (some b2)),(2,.map none)],[rowA 3 (rI .i64) pz2 cz2 lz2,mapA b2 (fun z:Int×Int=> .agg #[.int .i64 z.1,.int .i64 z.2]) (fun z:Option Addr×Nat×Nat=> .slice z.1 z.2.1 z.2.2) (fun z=>InK .i64 z.1∧InK .i64 z.2) raw2],[allA (mrest 3 (rI .i64) ((min ((F.getD i (0,0,0)).2.2) ((F.getD i (0,0,0)).1)),(max ((F.getD i (0,0,0)).2.2) ((F.getD i (0,0,0)).1))) raw2 Mq1),boxA b10 73 [.int .i64 ((F.getD i (0,0,0)).2.2),.int .i64 ((F.getD i (0,0,0)).1)],emA,boxA b9 73 [.int .i64 ((F.getD i (0,0,0)).2.1),.int .i64 ((F.getD i (0,0,0)).2.2)],emA,boxA b8 73 [.int .i64 ((F.getD i (0,0,0)).1),.int .i64 ((F.getD i (0,0,0)).2.1)],boxA b7 44 [.int .i64 ((F.getD i (0,0,0)).1),.int .i64 ((F.getD i (0,0,0)).2.1),.int .i64 ((F.getD i (0,0,0)).2.2)],boxA b1 25 [.slice pv nv cv,.slice pf nf cf]],[slF (rI .i64) (some ⟨u8_1r2,0,none⟩) 1 ([((i:Nat):Int)]),slF (rI .i64) (some ⟨u8_1,0,none⟩) 1 ([((i:Nat):Int)]),slF (rI3 .i64) pv cv V,slF (rI3 .i64) pf cf F])) ?_ (fun hD5=> ?_)
    ·
     rintro ⟨⟩
     dsimp only
     refine zRa 5 8 (by kernel_rfl) ?_ ?_
     ·
      refine zza rfl rfl rfl rfl (.c rfl .n) ce75 (zIa (ex:=((F.getD i (0,0,0)).2.2)) (ey:=((F.getD i (0,0,0)).1))) (.n)<|d_uw 6 rfl rfl (by kernel_rfl) (by kernel_rfl) (by kernel_rfl) rfl rfl (zoa (z:=(none,0,0)) (a0:=((min ((F.getD i (0,0,0)).2.2) ((F.getD i (0,0,0)).1)),(max ((F.getD i (0,0,0)).2.2) ((F.getD i (0,0,0)).1)))) (v:= .slice pz2 (lz2.length) cz2) 1 rfl ky73 Try.underlying98 zr50 rfl rfl (⟨zl.2 (by omega),zl.2 (by omega)⟩) (by rw [hgt2])) ?_
      exact zt (hD3 ()) (by kernel_rfl) ((.of rfl):SubM _ _) .rfl .rfl ((.of [0,1,2,3] rfl):SelR _ _ _)
     ·
      refine zkb rfl rfl rfl rfl (zz (enc:=fun z:Int=>[.int .i64 z]) (ok:=InK .i64) (h1:=fun _=>rfl) (h2:=fun _=>rfl) (k:=1) Try.underlying50 inf3 rfl (by decide) (by decide) (by decide) (.c (x:=((i:Nat):Int)) rfl rfl (fun _ _=>by exact zl.2 (by omega)) .n)) (fun u8_1r3 _=> ?_)
      refine zDa 0 rfl .z ?_
      exact zt (hD4 u8_1r3) (by kernel_rfl) ((.of rfl):SubM _ _) .rfl .rfl ((.of [0,1,2,3,4] rfl):SelR _ _ _)
    refine zQ (X:=Nat) (k':=5) (L':=(lb 11 411)) (fun u8_1r3=>([(30,.slice (some ⟨u8_1r3,0,none⟩) 1 1),(29,.int .i64 ((i:Nat):Int)),(26,.agg #[.int .i64 ((F.getD i (0,0,0)).2.2),.int .i64 ((F.getD i (0,0,0)).1)]),(25,.map (some b2)),(23,.agg #[.int .i64 ((F.getD i (0,0,0)).2.2),.int .i64 ((F.getD i (0,0,0)).1)]),(22,.map (some b2)),(7,.pointer (some ⟨b10,0,none⟩)),(21,.agg #[.int .i64 ((F.getD i (0,0,0)).2.2),.int .i64 ((F.getD i (0,0,0)).1)]),(20,.bool true),(19,.int .i64 2),(32,.int .i64 2),(31,.slice u9_1r2 (lz1.length+1) u9_2r2),(28,.slice pz1 (lz1.length) cz1),(27,.agg #[.int .i64 qd1,.int .i64 qd2]),(24,.agg #[.int .i64 qd1,.int .i64 qd2]),(18,.agg #[.int .i64 ((F.getD i (0,0,0)).1),.int .i64 ((F.getD i (0,0,0)).2.1),.int .i64 ((F.getD i (0,0,0)).2.1),.int .i64 ((F.getD i (0,0,0)).2.2),.int .i64 ((F.getD i (0,0,0)).2.2),.int .i64 ((F.getD i (0,0,0)).1)]),(4,.int .i64 ((i:Nat):Int)),(12,.int .i64 ((i:Nat):Int)),(11,.int .i64 ((nf:Nat):Int)),(10,.slice pf nf cf),(3,.map (some b2)),(2,.map none)],[rowA 3 (rI .i64) pz2 cz2 lz2,mapA b2 (fun z:Int×Int=> .agg #[.int .i64 z.1,.int .i64 z.2]) (fun z:Option Addr×Nat×Nat=> .slice z.1 z.2.1 z.2.2) (fun z=>InK .i64 z.1∧InK .i64 z.2) raw2],[emA,allA (mrest 3 (rI .i64) ((min ((F.getD i (0,0,0)).2.2) ((F.getD i (0,0,0)).1)),(max ((F.getD i (0,0,0)).2.2) ((F.getD i (0,0,0)).1))) raw2 Mq1),boxA b10 73 [.int .i64 ((F.getD i (0,0,0)).2.2),.int .i64 ((F.getD i (0,0,0)).1)],emA,boxA b9 73 [.int .i64 ((F.getD i (0,0,0)).2.1),.int .i64 ((F.getD i (0,0,0)).2.2)],emA,boxA b8 73 [.int .i64 ((F.getD i (0,0,0)).1),.int .i64 ((F.getD i (0,0,0)).2.1)],boxA b7 44 [.int .i64 ((F.getD i (0,0,0)).1),.int .i64 ((F.getD i (0,0,0)).2.1),.int .i64 ((F.getD i (0,0,0)).2.2)],boxA b1 25 [.slice pv nv cv,.slice pf nf cf]],[slF (rI .i64) (some ⟨u8_1r3,0,none⟩) 1 ([((i:Nat):Int)]),slF (rI .i64) (some ⟨u8_1r2,0,none⟩) 1 ([((i:Nat):Int)]),slF (rI .i64) (some ⟨u8_1,0,none⟩) 1 ([((i:Nat):Int)]),slF (rI3 .i64) pv cv V,slF (rI3 .i64) pf cf F])) ?_ (fun hD6=> ?_)
    ·
     rintro u8_1r3
     dsimp only
     refine zO 2 (by kernel_rfl) ?_
     ·
      refine zza rfl rfl rfl rfl (.c rfl .n) ce75 (zIa (ex:=((F.getD i (0,0,0)).2.2)) (ey:=((F.getD i (0,0,0)).1))) (.n) ?_
      exact zt (hD4 u8_1r3) (by kernel_rfl) ((.of rfl):SubM _ _) .rfl .rfl ((.of [0,1,2,3,4] rfl):SelR _ _ _)
    refine zRa 2 8 (by kernel_rfl) ?_ ?_
    ·
     refine zza rfl rfl rfl rfl (.c rfl .n) ce75 (zIa (ex:=((F.getD i (0,0,0)).2.2)) (ey:=((F.getD i (0,0,0)).1))) (.n) ?_
     exact zt (hD5 ()) (by kernel_rfl) ((.of rfl):SubM _ _) .rfl .rfl ((.of [0,1,2,3] rfl):SelR _ _ _)
    ·
     refine zkb rfl rfl rfl rfl (zz (enc:=fun z:Int=>[.int .i64 z]) (ok:=InK .i64) (h1:=fun _=>rfl) (h2:=fun _=>rfl) (k:=1) Try.underlying50 inf3 rfl (by decide) (by decide) (by decide) (.c (x:=((i:Nat):Int)) rfl rfl (fun _ _=>by exact zl.2 (by omega)) .n)) (fun u8_1r3 _=> ?_)
     refine zDa 0 rfl .z ?_
     exact zt (hD6 u8_1r3) (by kernel_rfl) ((.of rfl):SubM _ _) .rfl .rfl ((.of [0,1,2,3,4] rfl):SelR _ _ _)
   refine zQ (X:=Nat×Option Addr×Nat) (k':=1) (L':=(lb 11 1023)) (fun (u8_1r2,u9_1r2,u9_2r2)=>([(31,.slice u9_1r2 (lz1.length+1) u9_2r2),(30,.slice (some ⟨u8_1r2,0,none⟩) 1 1),(28,.slice pz1 (lz1.length) cz1),(27,.agg #[.int .i64 (min ((F.getD i (0,0,0)).2.1) ((F.getD i (0,0,0)).2.2)),.int .i64 (max ((F.getD i (0,0,0)).2.1) ((F.getD i (0,0,0)).2.2))]),(24,.agg #[.int .i64 (min ((F.getD i (0,0,0)).2.1) ((F.getD i (0,0,0)).2.2)),.int .i64 (max ((F.getD i (0,0,0)).2.1) ((F.getD i (0,0,0)).2.2))]),(29,.int .i64 ((i:Nat):Int)),(26,.agg #[.int .i64 ((F.getD i (0,0,0)).2.1),.int .i64 ((F.getD i (0,0,0)).2.2)]),(25,.map (some b2)),(23,.agg #[.int .i64 ((F.getD i (0,0,0)).2.1),.int .i64 ((F.getD i (0,0,0)).2.2)]),(22,.map (some b2)),(7,.pointer (some ⟨b9,0,none⟩)),(21,.agg #[.int .i64 ((F.getD i (0,0,0)).2.1),.int .i64 ((F.getD i (0,0,0)).2.2)]),(20,.bool true),(19,.int .i64 1),(32,.int .i64 1),(18,.agg #[.int .i64 ((F.getD i (0,0,0)).1),.int .i64 ((F.getD i (0,0,0)).2.1),.int .i64 ((F.getD i (0,0,0)).2.1),.int .i64 ((F.getD i (0,0,0)).2.2),.int .i64 ((F.getD i (0,0,0)).2.2),.int .i64 ((F.getD i (0,0,0)).1)]),(4,.int .i64 ((i:Nat):Int)),(12,.int .i64 ((i:Nat):Int)),(11,.int .i64 ((nf:Nat):Int)),(10,.slice pf nf cf),(3,.map (some b2)),(2,.map none)],[rowA 3 (rI .i64) u9_1r2 u9_2r2 (lz1++([((i:Nat):Int)])),mapA b2 (fun z:Int×Int=> .agg #[.int .i64 z.1,.int .i64 z.2]) (fun z:Option Addr×Nat×Nat=> .slice z.1 z.2.1 z.2.2) (fun z=>InK .i64 z.1∧InK .i64 z.2) raw1],[emA,allA (mrest 3 (rI .i64) ((min ((F.getD i (0,0,0)).2.1) ((F.getD i (0,0,0)).2.2)),(max ((F.getD i (0,0,0)).2.1) ((F.getD i (0,0,0)).2.2))) raw1 Mq0),boxA b9 73 [.int .i64 ((F.getD i (0,0,0)).2.1),.int .i64 ((F.getD i (0,0,0)).2.2)],emA,boxA b8 73 [.int .i64 ((F.getD i (0,0,0)).1),.int .i64 ((F.getD i (0,0,0)).2.1)],boxA b7 44 [.int .i64 ((F.getD i (0,0,0)).1),.int .i64 ((F.getD i (0,0,0)).2.1),.int .i64 ((F.getD i (0,0,0)).2.2)],boxA b1 25 [.slice pv nv cv,.slice pf nf cf]],[slF (rI .i64) (some ⟨u8_1r2,0,none⟩) 1 ([((i:Nat):Int)]),slF (rI .i64) (some ⟨u8_1,0,none⟩) 1 ([((i:Nat):Int)]),slF (rI3 .i64) pv cv V,slF (rI3 .i64) pf cf F])) ?_ (fun hD1=> ?_)
   ·
    rintro ⟨u8_1r2,u9_1r2,u9_2r2⟩
    dsimp only
    refine zO 10 (by kernel_rfl) ?_
    ·
     refine zeb (zS (i:=1) rfl)<|zVa (A':=fun _=>mapA b2 (fun z:Int×Int=> .agg #[.int .i64 z.1,.int .i64 z.2]) (fun z:Option Addr×Nat×Nat=> .slice z.1 z.2.1 z.2.2) (fun z=>InK .i64 z.1∧InK .i64 z.2) (mput raw1 ((min ((F.getD i (0,0,0)).2.1) ((F.getD i (0,0,0)).2.2)),(max ((F.getD i (0,0,0)).2.1) ((F.getD i (0,0,0)).2.2))) (u9_1r2,lz1.length+1,u9_2r2))) (by kernel_rfl) rfl rfl rfl (zga (a0:=((min ((F.getD i (0,0,0)).2.1) ((F.getD i (0,0,0)).2.2)),(max ((F.getD i (0,0,0)).2.1) ((F.getD i (0,0,0)).2.2)))) (v:=(u9_1r2,lz1.length+1,u9_2r2)) ky73 Try.underlying98 rfl rfl rfl (⟨zl.2 (by omega),zl.2 (by omega)⟩)) (fun _ _=> ?_)
     exact zt (hD0 (u8_1r2,u9_1r2,u9_2r2)) (by kernel_rfl) ((.of rfl):SubM _ _) .rfl .rfl ((.of [0,1,2,3] rfl):SelR _ _ _)
   refine zQ (X:=Nat) (k':=2) (L':=(lb 11 511)) (fun u8_1r2=>([(30,.slice (some ⟨u8_1r2,0,none⟩) 1 1),(28,.slice pz1 (lz1.length) cz1),(27,.agg #[.int .i64 (min ((F.getD i (0,0,0)).2.1) ((F.getD i (0,0,0)).2.2)),.int .i64 (max ((F.getD i (0,0,0)).2.1) ((F.getD i (0,0,0)).2.2))]),(24,.agg #[.int .i64 (min ((F.getD i (0,0,0)).2.1) ((F.getD i (0,0,0)).2.2)),.int .i64 (max ((F.getD i (0,0,0)).2.1) ((F.getD i (0,0,0)).2.2))]),(29,.int .i64 ((i:Nat):Int)),(26,.agg #[.int .i64 ((F.getD i (0,0,0)).2.1),.int .i64 ((F.getD i (0,0,0)).2.2)]),(25,.map (some b2)),(23,.agg #[.int .i64 ((F.getD i (0,0,0)).2.1),.int .i64 ((F.getD i (0,0,0)).2.2)]),(22,.map (some b2)),(7,.pointer (some ⟨b9,0,none⟩)),(21,.agg #[.int .i64 ((F.getD i (0,0,0)).2.1),.int .i64 ((F.getD i (0,0,0)).2.2)]),(20,.bool true),(19,.int .i64 1),(32,.int .i64 1),(31,.slice u9_1 (lz0.length+1) u9_2),(18,.agg #[.int .i64 ((F.getD i (0,0,0)).1),.int .i64 ((F.getD i (0,0,0)).2.1),.int .i64 ((F.getD i (0,0,0)).2.1),.int .i64 ((F.getD i (0,0,0)).2.2),.int .i64 ((F.getD i (0,0,0)).2.2),.int .i64 ((F.getD i (0,0,0)).1)]),(4,.int .i64 ((i:Nat):Int)),(12,.int .i64 ((i:Nat):Int)),(11,.int .i64 ((nf:Nat):Int)),(10,.slice pf nf cf),(3,.map (some b2)),(2,.map none)],[rowA 3 (rI .i64) pz1 cz1 lz1,mapA b2 (fun z:Int×Int=> .agg #[.int .i64 z.1,.int .i64 z.2]) (fun z:Option Addr×Nat×Nat=> .slice z.1 z.2.1 z.2.2) (fun z=>InK .i64 z.1∧InK .i64 z.2) raw1],[emA,allA (mrest 3 (rI .i64) ((min ((F.getD i (0,0,0)).2.1) ((F.getD i (0,0,0)).2.2)),(max ((F.getD i (0,0,0)).2.1) ((F.getD i (0,0,0)).2.2))) raw1 Mq0),boxA b9 73 [.int .i64 ((F.getD i (0,0,0)).2.1),.int .i64 ((F.getD i (0,0,0)).2.2)],emA,boxA b8 73 [.int .i64 ((F.getD i (0,0,0)).1),.int .i64 ((F.getD i (0,0,0)).2.1)],boxA b7 44 [.int .i64 ((F.getD i (0,0,0)).1),.int .i64 ((F.getD i (0,0,0)).2.1),.int .i64 ((F.getD i (0,0,0)).2.2)],boxA b1 25 [.slice pv nv cv,.slice pf nf cf]],[slF (rI .i64) (some ⟨u8_1r2,0,none⟩) 1 ([((i:Nat):Int)]),slF (rI .i64) (some ⟨u8_1,0,none⟩) 1 ([((i:Nat):Int)]),slF (rI3 .i64) pv cv V,slF (rI3 .i64) pf cf F])) ?_ (fun hD2=> ?_)
   ·
    rintro u8_1r2
    dsimp only
    refine zO 9 (by kernel_rfl) ?_
    ·
     refine zVa (A':=fun v:Option Addr×Nat=>rowA 3 (rI .i64) v.1 v.2 (lz1++([((i:Nat):Int)]))) (by kernel_rfl) rfl rfl rfl (zW 0 rfl Try.underlying50 inf3 (by decide) rfl rfl (by first|rfl|assumption|(simp;done)|omega) rfl (by first|rfl|assumption|(simp;done)|omega) (by omega) (by omega)) ?_
     rintro ⟨u9_1r2,u9_2r2⟩ -
     dsimp only [List.append_eq,List.nil_append,List.cons_append]
     exact zt (hD1 (u8_1r2,u9_1r2,u9_2r2)) (by kernel_rfl) ((.of rfl):SubM _ _) .rfl .rfl ((.of [0,1,2,3] rfl):SelR _ _ _)
   refine zQ (X:=Unit) (k':=3) (L':=(lb 11 255)) (fun _=>([(28,.slice pz1 (lz1.length) cz1),(27,.agg #[.int .i64 (min ((F.getD i (0,0,0)).2.1) ((F.getD i (0,0,0)).2.2)),.int .i64 (max ((F.getD i (0,0,0)).2.1) ((F.getD i (0,0,0)).2.2))]),(24,.agg #[.int .i64 (min ((F.getD i (0,0,0)).2.1) ((F.getD i (0,0,0)).2.2)),.int .i64 (max ((F.getD i (0,0,0)).2.1) ((F.getD i (0,0,0)).2.2))]),(29,.int .i64 ((i:Nat):Int)),(26,.agg #[.int .i64 ((F.getD i (0,0,0)).2.1),.int .i64 ((F.getD i (0,0,0)).2.2)]),(25,.map (some b2)),(23,.agg #[.int .i64 ((F.getD i (0,0,0)).2.1),.int .i64 ((F.getD i (0,0,0)).2.2)]),(22,.map (some b2)),(7,.pointer (some ⟨b9,0,none⟩)),(21,.agg #[.int .i64 ((F.getD i (0,0,0)).2.1),.int .i64 ((F.getD i (0,0,0)).2.2)]),(20,.bool true),(19,.int .i64 1),(32,.int .i64 1),(31,.slice u9_1 (lz0.length+1) u9_2),(30,.slice (some ⟨u8_1,0,none⟩) 1 1),(18,.agg #[.int .i64 ((F.getD i (0,0,0)).1),.int .i64 ((F.getD i (0,0,0)).2.1),.int .i64 ((F.getD i (0,0,0)).2.1),.int .i64 ((F.getD i (0,0,0)).2.2),.int .i64 ((F.getD i (0,0,0)).2.2),.int .i64 ((F.getD i (0,0,0)).1)]),(4,.int .i64 ((i:Nat):Int)),(12,.int .i64 ((i:Nat):Int)),(11,.int .i64 ((nf:Nat):Int)),(10,.slice pf nf cf),(3,.map (some b2)),(2,.map none)],[rowA 3 (rI .i64) pz1 cz1 lz1,mapA b2 (fun z:Int×Int=> .agg #[.int .i64 z.1,.int .i64 z.2]) (fun z:Option Addr×Nat×Nat=> .slice z.1 z.2.1 z.2.2) (fun z=>InK .i64 z.1∧InK .i64 z.2) raw1],[allA (mrest 3 (rI .i64) ((min ((F.getD i (0,0,0)).2.1) ((F.getD i (0,0,0)).2.2)),(max ((F.getD i (0,0,0)).2.1) ((F.getD i (0,0,0)).2.2))) raw1 Mq0),boxA b9 73 [.int .i64 ((F.getD i (0,0,0)).2.1),.int .i64 ((F.getD i (0,0,0)).2.2)],emA,boxA b8 73 [.int .i64 ((F.getD i (0,0,0)).1),.int .i64 ((F.getD i (0,0,0)).2.1)],boxA b7 44 [.int .i64 ((F.getD i (0,0,0)).1),.int .i64 ((F.getD i (0,0,0)).2.1),.int .i64 ((F.getD i (0,0,0)).2.2)],boxA b1 25 [.slice pv nv cv,.slice pf nf cf]],[slF (rI .i64) (some ⟨u8_1,0,none⟩) 1 ([((i:Nat):Int)]),slF (rI3 .i64) pv cv V,slF (rI3 .i64) pf cf F])) ?_ (fun hD3=> ?_)
   ·
    rintro ⟨⟩
    dsimp only
    refine zO 8 (by kernel_rfl) ?_
    ·
     refine zkb rfl rfl rfl rfl (zz (enc:=fun z:Int=>[.int .i64 z]) (ok:=InK .i64) (h1:=fun _=>rfl) (h2:=fun _=>rfl) (k:=1) Try.underlying50 inf3 rfl (by decide) (by decide) (by decide) (.c (x:=((i:Nat):Int)) rfl rfl (fun _ _=>by exact zl.2 (by omega)) .n)) (fun u8_1r2 _=> ?_)
     refine zDa 0 rfl .z ?_
     exact zt (hD2 u8_1r2) (by kernel_rfl) ((.of rfl):SubM _ _) .rfl .rfl ((.of [0,1,2,3] rfl):SelR _ _ _)
   refine zQ (X:=Nat) (k':=4) (L':=(lb 11 415)) (fun u8_1r2=>([(30,.slice (some ⟨u8_1r2,0,none⟩) 1 1),(24,.agg #[.int .i64 (min ((F.getD i (0,0,0)).2.1) ((F.getD i (0,0,0)).2.2)),.int .i64 (max ((F.getD i (0,0,0)).2.1) ((F.getD i (0,0,0)).2.2))]),(29,.int .i64 ((i:Nat):Int)),(26,.agg #[.int .i64 ((F.getD i (0,0,0)).2.1),.int .i64 ((F.getD i (0,0,0)).2.2)]),(25,.map (some b2)),(23,.agg #[.int .i64 ((F.getD i (0,0,0)).2.1),.int .i64 ((F.getD i (0,0,0)).2.2)]),(22,.map (some b2)),(7,.pointer (some ⟨b9,0,none⟩)),(21,.agg #[.int .i64 ((F.getD i (0,0,0)).2.1),.int .i64 ((F.getD i (0,0,0)).2.2)]),(20,.bool true),(19,.int .i64 1),(32,.int .i64 1),(31,.slice u9_1 (lz0.length+1) u9_2),(28,.slice pz0 (lz0.length) cz0),(27,.agg #[.int .i64 qd1,.int .i64 qd2]),(18,.agg #[.int .i64 ((F.getD i (0,0,0)).1),.int .i64 ((F.getD i (0,0,0)).2.1),.int .i64 ((F.getD i (0,0,0)).2.1),.int .i64 ((F.getD i (0,0,0)).2.2),.int .i64 ((F.getD i (0,0,0)).2.2),.int .i64 ((F.getD i (0,0,0)).1)]),(4,.int .i64 ((i:Nat):Int)),(12,.int .i64 ((i:Nat):Int)),(11,.int .i64 ((nf:Nat):Int)),(10,.slice pf nf cf),(3,.map (some b2)),(2,.map none)],[rowA 3 (rI .i64) pz1 cz1 lz1,mapA b2 (fun z:Int×Int=> .agg #[.int .i64 z.1,.int .i64 z.2]) (fun z:Option Addr×Nat×Nat=> .slice z.1 z.2.1 z.2.2) (fun z=>InK .i64 z.1∧InK .i64 z.2) raw1],[emA,allA (mrest 3 (rI .i64) ((min ((F.getD i (0,0,0)).2.1) ((F.getD i (0,0,0)).2.2)),(max ((F.getD i (0,0,0)).2.1) ((F.getD i (0,0,0)).2.2))) raw1 Mq0),boxA b9 73 [.int .i64 ((F.getD i (0,0,0)).2.1),.int .i64 ((F.getD i (0,0,0)).2.2)],emA,boxA b8 73 [.int .i64 ((F.getD i (0,0,0)).1),.int .i64 ((F.getD i (0,0,0)).2.1)],boxA b7 44 [.int .i64 ((F.getD i (0,0,0)).1),.int .i64 ((F.getD i (0,0,0)).2.1),.int .i64 ((F.getD i (0,0,0)).2.2)],boxA b1 25 [.slice pv nv cv,.slice pf nf cf]],[slF (rI .i64) (some ⟨u8_1r2,0,none⟩) 1 ([((i:Nat):Int)]),slF (rI .i64) (some ⟨u8_1,0,none⟩) 1 ([((i:Nat):Int)]),slF (rI3 .i64) pv cv V,slF (rI3 .i64) pf cf F])) ?_ (fun hD4=> ?_)
   ·
    rintro u8_1r2
    dsimp only
    refine zO 5 (by kernel_rfl) ?_
    ·
     refine zza rfl rfl rfl rfl (.c rfl .n) ce75 (zIa (ex:=((F.getD i (0,0,0)).2.1)) (ey:=((F.getD i (0,0,0)).2.2))) (.n)<|d_uw 6 rfl rfl (by kernel_rfl) (by kernel_rfl) (by kernel_rfl) rfl rfl (zoa (z:=(none,0,0)) (a0:=((min ((F.getD i (0,0,0)).2.1) ((F.getD i (0,0,0)).2.2)),(max ((F.getD i (0,0,0)).2.1) ((F.getD i (0,0,0)).2.2)))) (v:= .slice pz1 (lz1.length) cz1) 1 rfl ky73 Try.underlying98 zr50 rfl rfl (⟨zl.2 (by omega),zl.2 (by omega)⟩) (by rw [hgt1])) ?_
     exact zt (hD2 u8_1r2) (by kernel_rfl) ((.of rfl):SubM _ _) .rfl .rfl ((.of [0,1,2,3] rfl):SelR _ _ _)
   refine zQ (X:=Unit) (k':=5) (L':=(lb 11 159)) (fun _=>([(24,.agg #[.int .i64 (min ((F.getD i (0,0,0)).2.1) ((F.getD i (0,0,0)).2.2)),.int .i64 (max ((F.getD i (0,0,0)).2.1) ((F.getD i (0,0,0)).2.2))]),(29,.int .i64 ((i:Nat):Int)),(26,.agg #[.int .i64 ((F.getD i (0,0,0)).2.1),.int .i64 ((F.getD i (0,0,0)).2.2)]),(25,.map (some b2)),(23,.agg #[.int .i64 ((F.getD i (0,0,0)).2.1),.int .i64 ((F.getD i (0,0,0)).2.2)]),(22,.map (some b2)),(7,.pointer (some ⟨b9,0,none⟩)),(21,.agg #[.int .i64 ((F.getD i (0,0,0)).2.1),.int .i64 ((F.getD i (0,0,0)).2.2)]),(20,.bool true),(19,.int .i64 1),(32,.int .i64 1),(31,.slice u9_1 (lz0.length+1) u9_2),(30,.slice (some ⟨u8_1,0,none⟩) 1 1),(28,.slice pz0 (lz0.length) cz0),(27,.agg #[.int .i64 qd1,.int .i64 qd2]),(18,.agg #[.int .i64 ((F.getD i (0,0,0)).1),.int .i64 ((F.getD i (0,0,0)).2.1),.int .i64 ((F.getD i (0,0,0)).2.1),.int .i64 ((F.getD i (0,0,0)).2.2),.int .i64 ((F.getD i (0,0,0)).2.2),.int .i64 ((F.getD i (0,0,0)).1)]),(4,.int .i64 ((i:Nat):Int)),(12,.int .i64 ((i:Nat):Int)),(11,.int .i64 ((nf:Nat):Int)),(10,.slice pf nf cf),(3,.map (some b2)),(2,.map none)],[rowA 3 (rI .i64) pz1 cz1 lz1,mapA b2 (fun z:Int×Int=> .agg #[.int .i64 z.1,.int .i64 z.2]) (fun z:Option Addr×Nat×Nat=> .slice z.1 z.2.1 z.2.2) (fun z=>InK .i64 z.1∧InK .i64 z.2) raw1],[allA (mrest 3 (rI .i64) ((min ((F.getD i (0,0,0)).2.1) ((F.getD i (0,0,0)).2.2)),(max ((F.getD i (0,0,0)).2.1) ((F.getD i (0,0,0)).2.2))) raw1 Mq0),boxA b9 73 [.int .i64 ((F.getD i (0,0,0)).2.1),.int .i64 ((F.getD i (0,0,0)).2.2)],emA,boxA b8 73 [.int .i64 ((F.getD i (0,0,0)).1),.int .i64 ((F.getD i (0,0,0)).2.1)],boxA b7 44 [.int .i64 ((F.getD i (0,0,0)).1),.int .i64 ((F.getD i (0,0,0)).2.1),.int .i64 ((F.getD i (0,0,0)).2.2)],boxA b1 25 [.slice pv nv cv,.slice pf nf cf]],[slF (rI .i64) (some ⟨u8_1,0,none⟩) 1 ([((i:Nat):Int)]),slF (rI3 .i64) pv cv V,slF (rI3 .i64) pf cf F])) ?_ (fun hD5=> ?_)
   ·
    rintro ⟨⟩
    dsimp only
    refine zRa 5 8 (by kernel_rfl) ?_ ?_
    ·
     refine zza rfl rfl rfl rfl (.c rfl .n) ce75 (zIa (ex:=((F.getD i (0,0,0)).2.1)) (ey:=((F.getD i (0,0,0)).2.2))) (.n)<|d_uw 6 rfl rfl (by kernel_rfl) (by kernel_rfl) (by kernel_rfl) rfl rfl (zoa (z:=(none,0,0)) (a0:=((min ((F.getD i (0,0,0)).2.1) ((F.getD i (0,0,0)).2.2)),(max ((F.getD i (0,0,0)).2.1) ((F.getD i (0,0,0)).2.2)))) (v:= .slice pz1 (lz1.length) cz1) 1 rfl ky73 Try.underlying98 zr50 rfl rfl (⟨zl.2 (by omega),zl.2 (by omega)⟩) (by rw [hgt1])) ?_
     exact zt (hD3 ()) (by kernel_rfl) ((.of rfl):SubM _ _) .rfl .rfl ((.of [0,1,2] rfl):SelR _ _ _)
    ·
     refine zkb rfl rfl rfl rfl (zz (enc:=fun z:Int=>[.int .i64 z]) (ok:=InK .i64) (h1:=fun _=>rfl) (h2:=fun _=>rfl) (k:=1) Try.underlying50 inf3 rfl (by decide) (by decide) (by decide) (.c (x:=((i:Nat):Int)) rfl rfl (fun _ _=>by exact zl.2 (by omega)) .n)) (fun u8_1r2 _=> ?_)
     refine zDa 0 rfl .z ?_
     exact zt (hD4 u8_1r2) (by kernel_rfl) ((.of rfl):SubM _ _) .rfl .rfl ((.of [0,1,2,3] rfl):SelR _ _ _)
   refine zQ (X:=Nat) (k':=5) (L':=(lb 11 411)) (fun u8_1r2=>([(30,.slice (some ⟨u8_1r2,0,none⟩) 1 1),(29,.int .i64 ((i:Nat):Int)),(26,.agg #[.int .i64 ((F.getD i (0,0,0)).2.1),.int .i64 ((F.getD i (0,0,0)).2.2)]),(25,.map (some b2)),(23,.agg #[.int .i64 ((F.getD i (0,0,0)).2.1),.int .i64 ((F.getD i (0,0,0)).2.2)]),(22,.map (some b2)),(7,.pointer (some ⟨b9,0,none⟩)),(21,.agg #[.int .i64 ((F.getD i (0,0,0)).2.1),.int .i64 ((F.getD i (0,0,0)).2.2)]),(20,.bool true),(19,.int .i64 1),(32,.int .i64 1),(31,.slice u9_1 (lz0.length+1) u9_2),(28,.slice pz0 (lz0.length) cz0),(27,.agg #[.int .i64 qd1,.int .i64 qd2]),(24,.agg #[.int .i64 qd1,.int .i64 qd2]),(18,.agg #[.int .i64 ((F.getD i (0,0,0)).1),.int .i64 ((F.getD i (0,0,0)).2.1),.int .i64 ((F.getD i (0,0,0)).2.1),.int .i64 ((F.getD i (0,0,0)).2.2),.int .i64 ((F.getD i (0,0,0)).2.2),.int .i64 ((F.getD i (0,0,0)).1)]),(4,.int .i64 ((i:Nat):Int)),(12,.int .i64 ((i:Nat):Int)),(11,.int .i64 ((nf:Nat):Int)),(10,.slice pf nf cf),(3,.map (some b2)),(2,.map none)],[rowA 3 (rI .i64) pz1 cz1 lz1,mapA b2 (fun z:Int×Int=> .agg #[.int .i64 z.1,.int .i64 z.2]) (fun z:Option Addr×Nat×Nat=> .slice z.1 z.2.1 z.2.2) (fun z=>InK .i64 z.1∧InK .i64 z.2) raw1],[emA,allA (mrest 3 (rI .i64) ((min ((F.getD i (0,0,0)).2.1) ((F.getD i (0,0,0)).2.2)),(max ((F.getD i (0,0,0)).2.1) ((F.getD i (0,0,0)).2.2))) raw1 Mq0),boxA b9 73 [.int .i64 ((F.getD i (0,0,0)).2.1),.int .i64 ((F.getD i (0,0,0)).2.2)],emA,boxA b8 73 [.int .i64 ((F.getD i (0,0,0)).1),.int .i64 ((F.getD i (0,0,0)).2.1)],boxA b7 44 [.int .i64 ((F.getD i (0,0,0)).1),.int .i64 ((F.getD i (0,0,0)).2.1),.int .i64 ((F.getD i (0,0,0)).2.2)],boxA b1 25 [.slice pv nv cv,.slice pf nf cf]],[slF (rI .i64) (some ⟨u8_1r2,0,none⟩) 1 ([((i:Nat):Int)]),slF (rI .i64) (some ⟨u8_1,0,none⟩) 1 ([((i:Nat):Int)]),slF (rI3 .i64) pv cv V,slF (rI3 .i64) pf cf F])) ?_ (fun hD6=> ?_)
   ·
    rintro u8_1r2
    dsimp only
    refine zO 2 (by kernel_rfl) ?_
    ·
     refine zza rfl rfl rfl rfl (.c rfl .n) ce75 (zIa (ex:=((F.getD i (0,0,0)).2.1)) (ey:=((F.getD i (0,0,0)).2.2))) (.n) ?_
     exact zt (hD4 u8_1r2) (by kernel_rfl) ((.of rfl):SubM _ _) .rfl .rfl ((.of [0,1,2,3] rfl):SelR _ _ _)
   refine zRa 2 8 (by kernel_rfl) ?_ ?_
   ·
    refine zza rfl rfl rfl rfl (.c rfl .n) ce75 (zIa (ex:=((F.getD i (0,0,0)).2.1)) (ey:=((F.getD i (0,0,0)).2.2))) (.n) ?_
    exact zt (hD5 ()) (by kernel_rfl) ((.of rfl):SubM _ _) .rfl .rfl ((.of [0,1,2] rfl):SelR _ _ _)
   ·
    refine zkb rfl rfl rfl rfl (zz (enc:=fun z:Int=>[.int .i64 z]) (ok:=InK .i64) (h1:=fun _=>rfl) (h2:=fun _=>rfl) (k:=1) Try.underlying50 inf3 rfl (by decide) (by decide) (by decide) (.c (x:=((i:Nat):Int)) rfl rfl (fun _ _=>by exact zl.2 (by omega)) .n)) (fun u8_1r2 _=> ?_)
    refine zDa 0 rfl .z ?_
    exact zt (hD6 u8_1r2) (by kernel_rfl) ((.of rfl):SubM _ _) .rfl .rfl ((.of [0,1,2,3] rfl):SelR _ _ _)
  refine zQ (X:=Nat×Option Addr×Nat) (k':=1) (L':=(lb 11 1023)) (fun (u8_1,u9_1,u9_2)=>([(31,.slice u9_1 (lz0.length+1) u9_2),(30,.slice (some ⟨u8_1,0,none⟩) 1 1),(28,.slice pz0 (lz0.length) cz0),(27,.agg #[.int .i64 (min ((F.getD i (0,0,0)).1) ((F.getD i (0,0,0)).2.1)),.int .i64 (max ((F.getD i (0,0,0)).1) ((F.getD i (0,0,0)).2.1))]),(24,.agg #[.int .i64 (min ((F.getD i (0,0,0)).1) ((F.getD i (0,0,0)).2.1)),.int .i64 (max ((F.getD i (0,0,0)).1) ((F.getD i (0,0,0)).2.1))]),(29,.int .i64 ((i:Nat):Int)),(26,.agg #[.int .i64 ((F.getD i (0,0,0)).1),.int .i64 ((F.getD i (0,0,0)).2.1)]),(25,.map (some b2)),(23,.agg #[.int .i64 ((F.getD i (0,0,0)).1),.int .i64 ((F.getD i (0,0,0)).2.1)]),(22,.map (some b2)),(7,.pointer (some ⟨b8,0,none⟩)),(21,.agg #[.int .i64 ((F.getD i (0,0,0)).1),.int .i64 ((F.getD i (0,0,0)).2.1)]),(20,.bool true),(19,.int .i64 0),(18,.agg #[.int .i64 ((F.getD i (0,0,0)).1),.int .i64 ((F.getD i (0,0,0)).2.1),.int .i64 ((F.getD i (0,0,0)).2.1),.int .i64 ((F.getD i (0,0,0)).2.2),.int .i64 ((F.getD i (0,0,0)).2.2),.int .i64 ((F.getD i (0,0,0)).1)]),(4,.int .i64 ((i:Nat):Int)),(12,.int .i64 ((i:Nat):Int)),(11,.int .i64 ((nf:Nat):Int)),(10,.slice pf nf cf),(3,.map (some b2)),(2,.map none)],[rowA 3 (rI .i64) u9_1 u9_2 (lz0++([((i:Nat):Int)])),mapA b2 (fun z:Int×Int=> .agg #[.int .i64 z.1,.int .i64 z.2]) (fun z:Option Addr×Nat×Nat=> .slice z.1 z.2.1 z.2.2) (fun z=>InK .i64 z.1∧InK .i64 z.2) raw0],[emA,allA (mrest 3 (rI .i64) ((min ((F.getD i (0,0,0)).1) ((F.getD i (0,0,0)).2.1)),(max ((F.getD i (0,0,0)).1) ((F.getD i (0,0,0)).2.1))) raw0 (Ms.sides (F.take i))),boxA b8 73 [.int .i64 ((F.getD i (0,0,0)).1),.int .i64 ((F.getD i (0,0,0)).2.1)],boxA b7 44 [.int .i64 ((F.getD i (0,0,0)).1),.int .i64 ((F.getD i (0,0,0)).2.1),.int .i64 ((F.getD i (0,0,0)).2.2)],boxA b1 25 [.slice pv nv cv,.slice pf nf cf]],[slF (rI .i64) (some ⟨u8_1,0,none⟩) 1 ([((i:Nat):Int)]),slF (rI3 .i64) pv cv V,slF (rI3 .i64) pf cf F])) ?_ (fun hD1=> ?_)
  ·
   rintro ⟨u8_1,u9_1,u9_2⟩
   dsimp only
   refine zO 10 (by kernel_rfl) ?_
   ·
    refine zeb (zS (i:=1) rfl)<|zVa (A':=fun _=>mapA b2 (fun z:Int×Int=> .agg #[.int .i64 z.1,.int .i64 z.2]) (fun z:Option Addr×Nat×Nat=> .slice z.1 z.2.1 z.2.2) (fun z=>InK .i64 z.1∧InK .i64 z.2) (mput raw0 ((min ((F.getD i (0,0,0)).1) ((F.getD i (0,0,0)).2.1)),(max ((F.getD i (0,0,0)).1) ((F.getD i (0,0,0)).2.1))) (u9_1,lz0.length+1,u9_2))) (by kernel_rfl) rfl rfl rfl (zga (a0:=((min ((F.getD i (0,0,0)).1) ((F.getD i (0,0,0)).2.1)),(max ((F.getD i (0,0,0)).1) ((F.getD i (0,0,0)).2.1)))) (v:=(u9_1,lz0.length+1,u9_2)) ky73 Try.underlying98 rfl rfl rfl (⟨zl.2 (by omega),zl.2 (by omega)⟩)) (fun _ _=> ?_)
    exact zt (hD0 (u8_1,u9_1,u9_2)) (by kernel_rfl) ((.of rfl):SubM _ _) .rfl .rfl ((.of [0,1,2] rfl):SelR _ _ _)
  refine zQ (X:=Nat) (k':=2) (L':=(lb 11 511)) (fun u8_1=>([(30,.slice (some ⟨u8_1,0,none⟩) 1 1),(28,.slice pz0 (lz0.length) cz0),(27,.agg #[.int .i64 (min ((F.getD i (0,0,0)).1) ((F.getD i (0,0,0)).2.1)),.int .i64 (max ((F.getD i (0,0,0)).1) ((F.getD i (0,0,0)).2.1))]),(24,.agg #[.int .i64 (min ((F.getD i (0,0,0)).1) ((F.getD i (0,0,0)).2.1)),.int .i64 (max ((F.getD i (0,0,0)).1) ((F.getD i (0,0,0)).2.1))]),(29,.int .i64 ((i:Nat):Int)),(26,.agg #[.int .i64 ((F.getD i (0,0,0)).1),.int .i64 ((F.getD i (0,0,0)).2.1)]),(25,.map (some b2)),(23,.agg #[.int .i64 ((F.getD i (0,0,0)).1),.int .i64 ((F.getD i (0,0,0)).2.1)]),(22,.map (some b2)),(7,.pointer (some ⟨b8,0,none⟩)),(21,.agg #[.int .i64 ((F.getD i (0,0,0)).1),.int .i64 ((F.getD i (0,0,0)).2.1)]),(20,.bool true),(19,.int .i64 0),(18,.agg #[.int .i64 ((F.getD i (0,0,0)).1),.int .i64 ((F.getD i (0,0,0)).2.1),.int .i64 ((F.getD i (0,0,0)).2.1),.int .i64 ((F.getD i (0,0,0)).2.2),.int .i64 ((F.getD i (0,0,0)).2.2),.int .i64 ((F.getD i (0,0,0)).1)]),(4,.int .i64 ((i:Nat):Int)),(12,.int .i64 ((i:Nat):Int)),(11,.int .i64 ((nf:Nat):Int)),(10,.slice pf nf cf),(3,.map (some b2)),(2,.map none)],[rowA 3 (rI .i64) pz0 cz0 lz0,mapA b2 (fun z:Int×Int=> .agg #[.int .i64 z.1,.int .i64 z.2]) (fun z:Option Addr×Nat×Nat=> .slice z.1 z.2.1 z.2.2) (fun z=>InK .i64 z.1∧InK .i64 z.2) raw0],[emA,allA (mrest 3 (rI .i64) ((min ((F.getD i (0,0,0)).1) ((F.getD i (0,0,0)).2.1)),(max ((F.getD i (0,0,0)).1) ((F.getD i (0,0,0)).2.1))) raw0 (Ms.sides (F.take i))),boxA b8 73 [.int .i64 ((F.getD i (0,0,0)).1),.int .i64 ((F.getD i (0,0,0)).2.1)],boxA b7 44 [.int .i64 ((F.getD i (0,0,0)).1),.int .i64 ((F.getD i (0,0,0)).2.1),.int .i64 ((F.getD i (0,0,0)).2.2)],boxA b1 25 [.slice pv nv cv,.slice pf nf cf]],[slF (rI .i64) (some ⟨u8_1,0,none⟩) 1 ([((i:Nat):Int)]),slF (rI3 .i64) pv cv V,slF (rI3 .i64) pf cf F])) ?_ (fun hD2=> ?_)
  ·
   rintro u8_1
   dsimp only
   refine zO 9 (by kernel_rfl) ?_
   ·
    refine zVa (A':=fun v:Option Addr×Nat=>rowA 3 (rI .i64) v.1 v.2 (lz0++([((i:Nat):Int)]))) (by kernel_rfl) rfl rfl rfl (zW 0 rfl Try.underlying50 inf3 (by decide) rfl rfl (by first|rfl|assumption|(simp;done)|omega) rfl (by first|rfl|assumption|(simp;done)|omega) (by omega) (by omega)) ?_
    rintro ⟨u9_1,u9_2⟩ -
    dsimp only [List.append_eq,List.nil_append,List.cons_append]
    exact zt (hD1 (u8_1,u9_1,u9_2)) (by kernel_rfl) ((.of rfl):SubM _ _) .rfl .rfl ((.of [0,1,2] rfl):SelR _ _ _)
  refine zQ (X:=Unit) (k':=3) (L':=(lb 11 255)) (fun _=>([(28,.slice pz0 (lz0.length) cz0),(27,.agg #[.int .i64 (min ((F.getD i (0,0,0)).1) ((F.getD i (0,0,0)).2.1)),.int .i64 (max ((F.getD i (0,0,0)).1) ((F.getD i (0,0,0)).2.1))]),(24,.agg #[.int .i64 (min ((F.getD i (0,0,0)).1) ((F.getD i (0,0,0)).2.1)),.int .i64 (max ((F.getD i (0,0,0)).1) ((F.getD i (0,0,0)).2.1))]),(29,.int .i64 ((i:Nat):Int)),(26,.agg #[.int .i64 ((F.getD i (0,0,0)).1),.int .i64 ((F.getD i (0,0,0)).2.1)]),(25,.map (some b2)),(23,.agg #[.int .i64 ((F.getD i (0,0,0)).1),.int .i64 ((F.getD i (0,0,0)).2.1)]),(22,.map (some b2)),(7,.pointer (some ⟨b8,0,none⟩)),(21,.agg #[.int .i64 ((F.getD i (0,0,0)).1),.int .i64 ((F.getD i (0,0,0)).2.1)]),(20,.bool true),(19,.int .i64 0),(18,.agg #[.int .i64 ((F.getD i (0,0,0)).1),.int .i64 ((F.getD i (0,0,0)).2.1),.int .i64 ((F.getD i (0,0,0)).2.1),.int .i64 ((F.getD i (0,0,0)).2.2),.int .i64 ((F.getD i (0,0,0)).2.2),.int .i64 ((F.getD i (0,0,0)).1)]),(4,.int .i64 ((i:Nat):Int)),(12,.int .i64 ((i:Nat):Int)),(11,.int .i64 ((nf:Nat):Int)),(10,.slice pf nf cf),(3,.map (some b2)),(2,.map none)],[rowA 3 (rI .i64) pz0 cz0 lz0,mapA b2 (fun z:Int×Int=> .agg #[.int .i64 z.1,.int .i64 z.2]) (fun z:Option Addr×Nat×Nat=> .slice z.1 z.2.1 z.2.2) (fun z=>InK .i64 z.1∧InK .i64 z.2) raw0],[allA (mrest 3 (rI .i64) ((min ((F.getD i (0,0,0)).1) ((F.getD i (0,0,0)).2.1)),(max ((F.getD i (0,0,0)).1) ((F.getD i (0,0,0)).2.1))) raw0 (Ms.sides (F.take i))),boxA b8 73 [.int .i64 ((F.getD i (0,0,0)).1),.int .i64 ((F.getD i (0,0,0)).2.1)],boxA b7 44 [.int .i64 ((F.getD i (0,0,0)).1),.int .i64 ((F.getD i (0,0,0)).2.1),.int .i64 ((F.getD i (0,0,0)).2.2)],boxA b1 25 [.slice pv nv cv,.slice pf nf cf]],[slF (rI3 .i64) pv cv V,slF (rI3 .i64) pf cf F])) ?_ (fun hD3=> ?_)
  ·
   rintro ⟨⟩
   dsimp only
   refine zO 8 (by kernel_rfl) ?_
   ·
    refine zkb rfl rfl rfl rfl (zz (enc:=fun z:Int=>[.int .i64 z]) (ok:=InK .i64) (h1:=fun _=>rfl) (h2:=fun _=>rfl) (k:=1) Try.underlying50 inf3 rfl (by decide) (by decide) (by decide) (.c (x:=((i:Nat):Int)) rfl rfl (fun _ _=>by exact zl.2 (by omega)) .n)) (fun u8_1 _=> ?_)
    refine zDa 0 rfl .z ?_
    exact zt (hD2 u8_1) (by kernel_rfl) ((.of rfl):SubM _ _) .rfl .rfl ((.of [0,1,2] rfl):SelR _ _ _)
  refine zQ (X:=Nat) (k':=4) (L':=(lb 11 415)) (fun u8_1=>([(30,.slice (some ⟨u8_1,0,none⟩) 1 1),(24,.agg #[.int .i64 (min ((F.getD i (0,0,0)).1) ((F.getD i (0,0,0)).2.1)),.int .i64 (max ((F.getD i (0,0,0)).1) ((F.getD i (0,0,0)).2.1))]),(29,.int .i64 ((i:Nat):Int)),(26,.agg #[.int .i64 ((F.getD i (0,0,0)).1),.int .i64 ((F.getD i (0,0,0)).2.1)]),(25,.map (some b2)),(23,.agg #[.int .i64 ((F.getD i (0,0,0)).1),.int .i64 ((F.getD i (0,0,0)).2.1)]),(22,.map (some b2)),(7,.pointer (some ⟨b8,0,none⟩)),(21,.agg #[.int .i64 ((F.getD i (0,0,0)).1),.int .i64 ((F.getD i (0,0,0)).2.1)]),(20,.bool true),(19,.int .i64 0),(18,.agg #[.int .i64 ((F.getD i (0,0,0)).1),.int .i64 ((F.getD i (0,0,0)).2.1),.int .i64 ((F.getD i (0,0,0)).2.1),.int .i64 ((F.getD i (0,0,0)).2.2),.int .i64 ((F.getD i (0,0,0)).2.2),.int .i64 ((F.getD i (0,0,0)).1)]),(4,.int .i64 ((i:Nat):Int)),(12,.int .i64 ((i:Nat):Int)),(11,.int .i64 ((nf:Nat):Int)),(10,.slice pf nf cf),(3,.map (some b2)),(2,.map none)],[rowA 3 (rI .i64) pz0 cz0 lz0,mapA b2 (fun z:Int×Int=> .agg #[.int .i64 z.1,.int .i64 z.2]) (fun z:Option Addr×Nat×Nat=> .slice z.1 z.2.1 z.2.2) (fun z=>InK .i64 z.1∧InK .i64 z.2) raw0],[emA,allA (mrest 3 (rI .i64) ((min ((F.getD i (0,0,0)).1) ((F.getD i (0,0,0)).2.1)),(max ((F.getD i (0,0,0)).1) ((F.getD i (0,0,0)).2.1))) raw0 (Ms.sides (F.take i))),boxA b8 73 [.int .i64 ((F.getD i (0,0,0)).1),.int .i64 ((F.getD i (0,0,0)).2.1)],boxA b7 44 [.int .i64 ((F.getD i (0,0,0)).1),.int .i64 ((F.getD i (0,0,0)).2.1),.int .i64 ((F.getD i (0,0,0)).2.2)],boxA b1 25 [.slice pv nv cv,.slice pf nf cf]],[slF (rI .i64) (some ⟨u8_1,0,none⟩) 1 ([((i:Nat):Int)]),slF (rI3 .i64) pv cv V,slF (rI3 .i64) pf cf F])) ?_ (fun hD4=> ?_)
  ·
   rintro u8_1
   dsimp only
   refine zO 5 (by kernel_rfl) ?_
   ·
    refine zza rfl rfl rfl rfl (.c rfl .n) ce75 (zIa (ex:=((F.getD i (0,0,0)).1)) (ey:=((F.getD i (0,0,0)).2.1))) (.n)<|d_uw 6 rfl rfl (by kernel_rfl) (by kernel_rfl) (by kernel_rfl) rfl rfl (zoa (z:=(none,0,0)) (a0:=((min ((F.getD i (0,0,0)).1) ((F.getD i (0,0,0)).2.1)),(max ((F.getD i (0,0,0)).1) ((F.getD i (0,0,0)).2.1)))) (v:= .slice pz0 (lz0.length) cz0) 1 rfl ky73 Try.underlying98 zr50 rfl rfl (⟨zl.2 (by omega),zl.2 (by omega)⟩) (by rw [hgt0])) ?_
    exact zt (hD2 u8_1) (by kernel_rfl) ((.of rfl):SubM _ _) .rfl .rfl ((.of [0,1,2] rfl):SelR _ _ _)
  refine zQ (X:=Unit) (k':=5) (L':=(lb 11 159)) (fun _=>([(24,.agg #[.int .i64 (min ((F.getD i (0,0,0)).1) ((F.getD i (0,0,0)).2.1)),.int .i64 (max ((F.getD i (0,0,0)).1) ((F.getD i (0,0,0)).2.1))]),(29,.int .i64 ((i:Nat):Int)),(26,.agg #[.int .i64 ((F.getD i (0,0,0)).1),.int .i64 ((F.getD i (0,0,0)).2.1)]),(25,.map (some b2)),(23,.agg #[.int .i64 ((F.getD i (0,0,0)).1),.int .i64 ((F.getD i (0,0,0)).2.1)]),(22,.map (some b2)),(7,.pointer (some ⟨b8,0,none⟩)),(21,.agg #[.int .i64 ((F.getD i (0,0,0)).1),.int .i64 ((F.getD i (0,0,0)).2.1)]),(20,.bool true),(19,.int .i64 0),(18,.agg #[.int .i64 ((F.getD i (0,0,0)).1),.int .i64 ((F.getD i (0,0,0)).2.1),.int .i64 ((F.getD i (0,0,0)).2.1),.int .i64 ((F.getD i (0,0,0)).2.2),.int .i64 ((F.getD i (0,0,0)).2.2),.int .i64 ((F.getD i (0,0,0)).1)]),(4,.int .i64 ((i:Nat):Int)),(12,.int .i64 ((i:Nat):Int)),(11,.int .i64 ((nf:Nat):Int)),(10,.slice pf nf cf),(3,.map (some b2)),(2,.map none)],[rowA 3 (rI .i64) pz0 cz0 lz0,mapA b2 (fun z:Int×Int=> .agg #[.int .i64 z.1,.int .i64 z.2]) (fun z:Option Addr×Nat×Nat=> .slice z.1 z.2.1 z.2.2) (fun z=>InK .i64 z.1∧InK .i64 z.2) raw0],[allA (mrest 3 (rI .i64) ((min ((F.getD i (0,0,0)).1) ((F.getD i (0,0,0)).2.1)),(max ((F.getD i (0,0,0)).1) ((F.getD i (0,0,0)).2.1))) raw0 (Ms.sides (F.take i))),boxA b8 73 [.int .i64 ((F.getD i (0,0,0)).1),.int .i64 ((F.getD i (0,0,0)).2.1)],boxA b7 44 [.int .i64 ((F.getD i (0,0,0)).1),.int .i64 ((F.getD i (0,0,0)).2.1),.int .i64 ((F.getD i (0,0,0)).2.2)],boxA b1 25 [.slice pv nv cv,.slice pf nf cf]],[slF (rI3 .i64) pv cv V,slF (rI3 .i64) pf cf F])) ?_ (fun hD5=> ?_)
  ·
   rintro ⟨⟩
   dsimp only
   refine zRa 5 8 (by kernel_rfl) ?_ ?_
   ·
    refine zza rfl rfl rfl rfl (.c rfl .n) ce75 (zIa (ex:=((F.getD i (0,0,0)).1)) (ey:=((F.getD i (0,0,0)).2.1))) (.n)<|d_uw 6 rfl rfl (by kernel_rfl) (by kernel_rfl) (by kernel_rfl) rfl rfl (zoa (z:=(none,0,0)) (a0:=((min ((F.getD i (0,0,0)).1) ((F.getD i (0,0,0)).2.1)),(max ((F.getD i (0,0,0)).1) ((F.getD i (0,0,0)).2.1)))) (v:= .slice pz0 (lz0.length) cz0) 1 rfl ky73 Try.underlying98 zr50 rfl rfl (⟨zl.2 (by omega),zl.2 (by omega)⟩) (by rw [hgt0])) ?_
    exact zt (hD3 ()) (by kernel_rfl) ((.of rfl):SubM _ _) .rfl .rfl ((.of [0,1] rfl):SelR _ _ _)
   ·
    refine zkb rfl rfl rfl rfl (zz (enc:=fun z:Int=>[.int .i64 z]) (ok:=InK .i64) (h1:=fun _=>rfl) (h2:=fun _=>rfl) (k:=1) Try.underlying50 inf3 rfl (by decide) (by decide) (by decide) (.c (x:=((i:Nat):Int)) rfl rfl (fun _ _=>by exact zl.2 (by omega)) .n)) (fun u8_1 _=> ?_)
    refine zDa 0 rfl .z ?_
    exact zt (hD4 u8_1) (by kernel_rfl) ((.of rfl):SubM _ _) .rfl .rfl ((.of [0,1,2] rfl):SelR _ _ _)
  refine zQ (X:=Nat) (k':=5) (L':=(lb 11 411)) (fun u8_1=>([(30,.slice (some ⟨u8_1,0,none⟩) 1 1),(29,.int .i64 ((i:Nat):Int)),(26,.agg #[.int .i64 ((F.getD i (0,0,0)).1),.int .i64 ((F.getD i (0,0,0)).2.1)]),(25,.map (some b2)),(23,.agg #[.int .i64 ((F.getD i (0,0,0)).1),.int .i64 ((F.getD i (0,0,0)).2.1)]),(22,.map (some b2)),(7,.pointer (some ⟨b8,0,none⟩)),(21,.agg #[.int .i64 ((F.getD i (0,0,0)).1),.int .i64 ((F.getD i (0,0,0)).2.1)]),(20,.bool true),(19,.int .i64 0),(18,.agg #[.int .i64 ((F.getD i (0,0,0)).1),.int .i64 ((F.getD i (0,0,0)).2.1),.int .i64 ((F.getD i (0,0,0)).2.1),.int .i64 ((F.getD i (0,0,0)).2.2),.int .i64 ((F.getD i (0,0,0)).2.2),.int .i64 ((F.getD i (0,0,0)).1)]),(4,.int .i64 ((i:Nat):Int)),(12,.int .i64 ((i:Nat):Int)),(11,.int .i64 ((nf:Nat):Int)),(10,.slice pf nf cf),(3,.map (some b2)),(2,.map none)],[rowA 3 (rI .i64) pz0 cz0 lz0,mapA b2 (fun z:Int×Int=> .agg #[.int .i64 z.1,.int .i64 z.2]) (fun z:Option Addr×Nat×Nat=> .slice z.1 z.2.1 z.2.2) (fun z=>InK .i64 z.1∧InK .i64 z.2) raw0],[emA,allA (mrest 3 (rI .i64) ((min ((F.getD i (0,0,0)).1) ((F.getD i (0,0,0)).2.1)),(max ((F.getD i (0,0,0)).1) ((F.getD i (0,0,0)).2.1))) raw0 (Ms.sides (F.take i))),boxA b8 73 [.int .i64 ((F.getD i (0,0,0)).1),.int .i64 ((F.getD i (0,0,0)).2.1)],boxA b7 44 [.int .i64 ((F.getD i (0,0,0)).1),.int .i64 ((F.getD i (0,0,0)).2.1),.int .i64 ((F.getD i (0,0,0)).2.2)],boxA b1 25 [.slice pv nv cv,.slice pf nf cf]],[slF (rI .i64) (some ⟨u8_1,0,none⟩) 1 ([((i:Nat):Int)]),slF (rI3 .i64) pv cv V,slF (rI3 .i64) pf cf F])) ?_ (fun hD6=> ?_)
  ·
   rintro u8_1
   dsimp only
   refine zO 2 (by kernel_rfl) ?_
   ·
    refine zza rfl rfl rfl rfl (.c rfl .n) ce75 (zIa (ex:=((F.getD i (0,0,0)).1)) (ey:=((F.getD i (0,0,0)).2.1))) (.n) ?_
    exact zt (hD4 u8_1) (by kernel_rfl) ((.of rfl):SubM _ _) .rfl .rfl ((.of [0,1,2] rfl):SelR _ _ _)
  refine zRa 2 8 (by kernel_rfl) ?_ ?_
  ·
   refine zza rfl rfl rfl rfl (.c rfl .n) ce75 (zIa (ex:=((F.getD i (0,0,0)).1)) (ey:=((F.getD i (0,0,0)).2.1))) (.n) ?_
   exact zt (hD5 ()) (by kernel_rfl) ((.of rfl):SubM _ _) .rfl .rfl ((.of [0,1] rfl):SelR _ _ _)
  ·
   refine zkb rfl rfl rfl rfl (zz (enc:=fun z:Int=>[.int .i64 z]) (ok:=InK .i64) (h1:=fun _=>rfl) (h2:=fun _=>rfl) (k:=1) Try.underlying50 inf3 rfl (by decide) (by decide) (by decide) (.c (x:=((i:Nat):Int)) rfl rfl (fun _ _=>by exact zl.2 (by omega)) .n)) (fun u8_1 _=> ?_)
   refine zDa 0 rfl .z ?_
   exact zt (hD6 u8_1) (by kernel_rfl) ((.of rfl):SubM _ _) .rfl .rfl ((.of [0,1,2] rfl):SelR _ _ _)
 ·
  refine zX<|zj<|zj<|zp<|zc<|ze ?_
  have e11:Ms.sides (F.take i)=Ms.sides F:=by rw [List.take_of_length_le (by omega)]
  rw [e11]
  refine zXc (fun w mm=>mm.mrFreeze 0 rfl) ?_
  rintro rawZ hrawZ
  dsimp only [List.set]
  refine za<|r_pv rfl rfl (zb rfl)<|r_pv rfl rfl (zd rfl)<|zg<|zc<|zK ?_
  exact zB Try.results66 (b2,rawZ) hrawZ (zx rfl) rfl (ho:=((.c (i:=0) rfl .n):PickO _ _ _)) ((.c (j:=0) rfl .n):SelR _ _ _)
end Go.Proofs.Ytalfgjpbbongcaa.Sp
namespace Go.Proofs.Ytalfgjpbbongcaa.Sp
open Go
set_option linter.unusedVariables false
set_option maxRecDepth 100000
set_option maxHeartbeats 8000000
theorem zTd {pv:Option Addr} {nv:Nat} {cv:Nat} {V:List (Int×Int×Int)} {pf:Option Addr} {nf:Nat} {cf:Nat} {F:List (Int×Int×Int)} (hnv:V.length=nv) (hnf:F.length=nf):Con Try.prog 25 [.agg #[.slice pv nv cv,.slice pf nf cf]] [] [slF (rI3 .i64) pv cv V,slF (rI3 .i64) pf cf F] (Y:=Unit) (fun y=>True) (fun y=> .tuple #[.int .i64 (Ms.eulerR V F),.int .i64 (Ms.check V F)]) (fun y=>[]) (fun y=>[]):=by
 refine zy Try.func25 rfl rfl rfl (fun c=> ?_)
 show RunC _ _ _ _ _ [(0,.agg #[.slice pv nv cv,.slice pf nf cf])] [] [slF (rI3 .i64) pv cv V,slF (rI3 .i64) pf cf F]
 refine zda 0 rfl (fun hL0=> ?_)
 refine zda 1 rfl (fun hL1=> ?_)
 refine ze<|za<|zV rfl rfl (zla rfl rfl) (fun b1=> ?_)
 refine r_pv rfl rfl (zd rfl)<|r_pv rfl rfl (zd rfl)<|zg<|zc<|ze<|ze<|za<|r_u rfl rfl (zh 0 ty25 rfl rfl (.take (.take .nil)))<|zea rfl rfl (.c rfl .n) ce14 (znb (pv:=pv) (nv:=nv) (cv:=cv) (V:=V) (pf:=pf) (nf:=nf) (cf:=cf) (F:=F) (hnv:=by assumption) (hnf:=by assumption)) (.c (j:=0) rfl (.c (j:=1) rfl .n))<|r_pv rfl rfl (zd rfl)<|zg<|zc<|ze<|za<|r_pv rfl rfl (zb rfl)<|r_pv rfl rfl (zMa rfl rfl)<|zg<|zc<|zD rfl (fun hcode=> ?_) (fun hcode=> ?_)
 ·
  refine ze<|za<|r_pv rfl rfl (zb rfl)<|r_pv rfl rfl (zd rfl)<|r_pv rfl rfl (zd rfl)<|zg<|zc<|zK<|zk ?_
  have hz:Ms.eulerR V F=0:=by unfold Ms.eulerR;rw [if_neg hcode]
  exact zub Try.results25 () trivial (zx rfl) (zx rfl) (by rw [hz]) (ho:=(.n:PickO _ _ _)) (.n:SelR _ _ _)
 ·
  have hc0:=Decidable.not_not.1 hcode
  have hf0:=Ms.check_form hc0
  have hg:=Ms.form_zero.1 hf0
  have hnv5:nv≤512:=by have:=hg.nv;omega
  have hnf5:nf≤1024:=by have:=hg.nf;omega
  refine zu<|zc<|ze<|za<|zEa rfl rfl (zGa (κ:=Int) (ν:=Bool) (fun z:Int=> .int .i64 z) (fun z:Bool=> .bool z) (InK .i64)) (fun b2 _=> ?_)
  refine r_pv rfl rfl (zd rfl)<|zg<|zc<|ze<|ze<|za<|r_pv rfl rfl (zn Try.underlying25 rfl sz23 rfl rfl)<|r_u rfl rfl (zf 1 ty23 rfl rfl rfl)<|r_pv rfl rfl (zJ Try.underlying23 rfl)<|r_pv rfl rfl (zb rfl)<|zg<|zc<|zq<|zha (X:=Nat) (fun x:Nat=>x≤nf) (fun x=>[(19,.int .i64 ((x:Nat):Int)),(18,.int .i64 ((nf:Nat):Int)),(17,.slice pf nf cf),(5,.map (some b2)),(3,.int .i64 0),(2,.int .i64 0),(1,.pointer (some ⟨b1,0,none⟩))]) (fun x=>[mapA b2 (fun z:Int=> .int .i64 z) (fun z:Bool=> .bool z) (InK .i64) (Ms.usedM (F.take x)),boxA b1 25 [.slice pv nv cv,.slice pf nf cf]]) (fun x=>[slF (rI3 .i64) pv cv V,slF (rI3 .i64) pf cf F]) (fun x:Nat=>nf - x) 0 (show 0≤nf from by exact Nat.zero_le _) ((.e rfl (by first|rfl|(congr 1;omega)|simp_all) (.of rfl)):SubM _ _) (ho:=((.e (i:=0) rfl (by rfl) (.c (i:=0) rfl .n)):PickO _ _ _)) ((.of [0,1] rfl):SelR _ _ _) ?_
  rintro i hI
  replace hI:i≤nf:=hI
  try dsimp only
  refine ze<|za<|r_pv rfl rfl (zE rfl rfl)<|zg<|zc<|ze<|zD rfl (fun h3=> ?_) (fun h3=> ?_)
  ·
   have hat:=hg.at (show i<F.length by omega)
   refine zu<|zc<|ze<|zq<|ze<|za<|zI (x0:=(F.getD i (0,0,0))) 1 i rfl Try.underlying23 sz44 rfl rfl rfl (by first|rfl|assumption|(simp_all;done)|omega) rfl rfl (gD (d:=(0,0,0)) (by omega)) (fun b4 o5 hok6=> ?_)
   obtain ⟨hok6x,hok6y,hok6z⟩:=hok6
   replace hok6x:=zl.1 hok6x
   replace hok6y:=zl.1 hok6y
   replace hok6z:=zl.1 hok6z
   refine r_u rfl rfl (zG (j:=0) 0 ty44 rfl rfl rfl (.take (.take (.take .nil))))<|zV rfl rfl (zr zr44 rfl) (fun b7=> ?_)
   refine zv 0 rfl rfl rfl rfl rfl sz44 rfl (.take (.take (.take .nil))) .z<|zg<|zc<|ze<|za<|r_u rfl rfl (zh 0 ty44 rfl rfl (.take (.take (.take .nil))))<|r_pv rfl rfl (zb rfl)<|zg<|zc<|zq<|zbb<|zaa<|ze<|za<|r_pv rfl rfl (zE rfl rfl)<|zg<|zc<|ze<|zZ rfl rfl<|zu<|zc<|ze<|zq<|ze<|za<|r_pv rfl rfl (zia (i:=0) Try.underlying44 ty3 rfl rfl (by decide) rfl)<|r_pv rfl rfl (zd rfl)<|zg<|zc<|za<|r_pv rfl rfl (zb rfl)<|r_pv rfl rfl (zb rfl)<|zBa 1 rfl rfl rfl (zga (a0:=(F.getD i (0,0,0)).1) (v:=true) ky3 Try.underlying94 rfl rfl rfl (zl.2 (by omega))) (fun _=>(.s .z)) (fun _ _=> ?_)
   refine zg<|zA<|zc<|za<|r_pv rfl rfl (zC (z:=1) rfl rfl (w64 (by decide)))<|r_pv rfl rfl (zb rfl)<|zg<|zna<|zaa<|ze<|za<|r_pv rfl rfl (zE rfl rfl)<|zg<|zc<|ze<|zZ rfl rfl<|zu<|zc<|ze<|zq<|ze<|za<|r_pv rfl rfl (zia (i:=1) Try.underlying44 ty3 rfl rfl (by decide) rfl)<|r_pv rfl rfl (zd rfl)<|zg<|zc<|za<|r_pv rfl rfl (zb rfl)<|r_pv rfl rfl (zb rfl)<|zBa 1 rfl rfl rfl (zga (a0:=(F.getD i (0,0,0)).2.1) (v:=true) ky3 Try.underlying94 rfl rfl rfl (zl.2 (by omega))) (fun _=>(.s .z)) (fun _ _=> ?_)
   refine zg<|zA<|zc<|za<|r_pv rfl rfl (zC (z:=2) rfl rfl (w64 (by decide)))<|r_pv rfl rfl (zb rfl)<|zg<|zna<|zaa<|ze<|za<|r_pv rfl rfl (zE rfl rfl)<|zg<|zc<|ze<|zZ rfl rfl<|zu<|zc<|ze<|zq<|ze<|za<|r_pv rfl rfl (zia (i:=2) Try.underlying44 ty3 rfl rfl (by decide) rfl)<|r_pv rfl rfl (zd rfl)<|zg<|zc<|za<|r_pv rfl rfl (zb rfl)<|r_pv rfl rfl (zb rfl)<|zBa 1 rfl rfl rfl (zga (a0:=(F.getD i (0,0,0)).2.2) (v:=true) ky3 Try.underlying94 rfl rfl rfl (zl.2 (by omega))) (fun _=>(.s .z)) (fun _ _=> ?_)
   refine zg<|zA<|zc<|za<|r_pv rfl rfl (zC (z:=3) rfl rfl (w64 (by decide)))<|r_pv rfl rfl (zb rfl)<|zg<|zna<|zaa<|ze<|za<|r_pv rfl rfl (zE rfl rfl)<|zg<|zc<|ze<|zya rfl rfl<|zX<|zj<|zj<|zp<|zA<|zc<|za<|r_pv rfl rfl (zC (z:=(((i+1):Nat):Int)) rfl rfl (w64 (by omega)))<|r_pv rfl rfl (zb rfl)<|zg<|zba (i+1) (show (i+1)≤nf from by exact (by omega:i+1≤nf)) (by show nf - (i+1)<nf - i;omega) ((.of rfl):SubM _ _) (ho:=((.e (i:=1) rfl (by rw [Ms.usedM_take (by omega)]) (.c (i:=1) rfl .n)):PickO _ _ _)) ((.of [1,2] rfl):SelR _ _ _)
  ·
   have hul:=Ms.usedM_len F
   have hsn:=Ms.sidesN_len F
   refine zX<|zj<|zj<|zp<|zc<|ze ?_
   have e8:Ms.usedM (F.take i)=Ms.usedM F:=by rw [List.take_of_length_le (by omega)]
   rw [e8]
   refine zva (OW:=[]) (O:=[mapA b2 (fun z:Int=> .int .i64 z) (fun z:Bool=> .bool z) (InK .i64) (Ms.usedM F),boxA b1 25 [.slice pv nv cv,.slice pf nf cf]]) 100000 mixed (.then .ret) (by kernel_rfl)<|d_pv 0 rfl rfl (by kernel_rfl) (by kernel_rfl) rfl rfl (zb rfl)<|d_u 1 rfl rfl (by kernel_rfl) (by kernel_rfl) rfl rfl (zxb (encK:=(fun z:Int=> .int .i64 z)) (encV:=(fun z:Bool=> .bool z)) (ok:=(InK .i64)) (m:=Ms.usedM F) 0 rfl Try.underlying94 rfl)<|d_u 2 rfl rfl (by kernel_rfl) (by kernel_rfl) rfl rfl (zh 1 ty25 rfl rfl (.take (.take .nil)))<|d_pv 6 rfl rfl (by kernel_rfl) (by kernel_rfl) rfl rfl (zn Try.underlying25 rfl sz23 rfl rfl)<|d_u 7 rfl rfl (by kernel_rfl) (by kernel_rfl) rfl rfl (zf 1 ty23 rfl rfl rfl)<|d_pv 8 rfl rfl (by kernel_rfl) (by kernel_rfl) rfl rfl (zJ Try.underlying23 rfl)<|zO 3 (by kernel_rfl) (zL rfl rfl rfl rfl (.c rfl .n) ce66 (zSd (pv:=pv) (nv:=nv) (cv:=cv) (V:=V) (pf:=pf) (nf:=nf) (cf:=cf) (F:=F) (hnv:=by assumption) (hnf:=by assumption) (hg:=by first|rfl|assumption|omega|(simp;done)|(simp;omega)|(simp_all;done))) (.c (j:=0) rfl (.c (j:=1) rfl .n)) ?_)
   rintro ⟨bZ,rawZ⟩ hraw
   dsimp only [List.append_eq,List.nil_append,List.cons_append]
   replace hraw:Raw rawZ (Ms.sides F):=hraw
   refine d_u 4 rfl rfl (by kernel_rfl) (by kernel_rfl) rfl rfl (zxb (encK:=(fun z:Int×Int=> .agg #[.int .i64 z.1,.int .i64 z.2])) (encV:=(fun z:Option Addr×Nat×Nat=> .slice z.1 z.2.1 z.2.2)) (ok:=(fun z=>InK .i64 z.1∧InK .i64 z.2)) (m:=rawZ) 0 rfl Try.underlying98 rfl) ?_
   have hrl:=hraw.length
   refine d_pv 5 rfl rfl (by kernel_rfl) (by kernel_rfl) rfl rfl (zUa (z:=((((Ms.usedM F).length:Nat):Int) - (((rawZ).length:Nat):Int))) rfl rfl (w64 (by omega)))<|d_pv 9 rfl rfl (by kernel_rfl) (by kernel_rfl) rfl rfl (zC (z:=(((((Ms.usedM F).length:Nat):Int) - (((rawZ).length:Nat):Int))+((nf:Nat):Int))) rfl rfl (w64 (by omega)))<|d_pv 10 rfl rfl (by kernel_rfl) (by kernel_rfl) rfl rfl (zd rfl)<|d_pv 11 rfl rfl (by kernel_rfl) (by kernel_rfl) rfl rfl (zd rfl)<|zwa (by kernel_rfl)<|zc<|zK ?_
   have hz:Ms.eulerR V F=Ms.eulerP F:=by unfold Ms.eulerR;rw [if_pos hc0]
   exact zub Try.results25 () trivial (zx rfl) (zx rfl) (by rw [hz,hc0,Ms.eulerP,hnf,hraw.length]) (ho:=(.n:PickO _ _ _)) (.n:SelR _ _ _)
theorem ztb:Con Try.prog 44 [] [] [] (Y:=(Option Addr)×(Option Addr)) (fun y=>True) (fun y=> .agg #[.slice (y.1) 4 4,.slice (y.2) 4 4]) (fun y=>[]) (fun y=>[slF (rI3 .i64) (y.1) 4 (Ms.exV),slF (rI3 .i64) (y.2) 4 (Ms.exF)]):=by
 refine zy Try.func44 rfl rfl rfl (fun c=> ?_)
 show RunC _ _ _ _ _ [] [] []
 refine ze<|za<|zV rfl rfl (zr zr25 rfl) (fun b1=> ?_)
 refine zg<|zc<|ze<|za<|r_pv rfl rfl (zM zr42 rfl Try.underlying42 (.c sz3 (.c sz3 (.c sz3 .n))) .n .n)<|r_pv rfl rfl (zM zr42 rfl Try.underlying42 (.c sz3 (.c sz3 (.c sz3 .n))) (.c rfl .n) (.c rfl rfl rfl (.take .nil) .n))<|r_pv rfl rfl (zM zr42 rfl Try.underlying42 (.c sz3 (.c sz3 (.c sz3 .n))) (.c rfl .n) (.c rfl rfl rfl (.skip (.take .nil)) .n))<|r_pv rfl rfl (zM zr42 rfl Try.underlying42 (.c sz3 (.c sz3 (.c sz3 .n))) (.c rfl .n) (.c rfl rfl rfl (.skip (.skip (.take .nil))) .n))<|zEa rfl rfl (zz (enc:=fun z:Int×Int×Int=>[.int .i64 z.1,.int .i64 z.2.1,.int .i64 z.2.2]) (ok:=fun z=>InK .i64 z.1∧InK .i64 z.2.1∧InK .i64 z.2.2) (h1:=fun _=>rfl) (h2:=fun _=>rfl) (k:=4) Try.underlying22 inf42 rfl (by decide) (by decide) (by decide) (.c (x:=(0,0,0)) rfl rfl (fun _ _=>by exact ⟨zl.2 (by first|omega|decide|(dsimp only;omega)),zl.2 (by first|omega|decide|(dsimp only;omega)),zl.2 (by first|omega|decide|(dsimp only;omega))⟩) (.c (x:=(1,0,0)) rfl rfl (fun _ _=>by exact ⟨zl.2 (by first|omega|decide|(dsimp only;omega)),zl.2 (by first|omega|decide|(dsimp only;omega)),zl.2 (by first|omega|decide|(dsimp only;omega))⟩) (.c (x:=(0,1,0)) rfl rfl (fun _ _=>by exact ⟨zl.2 (by first|omega|decide|(dsimp only;omega)),zl.2 (by first|omega|decide|(dsimp only;omega)),zl.2 (by first|omega|decide|(dsimp only;omega))⟩) (.c (x:=(0,0,1)) rfl rfl (fun _ _=>by exact ⟨zl.2 (by first|omega|decide|(dsimp only;omega)),zl.2 (by first|omega|decide|(dsimp only;omega)),zl.2 (by first|omega|decide|(dsimp only;omega))⟩) .n))))) (fun b2 _=> ?_)
 refine r_pv rfl rfl (zT zr44 rfl Try.underlying44 sz3 (.c rfl (.c rfl (.c rfl .n))) (.c rfl rfl rfl (.take .nil) (.c rfl rfl rfl (.skip (.take .nil)) (.c rfl rfl rfl (.skip (.skip (.take .nil))) .n))))<|r_pv rfl rfl (zT zr44 rfl Try.underlying44 sz3 (.c rfl (.c rfl (.c rfl .n))) (.c rfl rfl rfl (.take .nil) (.c rfl rfl rfl (.skip (.take .nil)) (.c rfl rfl rfl (.skip (.skip (.take .nil))) .n))))<|r_pv rfl rfl (zT zr44 rfl Try.underlying44 sz3 (.c rfl (.c rfl (.c rfl .n))) (.c rfl rfl rfl (.take .nil) (.c rfl rfl rfl (.skip (.take .nil)) (.c rfl rfl rfl (.skip (.skip (.take .nil))) .n))))<|r_pv rfl rfl (zT zr44 rfl Try.underlying44 sz3 (.c rfl (.c rfl (.c rfl .n))) (.c rfl rfl rfl (.take .nil) (.c rfl rfl rfl (.skip (.take .nil)) (.c rfl rfl rfl (.skip (.skip (.take .nil))) .n))))<|zEa rfl rfl (zz (enc:=fun z:Int×Int×Int=>[.int .i64 z.1,.int .i64 z.2.1,.int .i64 z.2.2]) (ok:=fun z=>InK .i64 z.1∧InK .i64 z.2.1∧InK .i64 z.2.2) (h1:=fun _=>rfl) (h2:=fun _=>rfl) (k:=4) Try.underlying23 inf44 rfl (by decide) (by decide) (by decide) (.c (x:=(0,2,1)) rfl rfl (fun _ _=>by exact ⟨zl.2 (by first|omega|decide|(dsimp only;omega)),zl.2 (by first|omega|decide|(dsimp only;omega)),zl.2 (by first|omega|decide|(dsimp only;omega))⟩) (.c (x:=(0,1,3)) rfl rfl (fun _ _=>by exact ⟨zl.2 (by first|omega|decide|(dsimp only;omega)),zl.2 (by first|omega|decide|(dsimp only;omega)),zl.2 (by first|omega|decide|(dsimp only;omega))⟩) (.c (x:=(0,3,2)) rfl rfl (fun _ _=>by exact ⟨zl.2 (by first|omega|decide|(dsimp only;omega)),zl.2 (by first|omega|decide|(dsimp only;omega)),zl.2 (by first|omega|decide|(dsimp only;omega))⟩) (.c (x:=(1,2,3)) rfl rfl (fun _ _=>by exact ⟨zl.2 (by first|omega|decide|(dsimp only;omega)),zl.2 (by first|omega|decide|(dsimp only;omega)),zl.2 (by first|omega|decide|(dsimp only;omega))⟩) .n))))) (fun b3 _=> ?_)
 refine r_pv rfl rfl (zM zr25 rfl Try.underlying25 (.c sz22 (.c sz23 .n)) (.c rfl (.c rfl .n)) (.c rfl rfl rfl (.take .nil) (.c rfl rfl rfl (.skip (.take .nil)) .n)))<|zv 2 rfl rfl rfl rfl rfl sz25 rfl (.take (.take .nil)) (.s (.s .z))<|zg<|zc<|zK<|zKa 0 rfl .z<|zKa 1 rfl (.s .z) ?_
 exact zB Try.results44 (some ⟨b2,0,none⟩,some ⟨b3,0,none⟩) trivial (zR 2 ty25 rfl rfl (.take (.take .nil))) rfl (ho:=(.n:PickO _ _ _)) ((.e (j:=0) rfl rfl (.e (j:=1) rfl rfl .n)):SelR _ _ _)
end Go.Proofs.Ytalfgjpbbongcaa.Sp
namespace Go.Proofs.Ytalfgjpbbongcaa.Sp
open Go
set_option linter.unusedVariables false
set_option maxRecDepth 100000
set_option maxHeartbeats 8000000
theorem zod {pv:Option Addr} {nv:Nat} {cv:Nat} {V:List (Int×Int×Int)} {pf:Option Addr} {nf:Nat} {cf:Nat} {F:List (Int×Int×Int)} (hnv:V.length=nv) (hnf:F.length=nf):Con Try.prog 16 [.agg #[.slice pv nv cv,.slice pf nf cf]] [] [slF (rI3 .i64) pv cv V,slF (rI3 .i64) pf cf F] (Y:=Wd) (fun y=>True) (fun y=> .tuple #[.agg #[y.b,y.l],.int .i64 (Ms.volC V F)]) (fun y=>[]) (fun y=>[zF y (Ms.vol V F)]):=by
 refine zy Try.func16 rfl rfl rfl (fun c=> ?_)
 show RunC _ _ _ _ _ [(0,.agg #[.slice pv nv cv,.slice pf nf cf])] [] [slF (rI3 .i64) pv cv V,slF (rI3 .i64) pf cf F]
 refine zda 0 rfl (fun hL0=> ?_)
 refine zda 1 rfl (fun hL1=> ?_)
 refine ze<|za<|zV rfl rfl (zla rfl rfl) (fun b1=> ?_)
 refine zV rfl rfl (zr zr34 rfl) (fun b2=> ?_)
 refine r_pv rfl rfl (zd rfl)<|zg<|zc<|ze<|ze<|za<|r_u rfl rfl (zh 1 ty25 rfl rfl (.take (.take .nil)))<|zea rfl rfl (.c rfl .n) ce14 (znb (pv:=pv) (nv:=nv) (cv:=cv) (V:=V) (pf:=pf) (nf:=nf) (cf:=cf) (F:=F) (hnv:=by assumption) (hnf:=by assumption)) (.c (j:=0) rfl (.c (j:=1) rfl .n))<|r_pv rfl rfl (zd rfl)<|zg<|zc<|ze<|za<|r_pv rfl rfl (zb rfl)<|r_pv rfl rfl (zMa rfl rfl)<|zg<|zc<|zD rfl (fun hcode=> ?_) (fun hcode=> ?_)
 ·
  refine ze<|za<|r_pv rfl rfl (zM zr34 rfl Try.underlying34 (.c sz4 (.c sz32 .n)) .n .n)<|r_pv rfl rfl (zb rfl)<|zv 0 rfl rfl rfl rfl rfl sz34 rfl (.take (.take .nil)) .z<|r_pv rfl rfl (zd rfl)<|zg<|zc<|zK<|zk ?_
  obtain ⟨hz1,hz2⟩:=Ms.volC_bad hcode
  refine zpe (zF wz 0) (fun g _=>zF_zero g) ?_
  exact zub Try.results16 wz trivial (zR 0 ty34 rfl rfl (.take (.take .nil))) (zx rfl) (by rw [hz1];rfl) (ho:=(.n:PickO _ _ _)) ((.e (j:=0) rfl (by rw [hz2]) .n):SelR _ _ _)
 ·
  have hc0:=Decidable.not_not.1 hcode
  have hf0:=Ms.check_form hc0
  have hg:=Ms.form_zero.1 hf0
  have hnv5:nv≤512:=by have:=hg.nv;omega
  have hnf5:nf≤1024:=by have:=hg.nf;omega
  refine zu<|zc<|ze<|ze<|za<|r_u rfl rfl (zh 1 ty25 rfl rfl (.take (.take .nil)))<|zfa rfl rfl (.c rfl .n) ce56 (zfc (pv:=pv) (nv:=nv) (cv:=cv) (V:=V) (pf:=pf) (nf:=nf) (cf:=cf) (F:=F) (hnv:=by assumption) (hnf:=by assumption) (hg:=by first|rfl|assumption|omega)) (.c (j:=0) rfl (.c (j:=1) rfl .n)) ?_
  rintro ⟨b23,bm1⟩ hB
  dsimp only [List.append_eq,List.nil_append,List.cons_append]
  replace hB:Ms.BMap F bm1:=hB
  refine r_u rfl rfl (zxb (encK:=(fun z:Int=> .int .i64 z)) (encV:=(fun z:Int=> .int .i64 z)) (ok:=(InK .i64)) (m:=bm1) 0 rfl Try.underlying76 rfl)<|r_pv rfl rfl (zOa rfl rfl)<|zg<|zc<|zD rfl (fun hlen=> ?_) (fun hlen=> ?_)
  ·
   refine ze<|za<|r_pv rfl rfl (zM zr34 rfl Try.underlying34 (.c sz4 (.c sz32 .n)) .n .n)<|zv 1 rfl rfl rfl rfl rfl sz34 rfl (.take (.take .nil)) (.s .z)<|r_pv rfl rfl (zd rfl)<|zg<|zc<|zK<|zk ?_
   obtain ⟨hz1,hz2⟩:=Ms.volC_open hc0 (hB.empty.1 (by omega))
   refine zpe (zF wz 0) (fun g _=>zF_zero g) ?_
   exact zub Try.results16 wz trivial (zR 1 ty34 rfl rfl (.take (.take .nil))) (zx rfl) (by rw [hz1];rfl) (ho:=(.n:PickO _ _ _)) ((.e (j:=0) rfl (by rw [hz2]) .n):SelR _ _ _)
  ·
   refine zu<|zc<|ze<|za<|zfa rfl rfl (.c rfl .n) ce57 (zTb (z:=(0:Int)) (hz:=by first|rfl|assumption|omega)) (.n) ?_
   rintro w34 -
   dsimp only [List.append_eq,List.nil_append,List.cons_append]
   refine zV rfl rfl (zr zr34 rfl) (fun b5=> ?_)
   refine zv 0 rfl rfl rfl rfl rfl sz34 rfl (.take (.take .nil)) .z<|zg<|zc<|ze<|ze<|za<|r_pv rfl rfl (zn Try.underlying25 rfl sz23 rfl rfl)<|r_u rfl rfl (zf 3 ty23 rfl rfl rfl)<|r_pv rfl rfl (zJ Try.underlying23 rfl)<|r_pv rfl rfl (zb rfl)<|zg<|zc<|zq<|zha (X:=Nat×Int×Wd) (fun x:Nat×Int×Wd=>x.1≤nf∧x.2.1=Ms.volS V (F.take x.1)∧Big.ln x.2.1≤4000+x.1) (fun x=>[(27,.int .i64 ((x.1:Nat):Int)),(26,.int .i64 ((nf:Nat):Int)),(25,.slice pf nf cf),(5,.pointer (some ⟨b5,0,none⟩)),(3,.int .i64 0),(2,.pointer (some ⟨b2,0,none⟩)),(1,.pointer (some ⟨b1,0,none⟩))]) (fun x=>[boxA b5 34 [x.2.2.b,x.2.2.l],mapA b23 (fun z:Int=> .int .i64 z) (fun z:Int=> .int .i64 z) (InK .i64) bm1,boxA b2 34 [.bool false,.slice none 0 0],boxA b1 25 [.slice pv nv cv,.slice pf nf cf]]) (fun x=>[zF x.2.2 (x.2.1),zF w34 (0:Int),slF (rI3 .i64) pv cv V,slF (rI3 .i64) pf cf F]) (fun x:Nat×Int×Wd=>nf - x.1) (0,(0:Int),w34) (show 0≤nf∧(0:Int)=Ms.volS V (F.take 0)∧Big.ln (0:Int)≤4000+0 from by exact ⟨Nat.zero_le _,rfl,by rw [Big.zBd];omega⟩) ((.e rfl (by first|rfl|(congr 1;omega)|simp_all) (.of rfl)):SubM _ _) (ho:=((.of [0,0,0,0] rfl):PickO _ _ _)) ((.of [0,0,1,2] rfl):SelR _ _ _) ?_
   rintro ⟨i,s,ws⟩ hI
   replace hI:i≤nf∧s=Ms.volS V (F.take i)∧Big.ln s≤4000+i:=hI
   try dsimp only
   obtain ⟨hi,hs,hln⟩:=hI
   refine ze<|za<|r_pv rfl rfl (zE rfl rfl)<|zg<|zc<|ze<|zD rfl (fun h6=> ?_) (fun h6=> ?_)
   ·
    have hat:=hg.at (show i<F.length by omega)
    have hv0:=hg.vat (i:=((F.getD i (0,0,0)).1).toNat) (by omega)
    have hv1:=hg.vat (i:=((F.getD i (0,0,0)).2.1).toNat) (by omega)
    have hv2:=hg.vat (i:=((F.getD i (0,0,0)).2.2).toNat) (by omega)
    refine zu<|zc<|ze<|zq<|ze<|za<|zI (x0:=(F.getD i (0,0,0))) 3 i rfl Try.underlying23 sz44 rfl rfl rfl (by first|rfl|assumption|(simp_all;done)|omega) rfl rfl (gD (d:=(0,0,0)) (by omega)) (fun b7 o8 hok9=> ?_)
    obtain ⟨hok9x,hok9y,hok9z⟩:=hok9
    replace hok9x:=zl.1 hok9x
    replace hok9y:=zl.1 hok9y
    replace hok9z:=zl.1 hok9z
    refine r_u rfl rfl (zG (j:=0) 0 ty44 rfl rfl rfl (.take (.take (.take .nil))))<|zV rfl rfl (zr zr44 rfl) (fun b10=> ?_)
    refine zv 0 rfl rfl rfl rfl rfl sz44 rfl (.take (.take (.take .nil))) .z<|zg<|zc<|ze<|za<|r_pv rfl rfl (zM zr42 rfl Try.underlying42 (.c sz3 (.c sz3 (.c sz3 .n))) .n .n)<|zV rfl rfl (zr zr42 rfl) (fun b11=> ?_)
    refine zv 0 rfl rfl rfl rfl rfl sz42 rfl (.take (.take (.take .nil))) .z<|zg<|zc<|ze<|zva (OW:=[]) (O:=[boxA b11 42 [.int .i64 0,.int .i64 0,.int .i64 0],boxA b10 44 [.int .i64 ((F.getD i (0,0,0)).1),.int .i64 ((F.getD i (0,0,0)).2.1),.int .i64 ((F.getD i (0,0,0)).2.2)],boxA b5 34 [ws.b,ws.l],mapA b23 (fun z:Int=> .int .i64 z) (fun z:Int=> .int .i64 z) (InK .i64) bm1,boxA b2 34 [.bool false,.slice none 0 0],boxA b1 25 [.slice pv nv cv,.slice pf nf cf]]) 27 mixed (.then (.block (.then (.then (.block (.then .ret)))))) (by kernel_rfl)<|d_u 0 rfl rfl (by kernel_rfl) (by kernel_rfl) rfl rfl (zh 0 ty42 rfl rfl (.take (.take (.take .nil))))<|d_pv 1 rfl rfl (by kernel_rfl) (by kernel_rfl) rfl rfl (zn Try.underlying25 rfl sz22 rfl rfl)<|d_u 2 rfl rfl (by kernel_rfl) (by kernel_rfl) rfl rfl (zf 5 ty22 rfl rfl rfl)<|d_pv 3 rfl rfl (by kernel_rfl) (by kernel_rfl) rfl rfl (zm (i:=0) Try.underlying44 sz3 rfl rfl (by decide) rfl)<|d_u 4 rfl rfl (by kernel_rfl) (by kernel_rfl) rfl rfl (zf 1 ty3 rfl rfl rfl)<|zka (x0:=(V.getD (((F.getD i (0,0,0)).1).toNat) (0,0,0))) 5 rfl rfl (by kernel_rfl) (by kernel_rfl) 3 (((F.getD i (0,0,0)).1).toNat) rfl Try.underlying22 sz42 rfl rfl rfl (by first|rfl|assumption|(simp_all;done)|omega) rfl (by omega) (gD (d:=(0,0,0)) (by omega)) (fun b12 o13 hok14=> ?_)
    obtain ⟨hok14x,hok14y,hok14z⟩:=hok14
    replace hok14x:=zl.1 hok14x
    replace hok14y:=zl.1 hok14y
    replace hok14z:=zl.1 hok14z
    refine d_u 6 rfl rfl (by kernel_rfl) (by kernel_rfl) rfl rfl (zG (j:=0) 0 ty42 rfl rfl rfl (.take (.take (.take .nil))))<|d_u 8 rfl rfl (by kernel_rfl) (by kernel_rfl) rfl rfl (zh 0 ty42 rfl rfl (.take (.take (.take .nil))))<|d_pv 9 rfl rfl (by kernel_rfl) (by kernel_rfl) rfl rfl (zn Try.underlying25 rfl sz22 rfl rfl)<|d_u 10 rfl rfl (by kernel_rfl) (by kernel_rfl) rfl rfl (zf 5 ty22 rfl rfl rfl)<|d_pv 11 rfl rfl (by kernel_rfl) (by kernel_rfl) rfl rfl (zm (i:=1) Try.underlying44 sz3 rfl rfl (by decide) rfl)<|d_u 12 rfl rfl (by kernel_rfl) (by kernel_rfl) rfl rfl (zf 1 ty3 rfl rfl rfl)<|zka (x0:=(V.getD (((F.getD i (0,0,0)).2.1).toNat) (0,0,0))) 13 rfl rfl (by kernel_rfl) (by kernel_rfl) 4 (((F.getD i (0,0,0)).2.1).toNat) rfl Try.underlying22 sz42 rfl rfl rfl (by first|rfl|assumption|(simp_all;done)|omega) rfl (by omega) (gD (d:=(0,0,0)) (by omega)) (fun b15 o16 hok17=> ?_)
    obtain ⟨hok17x,hok17y,hok17z⟩:=hok17
    replace hok17x:=zl.1 hok17x
    replace hok17y:=zl.1 hok17y
    replace hok17z:=zl.1 hok17z
    refine d_u 14 rfl rfl (by kernel_rfl) (by kernel_rfl) rfl rfl (zG (j:=0) 0 ty42 rfl rfl rfl (.take (.take (.take .nil))))<|d_u 16 rfl rfl (by kernel_rfl) (by kernel_rfl) rfl rfl (zh 0 ty42 rfl rfl (.take (.take (.take .nil))))<|d_pv 17 rfl rfl (by kernel_rfl) (by kernel_rfl) rfl rfl (zn Try.underlying25 rfl sz22 rfl rfl)<|d_u 18 rfl rfl (by kernel_rfl) (by kernel_rfl) rfl rfl (zf 5 ty22 rfl rfl rfl)<|d_pv 19 rfl rfl (by kernel_rfl) (by kernel_rfl) rfl rfl (zm (i:=2) Try.underlying44 sz3 rfl rfl (by decide) rfl)<|d_u 20 rfl rfl (by kernel_rfl) (by kernel_rfl) rfl rfl (zf 1 ty3 rfl rfl rfl)<|zka (x0:=(V.getD (((F.getD i (0,0,0)).2.2).toNat) (0,0,0))) 21 rfl rfl (by kernel_rfl) (by kernel_rfl) 5 (((F.getD i (0,0,0)).2.2).toNat) rfl Try.underlying22 sz42 rfl rfl rfl (by first|rfl|assumption|(simp_all;done)|omega) rfl (by omega) (gD (d:=(0,0,0)) (by omega)) (fun b18 o19 hok20=> ?_)
    obtain ⟨hok20x,hok20y,hok20z⟩:=hok20
    replace hok20x:=zl.1 hok20x
    replace hok20y:=zl.1 hok20y
    replace hok20z:=zl.1 hok20z
    refine d_u 22 rfl rfl (by kernel_rfl) (by kernel_rfl) rfl rfl (zG (j:=0) 0 ty42 rfl rfl rfl (.take (.take (.take .nil))))<|zPb (m':=[(54,.agg #[.int .i64 ((V.getD (((F.getD i (0,0,0)).2.2).toNat) (0,0,0)).1),.int .i64 ((V.getD (((F.getD i (0,0,0)).2.2).toNat) (0,0,0)).2.1),.int .i64 ((V.getD (((F.getD i (0,0,0)).2.2).toNat) (0,0,0)).2.2)]),(48,.agg #[.int .i64 0,.int .i64 0,.int .i64 0]),(46,.agg #[.int .i64 ((V.getD (((F.getD i (0,0,0)).2.1).toNat) (0,0,0)).1),.int .i64 ((V.getD (((F.getD i (0,0,0)).2.1).toNat) (0,0,0)).2.1),.int .i64 ((V.getD (((F.getD i (0,0,0)).2.1).toNat) (0,0,0)).2.2)]),(40,.agg #[.int .i64 0,.int .i64 0,.int .i64 0]),(38,.agg #[.int .i64 ((V.getD (((F.getD i (0,0,0)).1).toNat) (0,0,0)).1),.int .i64 ((V.getD (((F.getD i (0,0,0)).1).toNat) (0,0,0)).2.1),.int .i64 ((V.getD (((F.getD i (0,0,0)).1).toNat) (0,0,0)).2.2)]),(32,.agg #[.int .i64 0,.int .i64 0,.int .i64 0]),(27,.int .i64 ((i:Nat):Int)),(26,.int .i64 ((nf:Nat):Int)),(25,.slice pf nf cf),(5,.pointer (some ⟨b5,0,none⟩)),(3,.int .i64 0),(2,.pointer (some ⟨b2,0,none⟩)),(1,.pointer (some ⟨b1,0,none⟩))]) (R':=[zF ws s,zF w34 (0:Int),slF (rI3 .i64) pv cv V,slF (rI3 .i64) pf cf F]) ((.of rfl):SubM _ _) (List.Perm.refl _) (List.Perm.refl _) ((.of [4,5,6,7] rfl):SelR _ _ _) ?_
    obtain ⟨qd1,hqd1⟩:∃z:Int,z=(V.getD (((F.getD i (0,0,0)).2.2).toNat) (0,0,0)).1:=⟨_,rfl⟩
    rw [← hqd1]
    obtain ⟨qd2,hqd2⟩:∃z:Int,z=(V.getD (((F.getD i (0,0,0)).2.2).toNat) (0,0,0)).2.1:=⟨_,rfl⟩
    rw [← hqd2]
    obtain ⟨qd3,hqd3⟩:∃z:Int,z=(V.getD (((F.getD i (0,0,0)).2.2).toNat) (0,0,0)).2.2:=⟨_,rfl⟩
    rw [← hqd3]
    obtain ⟨qd4,hqd4⟩:∃z:Int,z=(V.getD (((F.getD i (0,0,0)).2.1).toNat) (0,0,0)).1:=⟨_,rfl⟩
    rw [← hqd4]
    obtain ⟨qd5,hqd5⟩:∃z:Int,z=(V.getD (((F.getD i (0,0,0)).2.1).toNat) (0,0,0)).2.1:=⟨_,rfl⟩
    rw [← hqd5]
    obtain ⟨qd6,hqd6⟩:∃z:Int,z=(V.getD (((F.getD i (0,0,0)).2.1).toNat) (0,0,0)).2.2:=⟨_,rfl⟩
    rw [← hqd6]
    obtain ⟨qd7,hqd7⟩:∃z:Int,z=(V.getD (((F.getD i (0,0,0)).1).toNat) (0,0,0)).1:=⟨_,rfl⟩
    rw [← hqd7]
    obtain ⟨qd8,hqd8⟩:∃z:Int,z=(V.getD (((F.getD i (0,0,0)).1).toNat) (0,0,0)).2.1:=⟨_,rfl⟩
    rw [← hqd8]
    obtain ⟨qd9,hqd9⟩:∃z:Int,z=(V.getD (((F.getD i (0,0,0)).1).toNat) (0,0,0)).2.2:=⟨_,rfl⟩
    rw [← hqd9]
    refine zQ (X:=Wd×Wd×Wd×Wd×Wd×Wd×Wd×Wd×Wd×Nat×Nat×Nat) (k':=0) (L':=(lb 30 1073741823)) (fun (u7_1,u7_2,u7_3,u15_1,u15_2,u15_3,u23_1,u23_2,u23_3,u24_1,u25_1,u26_1)=>([(11,.pointer (some ⟨u26_1,0,none⟩)),(10,.pointer (some ⟨u25_1,0,none⟩)),(9,.pointer (some ⟨u24_1,0,none⟩)),(27,.int .i64 ((i:Nat):Int)),(26,.int .i64 ((nf:Nat):Int)),(25,.slice pf nf cf),(5,.pointer (some ⟨b5,0,none⟩)),(3,.int .i64 0),(2,.pointer (some ⟨b2,0,none⟩)),(1,.pointer (some ⟨b1,0,none⟩))],[boxA u26_1 89 (cw [u23_1,u23_2,u23_3]),boxA u25_1 89 (cw [u15_1,u15_2,u15_3]),boxA u24_1 89 (cw [u7_1,u7_2,u7_3])],[boxA b11 42 [.int .i64 0,.int .i64 0,.int .i64 0],boxA b10 44 [.int .i64 ((F.getD i (0,0,0)).1),.int .i64 ((F.getD i (0,0,0)).2.1),.int .i64 ((F.getD i (0,0,0)).2.2)],boxA b5 34 [ws.b,ws.l],mapA b23 (fun z:Int=> .int .i64 z) (fun z:Int=> .int .i64 z) (InK .i64) bm1,boxA b2 34 [.bool false,.slice none 0 0],boxA b1 25 [.slice pv nv cv,.slice pf nf cf]],[zF u23_1 (qd1 - 0),zF u23_2 (qd2 - 0),zF u23_3 (qd3 - 0),zF u15_1 (qd4 - 0),zF u15_2 (qd5 - 0),zF u15_3 (qd6 - 0),zF u7_1 (qd7 - 0),zF u7_2 (qd8 - 0),zF u7_3 (qd9 - 0),zF ws s,zF w34 (0:Int),slF (rI3 .i64) pv cv V,slF (rI3 .i64) pf cf F])) ?_ (fun hD0=> ?_)
    ·
     rintro ⟨u7_1,u7_2,u7_3,u15_1,u15_2,u15_3,u23_1,u23_2,u23_3,u24_1,u25_1,u26_1⟩
     dsimp only [cw]
     refine zwa (by kernel_rfl) ?_
     subst hqd1 hqd2 hqd3 hqd4 hqd5 hqd6 hqd7 hqd8 hqd9
     refine zc<|zTa (.c (i:=5) rfl (.c (i:=0) rfl (.c (i:=0) rfl (.c (i:=0) rfl (.c (i:=0) rfl (.c (i:=0) rfl (.c (i:=0) rfl (.c (i:=0) rfl (.c (i:=0) rfl .n)))))))))<|zva (OW:=[boxA b5 34 [ws.b,ws.l]]) (O:=[boxA u26_1 89 [u23_1.b,u23_1.l,u23_2.b,u23_2.l,u23_3.b,u23_3.l],boxA u25_1 89 [u15_1.b,u15_1.l,u15_2.b,u15_2.l,u15_3.b,u15_3.l],boxA u24_1 89 [u7_1.b,u7_1.l,u7_2.b,u7_2.l,u7_3.b,u7_3.l],boxA b11 42 [.int .i64 0,.int .i64 0,.int .i64 0],boxA b10 44 [.int .i64 ((F.getD i (0,0,0)).1),.int .i64 ((F.getD i (0,0,0)).2.1),.int .i64 ((F.getD i (0,0,0)).2.2)],mapA b23 (fun z:Int=> .int .i64 z) (fun z:Int=> .int .i64 z) (InK .i64) bm1,boxA b2 34 [.bool false,.slice none 0 0],boxA b1 25 [.slice pv nv cv,.slice pf nf cf]]) 7 mixed (.block (.then (.then (.block (.then .ret))))) (by kernel_rfl)<|d_uw 0 rfl rfl (by kernel_rfl) (by kernel_rfl) (by kernel_rfl) rfl rfl (zh 0 ty34 rfl rfl (.take (.take .nil)))<|d_uw 1 rfl rfl (by kernel_rfl) (by kernel_rfl) (by kernel_rfl) rfl rfl (zh 3 ty89 rfl rfl (.take (.take (.take (.take (.take (.take .nil)))))))<|d_uw 2 rfl rfl (by kernel_rfl) (by kernel_rfl) (by kernel_rfl) rfl rfl (zh 2 ty89 rfl rfl (.take (.take (.take (.take (.take (.take .nil)))))))<|d_uw 3 rfl rfl (by kernel_rfl) (by kernel_rfl) (by kernel_rfl) rfl rfl (zh 1 ty89 rfl rfl (.take (.take (.take (.take (.take (.take .nil)))))))<|zO 4 (by kernel_rfl) (zL rfl rfl rfl rfl (.c rfl (.c rfl .n)) ce61 (zQd (ex:=(((V.getD (((F.getD i (0,0,0)).2.1).toNat) (0,0,0)).1) - 0)) (ey:=(((V.getD (((F.getD i (0,0,0)).2.1).toNat) (0,0,0)).2.1) - 0)) (ez:=(((V.getD (((F.getD i (0,0,0)).2.1).toNat) (0,0,0)).2.2) - 0)) (wa0:=u15_1) (wa1:=u15_2) (wa2:=u15_3) (fx:=(((V.getD (((F.getD i (0,0,0)).2.2).toNat) (0,0,0)).1) - 0)) (fy:=(((V.getD (((F.getD i (0,0,0)).2.2).toNat) (0,0,0)).2.1) - 0)) (fz:=(((V.getD (((F.getD i (0,0,0)).2.2).toNat) (0,0,0)).2.2) - 0)) (wb0:=u23_1) (wb1:=u23_2) (wb2:=u23_3) (hlex:=by exact Nat.le_trans (Big.zqa (by omega)) (by decide)) (hley:=by exact Nat.le_trans (Big.zqa (by omega)) (by decide)) (hlez:=by exact Nat.le_trans (Big.zqa (by omega)) (by decide)) (hlfx:=by exact Nat.le_trans (Big.zqa (by omega)) (by decide)) (hlfy:=by exact Nat.le_trans (Big.zqa (by omega)) (by decide)) (hlfz:=by exact Nat.le_trans (Big.zqa (by omega)) (by decide))) (.c (j:=3) rfl (.c (j:=4) rfl (.c (j:=5) rfl (.c (j:=0) rfl (.c (j:=1) rfl (.c (j:=2) rfl .n)))))) ?_)
     rintro ⟨wr021,wr122,wr223⟩ -
     dsimp only [List.append_eq,List.nil_append,List.cons_append]
     refine zO 5 (by kernel_rfl) (zL rfl rfl rfl rfl (.c rfl (.c rfl .n)) ce60 (zGe (ex:=(((V.getD (((F.getD i (0,0,0)).1).toNat) (0,0,0)).1) - 0)) (ey:=(((V.getD (((F.getD i (0,0,0)).1).toNat) (0,0,0)).2.1) - 0)) (ez:=(((V.getD (((F.getD i (0,0,0)).1).toNat) (0,0,0)).2.2) - 0)) (wa0:=u7_1) (wa1:=u7_2) (wa2:=u7_3) (fx:=((((V.getD (((F.getD i (0,0,0)).2.1).toNat) (0,0,0)).2.1) - 0)*(((V.getD (((F.getD i (0,0,0)).2.2).toNat) (0,0,0)).2.2) - 0) - (((V.getD (((F.getD i (0,0,0)).2.1).toNat) (0,0,0)).2.2) - 0)*(((V.getD (((F.getD i (0,0,0)).2.2).toNat) (0,0,0)).2.1) - 0))) (fy:=((((V.getD (((F.getD i (0,0,0)).2.1).toNat) (0,0,0)).2.2) - 0)*(((V.getD (((F.getD i (0,0,0)).2.2).toNat) (0,0,0)).1) - 0) - (((V.getD (((F.getD i (0,0,0)).2.1).toNat) (0,0,0)).1) - 0)*(((V.getD (((F.getD i (0,0,0)).2.2).toNat) (0,0,0)).2.2) - 0))) (fz:=((((V.getD (((F.getD i (0,0,0)).2.1).toNat) (0,0,0)).1) - 0)*(((V.getD (((F.getD i (0,0,0)).2.2).toNat) (0,0,0)).2.1) - 0) - (((V.getD (((F.getD i (0,0,0)).2.1).toNat) (0,0,0)).2.1) - 0)*(((V.getD (((F.getD i (0,0,0)).2.2).toNat) (0,0,0)).1) - 0))) (wb0:=wr021) (wb1:=wr122) (wb2:=wr223) (hlex:=by first|(exact Nat.le_trans (Big.zqa (by omega)) (by decide))|(refine Nat.le_trans (Big.zWa ?_ ?_ ?_ ?_) (by decide) <;> exact Nat.le_trans (Big.zqa (by omega)) (by decide))) (hley:=by first|(exact Nat.le_trans (Big.zqa (by omega)) (by decide))|(refine Nat.le_trans (Big.zWa ?_ ?_ ?_ ?_) (by decide) <;> exact Nat.le_trans (Big.zqa (by omega)) (by decide))) (hlez:=by first|(exact Nat.le_trans (Big.zqa (by omega)) (by decide))|(refine Nat.le_trans (Big.zWa ?_ ?_ ?_ ?_) (by decide) <;> exact Nat.le_trans (Big.zqa (by omega)) (by decide))) (hlfx:=by first|(exact Nat.le_trans (Big.zqa (by omega)) (by decide))|(refine Nat.le_trans (Big.zWa ?_ ?_ ?_ ?_) (by decide) <;> exact Nat.le_trans (Big.zqa (by omega)) (by decide))) (hlfy:=by first|(exact Nat.le_trans (Big.zqa (by omega)) (by decide))|(refine Nat.le_trans (Big.zWa ?_ ?_ ?_ ?_) (by decide) <;> exact Nat.le_trans (Big.zqa (by omega)) (by decide))) (hlfz:=by first|(exact Nat.le_trans (Big.zqa (by omega)) (by decide))|(refine Nat.le_trans (Big.zWa ?_ ?_ ?_ ?_) (by decide) <;> exact Nat.le_trans (Big.zqa (by omega)) (by decide)))) (.c (j:=9) rfl (.c (j:=10) rfl (.c (j:=11) rfl (.c (j:=0) rfl (.c (j:=1) rfl (.c (j:=2) rfl .n)))))) ?_)
     rintro w324 -
     dsimp only [List.append_eq,List.nil_append,List.cons_append]
     refine zO 6 (by kernel_rfl) (zL rfl rfl rfl rfl (.c rfl (.c rfl .n)) ce59 (zGb (w1:=ws) (w2:=w324) (x1:=s) (x2:=Ms.dot ((((V.getD (((F.getD i (0,0,0)).1).toNat) (0,0,0)).1) - 0),(((V.getD (((F.getD i (0,0,0)).1).toNat) (0,0,0)).2.1) - 0),(((V.getD (((F.getD i (0,0,0)).1).toNat) (0,0,0)).2.2) - 0)) (((((V.getD (((F.getD i (0,0,0)).2.1).toNat) (0,0,0)).2.1) - 0)*(((V.getD (((F.getD i (0,0,0)).2.2).toNat) (0,0,0)).2.2) - 0) - (((V.getD (((F.getD i (0,0,0)).2.1).toNat) (0,0,0)).2.2) - 0)*(((V.getD (((F.getD i (0,0,0)).2.2).toNat) (0,0,0)).2.1) - 0)),((((V.getD (((F.getD i (0,0,0)).2.1).toNat) (0,0,0)).2.2) - 0)*(((V.getD (((F.getD i (0,0,0)).2.2).toNat) (0,0,0)).1) - 0) - (((V.getD (((F.getD i (0,0,0)).2.1).toNat) (0,0,0)).1) - 0)*(((V.getD (((F.getD i (0,0,0)).2.2).toNat) (0,0,0)).2.2) - 0)),((((V.getD (((F.getD i (0,0,0)).2.1).toNat) (0,0,0)).1) - 0)*(((V.getD (((F.getD i (0,0,0)).2.2).toNat) (0,0,0)).2.1) - 0) - (((V.getD (((F.getD i (0,0,0)).2.1).toNat) (0,0,0)).2.1) - 0)*(((V.getD (((F.getD i (0,0,0)).2.2).toNat) (0,0,0)).1) - 0)))) (hb1:=by first|omega|(refine Nat.le_trans (Big.zDd _ _ ?_ ?_ ?_ ?_ ?_ ?_) (by decide) <;> (try dsimp only) <;> first|(exact Nat.le_trans (Big.zqa (by omega)) (by decide))|(refine Nat.le_trans (Big.zWa ?_ ?_ ?_ ?_) (by decide) <;> exact Nat.le_trans (Big.zqa (by omega)) (by decide)))) (hb2:=by first|omega|(refine Nat.le_trans (Big.zDd _ _ ?_ ?_ ?_ ?_ ?_ ?_) (by decide) <;> (try dsimp only) <;> first|(exact Nat.le_trans (Big.zqa (by omega)) (by decide))|(refine Nat.le_trans (Big.zWa ?_ ?_ ?_ ?_) (by decide) <;> exact Nat.le_trans (Big.zqa (by omega)) (by decide))))) (.c (j:=13) rfl (.c (j:=0) rfl .n)) ?_)
     rintro w325 -
     dsimp only [List.append_eq,List.nil_append,List.cons_append]
     refine zO 7 (by kernel_rfl) (zca (by kernel_rfl) rfl rfl rfl rfl rfl sz34 rfl (.take (.take .nil)) ?_)
     refine zwa (by kernel_rfl)<|zA<|zc<|za<|r_pv rfl rfl (zC (z:=(((i+1):Nat):Int)) rfl rfl (w64 (by omega)))<|r_pv rfl rfl (zb rfl)<|zg<|zba ((i+1),(s+(Ms.dot ((((V.getD (((F.getD i (0,0,0)).1).toNat) (0,0,0)).1) - 0),(((V.getD (((F.getD i (0,0,0)).1).toNat) (0,0,0)).2.1) - 0),(((V.getD (((F.getD i (0,0,0)).1).toNat) (0,0,0)).2.2) - 0)) (((((V.getD (((F.getD i (0,0,0)).2.1).toNat) (0,0,0)).2.1) - 0)*(((V.getD (((F.getD i (0,0,0)).2.2).toNat) (0,0,0)).2.2) - 0) - (((V.getD (((F.getD i (0,0,0)).2.1).toNat) (0,0,0)).2.2) - 0)*(((V.getD (((F.getD i (0,0,0)).2.2).toNat) (0,0,0)).2.1) - 0)),((((V.getD (((F.getD i (0,0,0)).2.1).toNat) (0,0,0)).2.2) - 0)*(((V.getD (((F.getD i (0,0,0)).2.2).toNat) (0,0,0)).1) - 0) - (((V.getD (((F.getD i (0,0,0)).2.1).toNat) (0,0,0)).1) - 0)*(((V.getD (((F.getD i (0,0,0)).2.2).toNat) (0,0,0)).2.2) - 0)),((((V.getD (((F.getD i (0,0,0)).2.1).toNat) (0,0,0)).1) - 0)*(((V.getD (((F.getD i (0,0,0)).2.2).toNat) (0,0,0)).2.1) - 0) - (((V.getD (((F.getD i (0,0,0)).2.1).toNat) (0,0,0)).2.1) - 0)*(((V.getD (((F.getD i (0,0,0)).2.2).toNat) (0,0,0)).1) - 0))))),w325) (show (i+1)≤nf∧(s+(Ms.dot ((((V.getD (((F.getD i (0,0,0)).1).toNat) (0,0,0)).1) - 0),(((V.getD (((F.getD i (0,0,0)).1).toNat) (0,0,0)).2.1) - 0),(((V.getD (((F.getD i (0,0,0)).1).toNat) (0,0,0)).2.2) - 0)) (((((V.getD (((F.getD i (0,0,0)).2.1).toNat) (0,0,0)).2.1) - 0)*(((V.getD (((F.getD i (0,0,0)).2.2).toNat) (0,0,0)).2.2) - 0) - (((V.getD (((F.getD i (0,0,0)).2.1).toNat) (0,0,0)).2.2) - 0)*(((V.getD (((F.getD i (0,0,0)).2.2).toNat) (0,0,0)).2.1) - 0)),((((V.getD (((F.getD i (0,0,0)).2.1).toNat) (0,0,0)).2.2) - 0)*(((V.getD (((F.getD i (0,0,0)).2.2).toNat) (0,0,0)).1) - 0) - (((V.getD (((F.getD i (0,0,0)).2.1).toNat) (0,0,0)).1) - 0)*(((V.getD (((F.getD i (0,0,0)).2.2).toNat) (0,0,0)).2.2) - 0)),((((V.getD (((F.getD i (0,0,0)).2.1).toNat) (0,0,0)).1) - 0)*(((V.getD (((F.getD i (0,0,0)).2.2).toNat) (0,0,0)).2.1) - 0) - (((V.getD (((F.getD i (0,0,0)).2.1).toNat) (0,0,0)).2.1) - 0)*(((V.getD (((F.getD i (0,0,0)).2.2).toNat) (0,0,0)).1) - 0)))))=Ms.volS V (F.take (i+1))∧Big.ln (s+(Ms.dot ((((V.getD (((F.getD i (0,0,0)).1).toNat) (0,0,0)).1) - 0),(((V.getD (((F.getD i (0,0,0)).1).toNat) (0,0,0)).2.1) - 0),(((V.getD (((F.getD i (0,0,0)).1).toNat) (0,0,0)).2.2) - 0)) (((((V.getD (((F.getD i (0,0,0)).2.1).toNat) (0,0,0)).2.1) - 0)*(((V.getD (((F.getD i (0,0,0)).2.2).toNat) (0,0,0)).2.2) - 0) - (((V.getD (((F.getD i (0,0,0)).2.1).toNat) (0,0,0)).2.2) - 0)*(((V.getD (((F.getD i (0,0,0)).2.2).toNat) (0,0,0)).2.1) - 0)),((((V.getD (((F.getD i (0,0,0)).2.1).toNat) (0,0,0)).2.2) - 0)*(((V.getD (((F.getD i (0,0,0)).2.2).toNat) (0,0,0)).1) - 0) - (((V.getD (((F.getD i (0,0,0)).2.1).toNat) (0,0,0)).1) - 0)*(((V.getD (((F.getD i (0,0,0)).2.2).toNat) (0,0,0)).2.2) - 0)),((((V.getD (((F.getD i (0,0,0)).2.1).toNat) (0,0,0)).1) - 0)*(((V.getD (((F.getD i (0,0,0)).2.2).toNat) (0,0,0)).2.1) - 0) - (((V.getD (((F.getD i (0,0,0)).2.1).toNat) (0,0,0)).2.1) - 0)*(((V.getD (((F.getD i (0,0,0)).2.2).toNat) (0,0,0)).1) - 0)))))≤4000+(i+1) from by refine ⟨by omega,by rw [Ms.volS_take (by omega),hs];simp [Ms.tet,Ms.det,Ms.pt,Ms.cross],?_⟩;refine Nat.le_trans (Big.zRb _ _) ?_;have h9:∀z:Int,Big.ln z≤3000→max (Big.ln s) (Big.ln z)+1≤4000+(i+1):=fun z hz=>(by omega);refine h9 _ ?_;refine Big.zDd _ _ ?_ ?_ ?_ ?_ ?_ ?_ <;> (try dsimp only) <;> first|(exact Nat.le_trans (Big.zqa (by omega)) (by decide))|(refine Nat.le_trans (Big.zWa ?_ ?_ ?_ ?_) (by decide) <;> exact Nat.le_trans (Big.zqa (by omega)) (by decide))) (by show nf - (i+1)<nf - i;omega) ((.of rfl):SubM _ _) (ho:=((.of [0,5,5,5] rfl):PickO _ _ _)) ((.e (j:=0) rfl (by first|rfl|simp_all) (.of [15,16,17] rfl)):SelR _ _ _)
    refine zQ (X:=Wd×Wd×Wd×Wd×Wd×Wd×Wd×Wd×Wd×Nat×Nat×Nat) (k':=1) (L':=(lb 30 536870911)) (fun (u7_1,u7_2,u7_3,u15_1,u15_2,u15_3,u23_1,u23_2,u23_3,u24_1,u25_1,u26_1)=>([(11,.pointer (some ⟨u26_1,0,none⟩)),(10,.pointer (some ⟨u25_1,0,none⟩)),(9,.pointer (some ⟨u24_1,0,none⟩)),(55,.agg (cw [u23_1,u23_2,u23_3]).toArray),(27,.int .i64 ((i:Nat):Int)),(26,.int .i64 ((nf:Nat):Int)),(25,.slice pf nf cf),(5,.pointer (some ⟨b5,0,none⟩)),(3,.int .i64 0),(2,.pointer (some ⟨b2,0,none⟩)),(1,.pointer (some ⟨b1,0,none⟩))],[boxA u25_1 89 (cw [u15_1,u15_2,u15_3]),boxA u24_1 89 (cw [u7_1,u7_2,u7_3]),boxA u26_1 89 [.bool false,.slice none 0 0,.bool false,.slice none 0 0,.bool false,.slice none 0 0]],[boxA b11 42 [.int .i64 0,.int .i64 0,.int .i64 0],boxA b10 44 [.int .i64 ((F.getD i (0,0,0)).1),.int .i64 ((F.getD i (0,0,0)).2.1),.int .i64 ((F.getD i (0,0,0)).2.2)],boxA b5 34 [ws.b,ws.l],mapA b23 (fun z:Int=> .int .i64 z) (fun z:Int=> .int .i64 z) (InK .i64) bm1,boxA b2 34 [.bool false,.slice none 0 0],boxA b1 25 [.slice pv nv cv,.slice pf nf cf]],[zF u23_1 (qd1 - 0),zF u23_2 (qd2 - 0),zF u23_3 (qd3 - 0),zF u15_1 (qd4 - 0),zF u15_2 (qd5 - 0),zF u15_3 (qd6 - 0),zF u7_1 (qd7 - 0),zF u7_2 (qd8 - 0),zF u7_3 (qd9 - 0),zF ws s,zF w34 (0:Int),slF (rI3 .i64) pv cv V,slF (rI3 .i64) pf cf F])) ?_ (fun hD1=> ?_)
    ·
     rintro ⟨u7_1,u7_2,u7_3,u15_1,u15_2,u15_3,u23_1,u23_2,u23_3,u24_1,u25_1,u26_1⟩
     dsimp only [cw]
     refine zO 29 (by kernel_rfl) ?_
     ·
      refine zeb (zS (i:=2) rfl)<|zca (by kernel_rfl) rfl rfl rfl rfl rfl sz89 rfl (.take (.take (.take (.take (.take (.take .nil)))))) ?_
      exact zt (hD0 (u7_1,u7_2,u7_3,u15_1,u15_2,u15_3,u23_1,u23_2,u23_3,u24_1,u25_1,u26_1)) (by kernel_rfl) ((.of rfl):SubM _ _) .rfl .rfl ((.of [0,1,2,3,4,5,6,7,8,9,10,11,12] rfl):SelR _ _ _)
    refine zQ (X:=Wd×Wd×Wd×Wd×Wd×Wd×Wd×Wd×Wd×Nat×Nat×Nat) (k':=2) (L':=(lb 30 268435455)) (fun (u7_1,u7_2,u7_3,u15_1,u15_2,u15_3,u23_1,u23_2,u23_3,u24_1,u25_1,u26_1)=>([(11,.pointer (some ⟨u26_1,0,none⟩)),(10,.pointer (some ⟨u25_1,0,none⟩)),(9,.pointer (some ⟨u24_1,0,none⟩)),(55,.agg (cw [u23_1,u23_2,u23_3]).toArray),(47,.agg (cw [u15_1,u15_2,u15_3]).toArray),(27,.int .i64 ((i:Nat):Int)),(26,.int .i64 ((nf:Nat):Int)),(25,.slice pf nf cf),(5,.pointer (some ⟨b5,0,none⟩)),(3,.int .i64 0),(2,.pointer (some ⟨b2,0,none⟩)),(1,.pointer (some ⟨b1,0,none⟩))],[boxA u24_1 89 (cw [u7_1,u7_2,u7_3]),boxA u26_1 89 [.bool false,.slice none 0 0,.bool false,.slice none 0 0,.bool false,.slice none 0 0],boxA u25_1 89 [.bool false,.slice none 0 0,.bool false,.slice none 0 0,.bool false,.slice none 0 0]],[boxA b11 42 [.int .i64 0,.int .i64 0,.int .i64 0],boxA b10 44 [.int .i64 ((F.getD i (0,0,0)).1),.int .i64 ((F.getD i (0,0,0)).2.1),.int .i64 ((F.getD i (0,0,0)).2.2)],boxA b5 34 [ws.b,ws.l],mapA b23 (fun z:Int=> .int .i64 z) (fun z:Int=> .int .i64 z) (InK .i64) bm1,boxA b2 34 [.bool false,.slice none 0 0],boxA b1 25 [.slice pv nv cv,.slice pf nf cf]],[zF u23_1 (qd1 - 0),zF u23_2 (qd2 - 0),zF u23_3 (qd3 - 0),zF u15_1 (qd4 - 0),zF u15_2 (qd5 - 0),zF u15_3 (qd6 - 0),zF u7_1 (qd7 - 0),zF u7_2 (qd8 - 0),zF u7_3 (qd9 - 0),zF ws s,zF w34 (0:Int),slF (rI3 .i64) pv cv V,slF (rI3 .i64) pf cf F])) ?_ (fun hD2=> ?_)
    ·
     rintro ⟨u7_1,u7_2,u7_3,u15_1,u15_2,u15_3,u23_1,u23_2,u23_3,u24_1,u25_1,u26_1⟩
     dsimp only [cw]
     refine zO 28 (by kernel_rfl) ?_
     ·
      refine zeb (zS (i:=2) rfl)<|zca (by kernel_rfl) rfl rfl rfl rfl rfl sz89 rfl (.take (.take (.take (.take (.take (.take .nil)))))) ?_
      exact zt (hD1 (u7_1,u7_2,u7_3,u15_1,u15_2,u15_3,u23_1,u23_2,u23_3,u24_1,u25_1,u26_1)) (by kernel_rfl) ((.of rfl):SubM _ _) .rfl .rfl ((.of [0,1,2,3,4,5,6,7,8,9,10,11,12] rfl):SelR _ _ _)
    refine zQ (X:=Wd×Wd×Wd×Wd×Wd×Wd×Wd×Wd×Wd×Nat×Nat×Nat) (k':=3) (L':=(lb 30 134217727)) (fun (u7_1,u7_2,u7_3,u15_1,u15_2,u15_3,u23_1,u23_2,u23_3,u24_1,u25_1,u26_1)=>([(11,.pointer (some ⟨u26_1,0,none⟩)),(10,.pointer (some ⟨u25_1,0,none⟩)),(9,.pointer (some ⟨u24_1,0,none⟩)),(55,.agg (cw [u23_1,u23_2,u23_3]).toArray),(47,.agg (cw [u15_1,u15_2,u15_3]).toArray),(39,.agg (cw [u7_1,u7_2,u7_3]).toArray),(27,.int .i64 ((i:Nat):Int)),(26,.int .i64 ((nf:Nat):Int)),(25,.slice pf nf cf),(5,.pointer (some ⟨b5,0,none⟩)),(3,.int .i64 0),(2,.pointer (some ⟨b2,0,none⟩)),(1,.pointer (some ⟨b1,0,none⟩))],[boxA u26_1 89 [.bool false,.slice none 0 0,.bool false,.slice none 0 0,.bool false,.slice none 0 0],boxA u25_1 89 [.bool false,.slice none 0 0,.bool false,.slice none 0 0,.bool false,.slice none 0 0],boxA u24_1 89 [.bool false,.slice none 0 0,.bool false,.slice none 0 0,.bool false,.slice none 0 0]],[boxA b11 42 [.int .i64 0,.int .i64 0,.int .i64 0],boxA b10 44 [.int .i64 ((F.getD i (0,0,0)).1),.int .i64 ((F.getD i (0,0,0)).2.1),.int .i64 ((F.getD i (0,0,0)).2.2)],boxA b5 34 [ws.b,ws.l],mapA b23 (fun z:Int=> .int .i64 z) (fun z:Int=> .int .i64 z) (InK .i64) bm1,boxA b2 34 [.bool false,.slice none 0 0],boxA b1 25 [.slice pv nv cv,.slice pf nf cf]],[zF u23_1 (qd1 - 0),zF u23_2 (qd2 - 0),zF u23_3 (qd3 - 0),zF u15_1 (qd4 - 0),zF u15_2 (qd5 - 0),zF u15_3 (qd6 - 0),zF u7_1 (qd7 - 0),zF u7_2 (qd8 - 0),zF u7_3 (qd9 - 0),zF ws s,zF w34 (0:Int),slF (rI3 .i64) pv cv V,slF (rI3 .i64) pf cf F])) ?_ (fun hD3=> ?_)
    ·
     rintro ⟨u7_1,u7_2,u7_3,u15_1,u15_2,u15_3,u23_1,u23_2,u23_3,u24_1,u25_1,u26_1⟩
     dsimp only [cw]
     refine zO 27 (by kernel_rfl) ?_
     ·
      refine zeb (zS (i:=2) rfl)<|zca (by kernel_rfl) rfl rfl rfl rfl rfl sz89 rfl (.take (.take (.take (.take (.take (.take .nil)))))) ?_
      exact zt (hD2 (u7_1,u7_2,u7_3,u15_1,u15_2,u15_3,u23_1,u23_2,u23_3,u24_1,u25_1,u26_1)) (by kernel_rfl) ((.of rfl):SubM _ _) .rfl .rfl ((.of [0,1,2,3,4,5,6,7,8,9,10,11,12] rfl):SelR _ _ _)
    refine zQ (X:=Wd×Wd×Wd×Wd×Wd×Wd×Wd×Wd×Wd×Nat×Nat) (k':=4) (L':=(lb 30 67108863)) (fun (u7_1,u7_2,u7_3,u15_1,u15_2,u15_3,u23_1,u23_2,u23_3,u24_1,u25_1)=>([(10,.pointer (some ⟨u25_1,0,none⟩)),(9,.pointer (some ⟨u24_1,0,none⟩)),(55,.agg (cw [u23_1,u23_2,u23_3]).toArray),(47,.agg (cw [u15_1,u15_2,u15_3]).toArray),(39,.agg (cw [u7_1,u7_2,u7_3]).toArray),(27,.int .i64 ((i:Nat):Int)),(26,.int .i64 ((nf:Nat):Int)),(25,.slice pf nf cf),(5,.pointer (some ⟨b5,0,none⟩)),(3,.int .i64 0),(2,.pointer (some ⟨b2,0,none⟩)),(1,.pointer (some ⟨b1,0,none⟩))],[boxA u25_1 89 [.bool false,.slice none 0 0,.bool false,.slice none 0 0,.bool false,.slice none 0 0],boxA u24_1 89 [.bool false,.slice none 0 0,.bool false,.slice none 0 0,.bool false,.slice none 0 0]],[boxA b11 42 [.int .i64 0,.int .i64 0,.int .i64 0],boxA b10 44 [.int .i64 ((F.getD i (0,0,0)).1),.int .i64 ((F.getD i (0,0,0)).2.1),.int .i64 ((F.getD i (0,0,0)).2.2)],boxA b5 34 [ws.b,ws.l],mapA b23 (fun z:Int=> .int .i64 z) (fun z:Int=> .int .i64 z) (InK .i64) bm1,boxA b2 34 [.bool false,.slice none 0 0],boxA b1 25 [.slice pv nv cv,.slice pf nf cf]],[zF u23_1 (qd1 - 0),zF u23_2 (qd2 - 0),zF u23_3 (qd3 - 0),zF u15_1 (qd4 - 0),zF u15_2 (qd5 - 0),zF u15_3 (qd6 - 0),zF u7_1 (qd7 - 0),zF u7_2 (qd8 - 0),zF u7_3 (qd9 - 0),zF ws s,zF w34 (0:Int),slF (rI3 .i64) pv cv V,slF (rI3 .i64) pf cf F])) ?_ (fun hD4=> ?_)
    ·
     rintro ⟨u7_1,u7_2,u7_3,u15_1,u15_2,u15_3,u23_1,u23_2,u23_3,u24_1,u25_1⟩
     dsimp only [cw]
     refine zO 26 (by kernel_rfl) ?_
     ·
      refine zU rfl rfl rfl rfl (zr zr89 rfl) (fun u26_1 _=> ?_)
      exact zt (hD3 (u7_1,u7_2,u7_3,u15_1,u15_2,u15_3,u23_1,u23_2,u23_3,u24_1,u25_1,u26_1)) (by kernel_rfl) ((.of rfl):SubM _ _) .rfl .rfl ((.of [0,1,2,3,4,5,6,7,8,9,10,11,12] rfl):SelR _ _ _)
    refine zQ (X:=Wd×Wd×Wd×Wd×Wd×Wd×Wd×Wd×Wd×Nat×Nat) (k':=4) (L':=(lb 30 100663295)) (fun (u7_1,u7_2,u7_3,u15_1,u15_2,u15_3,u23_1,u23_2,u23_3,u24_1,u26_1)=>([(11,.pointer (some ⟨u26_1,0,none⟩)),(9,.pointer (some ⟨u24_1,0,none⟩)),(55,.agg (cw [u23_1,u23_2,u23_3]).toArray),(47,.agg (cw [u15_1,u15_2,u15_3]).toArray),(39,.agg (cw [u7_1,u7_2,u7_3]).toArray),(27,.int .i64 ((i:Nat):Int)),(26,.int .i64 ((nf:Nat):Int)),(25,.slice pf nf cf),(5,.pointer (some ⟨b5,0,none⟩)),(3,.int .i64 0),(2,.pointer (some ⟨b2,0,none⟩)),(1,.pointer (some ⟨b1,0,none⟩))],[boxA u26_1 89 [.bool false,.slice none 0 0,.bool false,.slice none 0 0,.bool false,.slice none 0 0],boxA u24_1 89 [.bool false,.slice none 0 0,.bool false,.slice none 0 0,.bool false,.slice none 0 0]],[boxA b11 42 [.int .i64 0,.int .i64 0,.int .i64 0],boxA b10 44 [.int .i64 ((F.getD i (0,0,0)).1),.int .i64 ((F.getD i (0,0,0)).2.1),.int .i64 ((F.getD i (0,0,0)).2.2)],boxA b5 34 [ws.b,ws.l],mapA b23 (fun z:Int=> .int .i64 z) (fun z:Int=> .int .i64 z) (InK .i64) bm1,boxA b2 34 [.bool false,.slice none 0 0],boxA b1 25 [.slice pv nv cv,.slice pf nf cf]],[zF u23_1 (qd1 - 0),zF u23_2 (qd2 - 0),zF u23_3 (qd3 - 0),zF u15_1 (qd4 - 0),zF u15_2 (qd5 - 0),zF u15_3 (qd6 - 0),zF u7_1 (qd7 - 0),zF u7_2 (qd8 - 0),zF u7_3 (qd9 - 0),zF ws s,zF w34 (0:Int),slF (rI3 .i64) pv cv V,slF (rI3 .i64) pf cf F])) ?_ (fun hD5=> ?_)
    ·
     rintro ⟨u7_1,u7_2,u7_3,u15_1,u15_2,u15_3,u23_1,u23_2,u23_3,u24_1,u26_1⟩
     dsimp only [cw]
     refine zO 25 (by kernel_rfl) ?_
     ·
      refine zU rfl rfl rfl rfl (zr zr89 rfl) (fun u25_1 _=> ?_)
      exact zt (hD3 (u7_1,u7_2,u7_3,u15_1,u15_2,u15_3,u23_1,u23_2,u23_3,u24_1,u25_1,u26_1)) (by kernel_rfl) ((.of rfl):SubM _ _) (zN 1 rfl (zN 0 rfl (zN 0 rfl .nil))) .rfl ((.of [0,1,2,3,4,5,6,7,8,9,10,11,12] rfl):SelR _ _ _)
    refine zQ (X:=Wd×Wd×Wd×Wd×Wd×Wd×Wd×Wd×Wd×Nat×Nat) (k':=4) (L':=(lb 30 117440511)) (fun (u7_1,u7_2,u7_3,u15_1,u15_2,u15_3,u23_1,u23_2,u23_3,u25_1,u26_1)=>([(11,.pointer (some ⟨u26_1,0,none⟩)),(10,.pointer (some ⟨u25_1,0,none⟩)),(55,.agg (cw [u23_1,u23_2,u23_3]).toArray),(47,.agg (cw [u15_1,u15_2,u15_3]).toArray),(39,.agg (cw [u7_1,u7_2,u7_3]).toArray),(27,.int .i64 ((i:Nat):Int)),(26,.int .i64 ((nf:Nat):Int)),(25,.slice pf nf cf),(5,.pointer (some ⟨b5,0,none⟩)),(3,.int .i64 0),(2,.pointer (some ⟨b2,0,none⟩)),(1,.pointer (some ⟨b1,0,none⟩))],[boxA u26_1 89 [.bool false,.slice none 0 0,.bool false,.slice none 0 0,.bool false,.slice none 0 0],boxA u25_1 89 [.bool false,.slice none 0 0,.bool false,.slice none 0 0,.bool false,.slice none 0 0]],[boxA b11 42 [.int .i64 0,.int .i64 0,.int .i64 0],boxA b10 44 [.int .i64 ((F.getD i (0,0,0)).1),.int .i64 ((F.getD i (0,0,0)).2.1),.int .i64 ((F.getD i (0,0,0)).2.2)],boxA b5 34 [ws.b,ws.l],mapA b23 (fun z:Int=> .int .i64 z) (fun z:Int=> .int .i64 z) (InK .i64) bm1,boxA b2 34 [.bool false,.slice none 0 0],boxA b1 25 [.slice pv nv cv,.slice pf nf cf]],[zF u23_1 (qd1 - 0),zF u23_2 (qd2 - 0),zF u23_3 (qd3 - 0),zF u15_1 (qd4 - 0),zF u15_2 (qd5 - 0),zF u15_3 (qd6 - 0),zF u7_1 (qd7 - 0),zF u7_2 (qd8 - 0),zF u7_3 (qd9 - 0),zF ws s,zF w34 (0:Int),slF (rI3 .i64) pv cv V,slF (rI3 .i64) pf cf F])) ?_ (fun hD6=> ?_)
    ·
     rintro ⟨u7_1,u7_2,u7_3,u15_1,u15_2,u15_3,u23_1,u23_2,u23_3,u25_1,u26_1⟩
     dsimp only [cw]
     refine zO 24 (by kernel_rfl) ?_
     ·
      refine zU rfl rfl rfl rfl (zr zr89 rfl) (fun u24_1 _=> ?_)
      exact zt (hD3 (u7_1,u7_2,u7_3,u15_1,u15_2,u15_3,u23_1,u23_2,u23_3,u24_1,u25_1,u26_1)) (by kernel_rfl) ((.of rfl):SubM _ _) (zN 1 rfl (zN 1 rfl (zN 0 rfl .nil))) .rfl ((.of [0,1,2,3,4,5,6,7,8,9,10,11,12] rfl):SelR _ _ _)
    refine zQ (X:=Wd×Wd×Wd×Wd×Wd×Wd×Nat×Nat×Nat) (k':=4) (L':=(lb 30 125829119)) (fun (u7_1,u7_2,u7_3,u15_1,u15_2,u15_3,u24_1,u25_1,u26_1)=>([(11,.pointer (some ⟨u26_1,0,none⟩)),(10,.pointer (some ⟨u25_1,0,none⟩)),(9,.pointer (some ⟨u24_1,0,none⟩)),(47,.agg (cw [u15_1,u15_2,u15_3]).toArray),(39,.agg (cw [u7_1,u7_2,u7_3]).toArray),(54,.agg #[.int .i64 qd1,.int .i64 qd2,.int .i64 qd3]),(48,.agg #[.int .i64 0,.int .i64 0,.int .i64 0]),(27,.int .i64 ((i:Nat):Int)),(26,.int .i64 ((nf:Nat):Int)),(25,.slice pf nf cf),(5,.pointer (some ⟨b5,0,none⟩)),(3,.int .i64 0),(2,.pointer (some ⟨b2,0,none⟩)),(1,.pointer (some ⟨b1,0,none⟩))],[boxA u26_1 89 [.bool false,.slice none 0 0,.bool false,.slice none 0 0,.bool false,.slice none 0 0],boxA u25_1 89 [.bool false,.slice none 0 0,.bool false,.slice none 0 0,.bool false,.slice none 0 0],boxA u24_1 89 [.bool false,.slice none 0 0,.bool false,.slice none 0 0,.bool false,.slice none 0 0]],[boxA b11 42 [.int .i64 0,.int .i64 0,.int .i64 0],boxA b10 44 [.int .i64 ((F.getD i (0,0,0)).1),.int .i64 ((F.getD i (0,0,0)).2.1),.int .i64 ((F.getD i (0,0,0)).2.2)],boxA b5 34 [ws.b,ws.l],mapA b23 (fun z:Int=> .int .i64 z) (fun z:Int=> .int .i64 z) (InK .i64) bm1,boxA b2 34 [.bool false,.slice none 0 0],boxA b1 25 [.slice pv nv cv,.slice pf nf cf]],[zF u15_1 (qd4 - 0),zF u15_2 (qd5 - 0),zF u15_3 (qd6 - 0),zF u7_1 (qd7 - 0),zF u7_2 (qd8 - 0),zF u7_3 (qd9 - 0),zF ws s,zF w34 (0:Int),slF (rI3 .i64) pv cv V,slF (rI3 .i64) pf cf F])) ?_ (fun hD7=> ?_)
    ·
     rintro ⟨u7_1,u7_2,u7_3,u15_1,u15_2,u15_3,u24_1,u25_1,u26_1⟩
     dsimp only [cw]
     refine zO 23 (by kernel_rfl) ?_
     ·
      refine zL rfl rfl rfl rfl (.c rfl (.c rfl .n)) ce58 (zra (ex:=0) (ey:=0) (ez:=0) (fx:=qd1) (fy:=qd2) (fz:=qd3) (hbex:=by omega) (hbey:=by omega) (hbez:=by omega) (hbfx:=by omega) (hbfy:=by omega) (hbfz:=by omega)) (.n) ?_
      rintro ⟨u23_1,u23_2,u23_3⟩ -
      dsimp only [List.append_eq,List.nil_append,List.cons_append]
      exact zt (hD3 (u7_1,u7_2,u7_3,u15_1,u15_2,u15_3,u23_1,u23_2,u23_3,u24_1,u25_1,u26_1)) (by kernel_rfl) ((.of rfl):SubM _ _) .rfl .rfl ((.of [0,1,2,3,4,5,6,7,8,9,10,11,12] rfl):SelR _ _ _)
    refine zQ (X:=Wd×Wd×Wd×Wd×Wd×Wd×Wd×Wd×Wd×Nat) (k':=5) (L':=(lb 30 33554431)) (fun (u7_1,u7_2,u7_3,u15_1,u15_2,u15_3,u23_1,u23_2,u23_3,u24_1)=>([(9,.pointer (some ⟨u24_1,0,none⟩)),(55,.agg (cw [u23_1,u23_2,u23_3]).toArray),(47,.agg (cw [u15_1,u15_2,u15_3]).toArray),(39,.agg (cw [u7_1,u7_2,u7_3]).toArray),(27,.int .i64 ((i:Nat):Int)),(26,.int .i64 ((nf:Nat):Int)),(25,.slice pf nf cf),(5,.pointer (some ⟨b5,0,none⟩)),(3,.int .i64 0),(2,.pointer (some ⟨b2,0,none⟩)),(1,.pointer (some ⟨b1,0,none⟩))],[boxA u24_1 89 [.bool false,.slice none 0 0,.bool false,.slice none 0 0,.bool false,.slice none 0 0]],[boxA b11 42 [.int .i64 0,.int .i64 0,.int .i64 0],boxA b10 44 [.int .i64 ((F.getD i (0,0,0)).1),.int .i64 ((F.getD i (0,0,0)).2.1),.int .i64 ((F.getD i (0,0,0)).2.2)],boxA b5 34 [ws.b,ws.l],mapA b23 (fun z:Int=> .int .i64 z) (fun z:Int=> .int .i64 z) (InK .i64) bm1,boxA b2 34 [.bool false,.slice none 0 0],boxA b1 25 [.slice pv nv cv,.slice pf nf cf]],[zF u23_1 (qd1 - 0),zF u23_2 (qd2 - 0),zF u23_3 (qd3 - 0),zF u15_1 (qd4 - 0),zF u15_2 (qd5 - 0),zF u15_3 (qd6 - 0),zF u7_1 (qd7 - 0),zF u7_2 (qd8 - 0),zF u7_3 (qd9 - 0),zF ws s,zF w34 (0:Int),slF (rI3 .i64) pv cv V,slF (rI3 .i64) pf cf F])) ?_ (fun hD8=> ?_)
    ·
     rintro ⟨u7_1,u7_2,u7_3,u15_1,u15_2,u15_3,u23_1,u23_2,u23_3,u24_1⟩
     dsimp only [cw]
     refine zRa 25 26 (by kernel_rfl) ?_ ?_
     ·
      refine zU rfl rfl rfl rfl (zr zr89 rfl) (fun u25_1 _=> ?_)
      exact zt (hD4 (u7_1,u7_2,u7_3,u15_1,u15_2,u15_3,u23_1,u23_2,u23_3,u24_1,u25_1)) (by kernel_rfl) ((.of rfl):SubM _ _) .rfl .rfl ((.of [0,1,2,3,4,5,6,7,8,9,10,11,12] rfl):SelR _ _ _)
     ·
      refine zU rfl rfl rfl rfl (zr zr89 rfl) (fun u26_1 _=> ?_)
      exact zt (hD5 (u7_1,u7_2,u7_3,u15_1,u15_2,u15_3,u23_1,u23_2,u23_3,u24_1,u26_1)) (by kernel_rfl) ((.of rfl):SubM _ _) .rfl .rfl ((.of [0,1,2,3,4,5,6,7,8,9,10,11,12] rfl):SelR _ _ _)
    refine zQ (X:=Wd×Wd×Wd×Wd×Wd×Wd×Wd×Wd×Wd×Nat) (k':=5) (L':=(lb 30 50331647)) (fun (u7_1,u7_2,u7_3,u15_1,u15_2,u15_3,u23_1,u23_2,u23_3,u25_1)=>([(10,.pointer (some ⟨u25_1,0,none⟩)),(55,.agg (cw [u23_1,u23_2,u23_3]).toArray),(47,.agg (cw [u15_1,u15_2,u15_3]).toArray),(39,.agg (cw [u7_1,u7_2,u7_3]).toArray),(27,.int .i64 ((i:Nat):Int)),(26,.int .i64 ((nf:Nat):Int)),(25,.slice pf nf cf),(5,.pointer (some ⟨b5,0,none⟩)),(3,.int .i64 0),(2,.pointer (some ⟨b2,0,none⟩)),(1,.pointer (some ⟨b1,0,none⟩))],[boxA u25_1 89 [.bool false,.slice none 0 0,.bool false,.slice none 0 0,.bool false,.slice none 0 0]],[boxA b11 42 [.int .i64 0,.int .i64 0,.int .i64 0],boxA b10 44 [.int .i64 ((F.getD i (0,0,0)).1),.int .i64 ((F.getD i (0,0,0)).2.1),.int .i64 ((F.getD i (0,0,0)).2.2)],boxA b5 34 [ws.b,ws.l],mapA b23 (fun z:Int=> .int .i64 z) (fun z:Int=> .int .i64 z) (InK .i64) bm1,boxA b2 34 [.bool false,.slice none 0 0],boxA b1 25 [.slice pv nv cv,.slice pf nf cf]],[zF u23_1 (qd1 - 0),zF u23_2 (qd2 - 0),zF u23_3 (qd3 - 0),zF u15_1 (qd4 - 0),zF u15_2 (qd5 - 0),zF u15_3 (qd6 - 0),zF u7_1 (qd7 - 0),zF u7_2 (qd8 - 0),zF u7_3 (qd9 - 0),zF ws s,zF w34 (0:Int),slF (rI3 .i64) pv cv V,slF (rI3 .i64) pf cf F])) ?_ (fun hD9=> ?_)
    ·
     rintro ⟨u7_1,u7_2,u7_3,u15_1,u15_2,u15_3,u23_1,u23_2,u23_3,u25_1⟩
     dsimp only [cw]
     refine zRa 24 26 (by kernel_rfl) ?_ ?_
     ·
      refine zU rfl rfl rfl rfl (zr zr89 rfl) (fun u24_1 _=> ?_)
      exact zt (hD4 (u7_1,u7_2,u7_3,u15_1,u15_2,u15_3,u23_1,u23_2,u23_3,u24_1,u25_1)) (by kernel_rfl) ((.of rfl):SubM _ _) (zN 1 rfl (zN 0 rfl .nil)) .rfl ((.of [0,1,2,3,4,5,6,7,8,9,10,11,12] rfl):SelR _ _ _)
     ·
      refine zU rfl rfl rfl rfl (zr zr89 rfl) (fun u26_1 _=> ?_)
      exact zt (hD6 (u7_1,u7_2,u7_3,u15_1,u15_2,u15_3,u23_1,u23_2,u23_3,u25_1,u26_1)) (by kernel_rfl) ((.of rfl):SubM _ _) .rfl .rfl ((.of [0,1,2,3,4,5,6,7,8,9,10,11,12] rfl):SelR _ _ _)
    refine zQ (X:=Wd×Wd×Wd×Wd×Wd×Wd×Wd×Wd×Wd×Nat) (k':=5) (L':=(lb 30 83886079)) (fun (u7_1,u7_2,u7_3,u15_1,u15_2,u15_3,u23_1,u23_2,u23_3,u26_1)=>([(11,.pointer (some ⟨u26_1,0,none⟩)),(55,.agg (cw [u23_1,u23_2,u23_3]).toArray),(47,.agg (cw [u15_1,u15_2,u15_3]).toArray),(39,.agg (cw [u7_1,u7_2,u7_3]).toArray),(27,.int .i64 ((i:Nat):Int)),(26,.int .i64 ((nf:Nat):Int)),(25,.slice pf nf cf),(5,.pointer (some ⟨b5,0,none⟩)),(3,.int .i64 0),(2,.pointer (some ⟨b2,0,none⟩)),(1,.pointer (some ⟨b1,0,none⟩))],[boxA u26_1 89 [.bool false,.slice none 0 0,.bool false,.slice none 0 0,.bool false,.slice none 0 0]],[boxA b11 42 [.int .i64 0,.int .i64 0,.int .i64 0],boxA b10 44 [.int .i64 ((F.getD i (0,0,0)).1),.int .i64 ((F.getD i (0,0,0)).2.1),.int .i64 ((F.getD i (0,0,0)).2.2)],boxA b5 34 [ws.b,ws.l],mapA b23 (fun z:Int=> .int .i64 z) (fun z:Int=> .int .i64 z) (InK .i64) bm1,boxA b2 34 [.bool false,.slice none 0 0],boxA b1 25 [.slice pv nv cv,.slice pf nf cf]],[zF u23_1 (qd1 - 0),zF u23_2 (qd2 - 0),zF u23_3 (qd3 - 0),zF u15_1 (qd4 - 0),zF u15_2 (qd5 - 0),zF u15_3 (qd6 - 0),zF u7_1 (qd7 - 0),zF u7_2 (qd8 - 0),zF u7_3 (qd9 - 0),zF ws s,zF w34 (0:Int),slF (rI3 .i64) pv cv V,slF (rI3 .i64) pf cf F])) ?_ (fun hD10=> ?_)
    ·
     rintro ⟨u7_1,u7_2,u7_3,u15_1,u15_2,u15_3,u23_1,u23_2,u23_3,u26_1⟩
     dsimp only [cw]
     refine zRa 24 25 (by kernel_rfl) ?_ ?_
     ·
      refine zU rfl rfl rfl rfl (zr zr89 rfl) (fun u24_1 _=> ?_)
      exact zt (hD5 (u7_1,u7_2,u7_3,u15_1,u15_2,u15_3,u23_1,u23_2,u23_3,u24_1,u26_1)) (by kernel_rfl) ((.of rfl):SubM _ _) (zN 1 rfl (zN 0 rfl .nil)) .rfl ((.of [0,1,2,3,4,5,6,7,8,9,10,11,12] rfl):SelR _ _ _)
     ·
      refine zU rfl rfl rfl rfl (zr zr89 rfl) (fun u25_1 _=> ?_)
      exact zt (hD6 (u7_1,u7_2,u7_3,u15_1,u15_2,u15_3,u23_1,u23_2,u23_3,u25_1,u26_1)) (by kernel_rfl) ((.of rfl):SubM _ _) (zN 1 rfl (zN 0 rfl .nil)) .rfl ((.of [0,1,2,3,4,5,6,7,8,9,10,11,12] rfl):SelR _ _ _)
    refine zQ (X:=Wd×Wd×Wd×Wd×Wd×Wd×Nat×Nat) (k':=5) (L':=(lb 30 58720255)) (fun (u7_1,u7_2,u7_3,u15_1,u15_2,u15_3,u24_1,u25_1)=>([(10,.pointer (some ⟨u25_1,0,none⟩)),(9,.pointer (some ⟨u24_1,0,none⟩)),(47,.agg (cw [u15_1,u15_2,u15_3]).toArray),(39,.agg (cw [u7_1,u7_2,u7_3]).toArray),(54,.agg #[.int .i64 qd1,.int .i64 qd2,.int .i64 qd3]),(48,.agg #[.int .i64 0,.int .i64 0,.int .i64 0]),(27,.int .i64 ((i:Nat):Int)),(26,.int .i64 ((nf:Nat):Int)),(25,.slice pf nf cf),(5,.pointer (some ⟨b5,0,none⟩)),(3,.int .i64 0),(2,.pointer (some ⟨b2,0,none⟩)),(1,.pointer (some ⟨b1,0,none⟩))],[boxA u25_1 89 [.bool false,.slice none 0 0,.bool false,.slice none 0 0,.bool false,.slice none 0 0],boxA u24_1 89 [.bool false,.slice none 0 0,.bool false,.slice none 0 0,.bool false,.slice none 0 0]],[boxA b11 42 [.int .i64 0,.int .i64 0,.int .i64 0],boxA b10 44 [.int .i64 ((F.getD i (0,0,0)).1),.int .i64 ((F.getD i (0,0,0)).2.1),.int .i64 ((F.getD i (0,0,0)).2.2)],boxA b5 34 [ws.b,ws.l],mapA b23 (fun z:Int=> .int .i64 z) (fun z:Int=> .int .i64 z) (InK .i64) bm1,boxA b2 34 [.bool false,.slice none 0 0],boxA b1 25 [.slice pv nv cv,.slice pf nf cf]],[zF u15_1 (qd4 - 0),zF u15_2 (qd5 - 0),zF u15_3 (qd6 - 0),zF u7_1 (qd7 - 0),zF u7_2 (qd8 - 0),zF u7_3 (qd9 - 0),zF ws s,zF w34 (0:Int),slF (rI3 .i64) pv cv V,slF (rI3 .i64) pf cf F])) ?_ (fun hD11=> ?_)
    ·
     rintro ⟨u7_1,u7_2,u7_3,u15_1,u15_2,u15_3,u24_1,u25_1⟩
     dsimp only [cw]
     refine zRa 23 26 (by kernel_rfl) ?_ ?_
     ·
      refine zL rfl rfl rfl rfl (.c rfl (.c rfl .n)) ce58 (zra (ex:=0) (ey:=0) (ez:=0) (fx:=qd1) (fy:=qd2) (fz:=qd3) (hbex:=by omega) (hbey:=by omega) (hbez:=by omega) (hbfx:=by omega) (hbfy:=by omega) (hbfz:=by omega)) (.n) ?_
      rintro ⟨u23_1,u23_2,u23_3⟩ -
      dsimp only [List.append_eq,List.nil_append,List.cons_append]
      exact zt (hD4 (u7_1,u7_2,u7_3,u15_1,u15_2,u15_3,u23_1,u23_2,u23_3,u24_1,u25_1)) (by kernel_rfl) ((.of rfl):SubM _ _) .rfl .rfl ((.of [0,1,2,3,4,5,6,7,8,9,10,11,12] rfl):SelR _ _ _)
     ·
      refine zU rfl rfl rfl rfl (zr zr89 rfl) (fun u26_1 _=> ?_)
      exact zt (hD7 (u7_1,u7_2,u7_3,u15_1,u15_2,u15_3,u24_1,u25_1,u26_1)) (by kernel_rfl) ((.of rfl):SubM _ _) .rfl .rfl ((.of [0,1,2,3,4,5,6,7,8,9] rfl):SelR _ _ _)
    refine zQ (X:=Wd×Wd×Wd×Wd×Wd×Wd×Nat×Nat) (k':=5) (L':=(lb 30 92274687)) (fun (u7_1,u7_2,u7_3,u15_1,u15_2,u15_3,u24_1,u26_1)=>([(11,.pointer (some ⟨u26_1,0,none⟩)),(9,.pointer (some ⟨u24_1,0,none⟩)),(47,.agg (cw [u15_1,u15_2,u15_3]).toArray),(39,.agg (cw [u7_1,u7_2,u7_3]).toArray),(54,.agg #[.int .i64 qd1,.int .i64 qd2,.int .i64 qd3]),(48,.agg #[.int .i64 0,.int .i64 0,.int .i64 0]),(27,.int .i64 ((i:Nat):Int)),(26,.int .i64 ((nf:Nat):Int)),(25,.slice pf nf cf),(5,.pointer (some ⟨b5,0,none⟩)),(3,.int .i64 0),(2,.pointer (some ⟨b2,0,none⟩)),(1,.pointer (some ⟨b1,0,none⟩))],[boxA u26_1 89 [.bool false,.slice none 0 0,.bool false,.slice none 0 0,.bool false,.slice none 0 0],boxA u24_1 89 [.bool false,.slice none 0 0,.bool false,.slice none 0 0,.bool false,.slice none 0 0]],[boxA b11 42 [.int .i64 0,.int .i64 0,.int .i64 0],boxA b10 44 [.int .i64 ((F.getD i (0,0,0)).1),.int .i64 ((F.getD i (0,0,0)).2.1),.int .i64 ((F.getD i (0,0,0)).2.2)],boxA b5 34 [ws.b,ws.l],mapA b23 (fun z:Int=> .int .i64 z) (fun z:Int=> .int .i64 z) (InK .i64) bm1,boxA b2 34 [.bool false,.slice none 0 0],boxA b1 25 [.slice pv nv cv,.slice pf nf cf]],[zF u15_1 (qd4 - 0),zF u15_2 (qd5 - 0),zF u15_3 (qd6 - 0),zF u7_1 (qd7 - 0),zF u7_2 (qd8 - 0),zF u7_3 (qd9 - 0),zF ws s,zF w34 (0:Int),slF (rI3 .i64) pv cv V,slF (rI3 .i64) pf cf F])) ?_ (fun hD12=> ?_)
    ·
     rintro ⟨u7_1,u7_2,u7_3,u15_1,u15_2,u15_3,u24_1,u26_1⟩
     dsimp only [cw]
     refine zRa 23 25 (by kernel_rfl) ?_ ?_
     ·
      refine zL rfl rfl rfl rfl (.c rfl (.c rfl .n)) ce58 (zra (ex:=0) (ey:=0) (ez:=0) (fx:=qd1) (fy:=qd2) (fz:=qd3) (hbex:=by omega) (hbey:=by omega) (hbez:=by omega) (hbfx:=by omega) (hbfy:=by omega) (hbfz:=by omega)) (.n) ?_
      rintro ⟨u23_1,u23_2,u23_3⟩ -
      dsimp only [List.append_eq,List.nil_append,List.cons_append]
      exact zt (hD5 (u7_1,u7_2,u7_3,u15_1,u15_2,u15_3,u23_1,u23_2,u23_3,u24_1,u26_1)) (by kernel_rfl) ((.of rfl):SubM _ _) .rfl .rfl ((.of [0,1,2,3,4,5,6,7,8,9,10,11,12] rfl):SelR _ _ _)
     ·
      refine zU rfl rfl rfl rfl (zr zr89 rfl) (fun u25_1 _=> ?_)
      exact zt (hD7 (u7_1,u7_2,u7_3,u15_1,u15_2,u15_3,u24_1,u25_1,u26_1)) (by kernel_rfl) ((.of rfl):SubM _ _) (zN 1 rfl (zN 0 rfl (zN 0 rfl .nil))) .rfl ((.of [0,1,2,3,4,5,6,7,8,9] rfl):SelR _ _ _)
    refine zQ (X:=Wd×Wd×Wd×Wd×Wd×Wd×Nat×Nat) (k':=5) (L':=(lb 30 109051903)) (fun (u7_1,u7_2,u7_3,u15_1,u15_2,u15_3,u25_1,u26_1)=>([(11,.pointer (some ⟨u26_1,0,none⟩)),(10,.pointer (some ⟨u25_1,0,none⟩)),(47,.agg (cw [u15_1,u15_2,u15_3]).toArray),(39,.agg (cw [u7_1,u7_2,u7_3]).toArray),(54,.agg #[.int .i64 qd1,.int .i64 qd2,.int .i64 qd3]),(48,.agg #[.int .i64 0,.int .i64 0,.int .i64 0]),(27,.int .i64 ((i:Nat):Int)),(26,.int .i64 ((nf:Nat):Int)),(25,.slice pf nf cf),(5,.pointer (some ⟨b5,0,none⟩)),(3,.int .i64 0),(2,.pointer (some ⟨b2,0,none⟩)),(1,.pointer (some ⟨b1,0,none⟩))],[boxA u26_1 89 [.bool false,.slice none 0 0,.bool false,.slice none 0 0,.bool false,.slice none 0 0],boxA u25_1 89 [.bool false,.slice none 0 0,.bool false,.slice none 0 0,.bool false,.slice none 0 0]],[boxA b11 42 [.int .i64 0,.int .i64 0,.int .i64 0],boxA b10 44 [.int .i64 ((F.getD i (0,0,0)).1),.int .i64 ((F.getD i (0,0,0)).2.1),.int .i64 ((F.getD i (0,0,0)).2.2)],boxA b5 34 [ws.b,ws.l],mapA b23 (fun z:Int=> .int .i64 z) (fun z:Int=> .int .i64 z) (InK .i64) bm1,boxA b2 34 [.bool false,.slice none 0 0],boxA b1 25 [.slice pv nv cv,.slice pf nf cf]],[zF u15_1 (qd4 - 0),zF u15_2 (qd5 - 0),zF u15_3 (qd6 - 0),zF u7_1 (qd7 - 0),zF u7_2 (qd8 - 0),zF u7_3 (qd9 - 0),zF ws s,zF w34 (0:Int),slF (rI3 .i64) pv cv V,slF (rI3 .i64) pf cf F])) ?_ (fun hD13=> ?_)
    ·
     rintro ⟨u7_1,u7_2,u7_3,u15_1,u15_2,u15_3,u25_1,u26_1⟩
     dsimp only [cw]
     refine zRa 23 24 (by kernel_rfl) ?_ ?_
     ·
      refine zL rfl rfl rfl rfl (.c rfl (.c rfl .n)) ce58 (zra (ex:=0) (ey:=0) (ez:=0) (fx:=qd1) (fy:=qd2) (fz:=qd3) (hbex:=by omega) (hbey:=by omega) (hbez:=by omega) (hbfx:=by omega) (hbfy:=by omega) (hbfz:=by omega)) (.n) ?_
      rintro ⟨u23_1,u23_2,u23_3⟩ -
      dsimp only [List.append_eq,List.nil_append,List.cons_append]
      exact zt (hD6 (u7_1,u7_2,u7_3,u15_1,u15_2,u15_3,u23_1,u23_2,u23_3,u25_1,u26_1)) (by kernel_rfl) ((.of rfl):SubM _ _) .rfl .rfl ((.of [0,1,2,3,4,5,6,7,8,9,10,11,12] rfl):SelR _ _ _)
     ·
      refine zU rfl rfl rfl rfl (zr zr89 rfl) (fun u24_1 _=> ?_)
      exact zt (hD7 (u7_1,u7_2,u7_3,u15_1,u15_2,u15_3,u24_1,u25_1,u26_1)) (by kernel_rfl) ((.of rfl):SubM _ _) (zN 1 rfl (zN 1 rfl (zN 0 rfl .nil))) .rfl ((.of [0,1,2,3,4,5,6,7,8,9] rfl):SelR _ _ _)
    refine zQ (X:=Wd×Wd×Wd×Nat×Nat×Nat) (k':=5) (L':=(lb 30 125796351)) (fun (u7_1,u7_2,u7_3,u24_1,u25_1,u26_1)=>([(11,.pointer (some ⟨u26_1,0,none⟩)),(10,.pointer (some ⟨u25_1,0,none⟩)),(9,.pointer (some ⟨u24_1,0,none⟩)),(39,.agg (cw [u7_1,u7_2,u7_3]).toArray),(54,.agg #[.int .i64 qd1,.int .i64 qd2,.int .i64 qd3]),(48,.agg #[.int .i64 0,.int .i64 0,.int .i64 0]),(46,.agg #[.int .i64 qd4,.int .i64 qd5,.int .i64 qd6]),(40,.agg #[.int .i64 0,.int .i64 0,.int .i64 0]),(27,.int .i64 ((i:Nat):Int)),(26,.int .i64 ((nf:Nat):Int)),(25,.slice pf nf cf),(5,.pointer (some ⟨b5,0,none⟩)),(3,.int .i64 0),(2,.pointer (some ⟨b2,0,none⟩)),(1,.pointer (some ⟨b1,0,none⟩))],[boxA u26_1 89 [.bool false,.slice none 0 0,.bool false,.slice none 0 0,.bool false,.slice none 0 0],boxA u25_1 89 [.bool false,.slice none 0 0,.bool false,.slice none 0 0,.bool false,.slice none 0 0],boxA u24_1 89 [.bool false,.slice none 0 0,.bool false,.slice none 0 0,.bool false,.slice none 0 0]],[boxA b11 42 [.int .i64 0,.int .i64 0,.int .i64 0],boxA b10 44 [.int .i64 ((F.getD i (0,0,0)).1),.int .i64 ((F.getD i (0,0,0)).2.1),.int .i64 ((F.getD i (0,0,0)).2.2)],boxA b5 34 [ws.b,ws.l],mapA b23 (fun z:Int=> .int .i64 z) (fun z:Int=> .int .i64 z) (InK .i64) bm1,boxA b2 34 [.bool false,.slice none 0 0],boxA b1 25 [.slice pv nv cv,.slice pf nf cf]],[zF u7_1 (qd7 - 0),zF u7_2 (qd8 - 0),zF u7_3 (qd9 - 0),zF ws s,zF w34 (0:Int),slF (rI3 .i64) pv cv V,slF (rI3 .i64) pf cf F])) ?_ (fun hD14=> ?_)
    ·
     rintro ⟨u7_1,u7_2,u7_3,u24_1,u25_1,u26_1⟩
     dsimp only [cw]
     refine zO 15 (by kernel_rfl) ?_
     ·
      refine zL rfl rfl rfl rfl (.c rfl (.c rfl .n)) ce58 (zra (ex:=0) (ey:=0) (ez:=0) (fx:=qd4) (fy:=qd5) (fz:=qd6) (hbex:=by omega) (hbey:=by omega) (hbez:=by omega) (hbfx:=by omega) (hbfy:=by omega) (hbfz:=by omega)) (.n) ?_
      rintro ⟨u15_1,u15_2,u15_3⟩ -
      dsimp only [List.append_eq,List.nil_append,List.cons_append]
      exact zt (hD7 (u7_1,u7_2,u7_3,u15_1,u15_2,u15_3,u24_1,u25_1,u26_1)) (by kernel_rfl) ((.of rfl):SubM _ _) .rfl .rfl ((.of [0,1,2,3,4,5,6,7,8,9] rfl):SelR _ _ _)
    refine zQ (X:=Wd×Wd×Wd×Wd×Wd×Wd×Wd×Wd×Wd) (k':=6) (L':=(lb 30 16777215)) (fun (u7_1,u7_2,u7_3,u15_1,u15_2,u15_3,u23_1,u23_2,u23_3)=>([(55,.agg (cw [u23_1,u23_2,u23_3]).toArray),(47,.agg (cw [u15_1,u15_2,u15_3]).toArray),(39,.agg (cw [u7_1,u7_2,u7_3]).toArray),(27,.int .i64 ((i:Nat):Int)),(26,.int .i64 ((nf:Nat):Int)),(25,.slice pf nf cf),(5,.pointer (some ⟨b5,0,none⟩)),(3,.int .i64 0),(2,.pointer (some ⟨b2,0,none⟩)),(1,.pointer (some ⟨b1,0,none⟩))],[],[boxA b11 42 [.int .i64 0,.int .i64 0,.int .i64 0],boxA b10 44 [.int .i64 ((F.getD i (0,0,0)).1),.int .i64 ((F.getD i (0,0,0)).2.1),.int .i64 ((F.getD i (0,0,0)).2.2)],boxA b5 34 [ws.b,ws.l],mapA b23 (fun z:Int=> .int .i64 z) (fun z:Int=> .int .i64 z) (InK .i64) bm1,boxA b2 34 [.bool false,.slice none 0 0],boxA b1 25 [.slice pv nv cv,.slice pf nf cf]],[zF u23_1 (qd1 - 0),zF u23_2 (qd2 - 0),zF u23_3 (qd3 - 0),zF u15_1 (qd4 - 0),zF u15_2 (qd5 - 0),zF u15_3 (qd6 - 0),zF u7_1 (qd7 - 0),zF u7_2 (qd8 - 0),zF u7_3 (qd9 - 0),zF ws s,zF w34 (0:Int),slF (rI3 .i64) pv cv V,slF (rI3 .i64) pf cf F])) ?_ (fun hD15=> ?_)
    ·
     rintro ⟨u7_1,u7_2,u7_3,u15_1,u15_2,u15_3,u23_1,u23_2,u23_3⟩
     dsimp only [cw]
     refine zSa 24 25 26 (by kernel_rfl) ?_ ?_ ?_
     ·
      refine zU rfl rfl rfl rfl (zr zr89 rfl) (fun u24_1 _=> ?_)
      exact zt (hD8 (u7_1,u7_2,u7_3,u15_1,u15_2,u15_3,u23_1,u23_2,u23_3,u24_1)) (by kernel_rfl) ((.of rfl):SubM _ _) .rfl .rfl ((.of [0,1,2,3,4,5,6,7,8,9,10,11,12] rfl):SelR _ _ _)
     ·
      refine zU rfl rfl rfl rfl (zr zr89 rfl) (fun u25_1 _=> ?_)
      exact zt (hD9 (u7_1,u7_2,u7_3,u15_1,u15_2,u15_3,u23_1,u23_2,u23_3,u25_1)) (by kernel_rfl) ((.of rfl):SubM _ _) .rfl .rfl ((.of [0,1,2,3,4,5,6,7,8,9,10,11,12] rfl):SelR _ _ _)
     ·
      refine zU rfl rfl rfl rfl (zr zr89 rfl) (fun u26_1 _=> ?_)
      exact zt (hD10 (u7_1,u7_2,u7_3,u15_1,u15_2,u15_3,u23_1,u23_2,u23_3,u26_1)) (by kernel_rfl) ((.of rfl):SubM _ _) .rfl .rfl ((.of [0,1,2,3,4,5,6,7,8,9,10,11,12] rfl):SelR _ _ _)
    refine zQ (X:=Wd×Wd×Wd×Wd×Wd×Wd×Nat) (k':=6) (L':=(lb 30 25165823)) (fun (u7_1,u7_2,u7_3,u15_1,u15_2,u15_3,u24_1)=>([(9,.pointer (some ⟨u24_1,0,none⟩)),(47,.agg (cw [u15_1,u15_2,u15_3]).toArray),(39,.agg (cw [u7_1,u7_2,u7_3]).toArray),(54,.agg #[.int .i64 qd1,.int .i64 qd2,.int .i64 qd3]),(48,.agg #[.int .i64 0,.int .i64 0,.int .i64 0]),(27,.int .i64 ((i:Nat):Int)),(26,.int .i64 ((nf:Nat):Int)),(25,.slice pf nf cf),(5,.pointer (some ⟨b5,0,none⟩)),(3,.int .i64 0),(2,.pointer (some ⟨b2,0,none⟩)),(1,.pointer (some ⟨b1,0,none⟩))],[boxA u24_1 89 [.bool false,.slice none 0 0,.bool false,.slice none 0 0,.bool false,.slice none 0 0]],[boxA b11 42 [.int .i64 0,.int .i64 0,.int .i64 0],boxA b10 44 [.int .i64 ((F.getD i (0,0,0)).1),.int .i64 ((F.getD i (0,0,0)).2.1),.int .i64 ((F.getD i (0,0,0)).2.2)],boxA b5 34 [ws.b,ws.l],mapA b23 (fun z:Int=> .int .i64 z) (fun z:Int=> .int .i64 z) (InK .i64) bm1,boxA b2 34 [.bool false,.slice none 0 0],boxA b1 25 [.slice pv nv cv,.slice pf nf cf]],[zF u15_1 (qd4 - 0),zF u15_2 (qd5 - 0),zF u15_3 (qd6 - 0),zF u7_1 (qd7 - 0),zF u7_2 (qd8 - 0),zF u7_3 (qd9 - 0),zF ws s,zF w34 (0:Int),slF (rI3 .i64) pv cv V,slF (rI3 .i64) pf cf F])) ?_ (fun hD16=> ?_)
    ·
     rintro ⟨u7_1,u7_2,u7_3,u15_1,u15_2,u15_3,u24_1⟩
     dsimp only [cw]
     refine zSa 23 25 26 (by kernel_rfl) ?_ ?_ ?_
     ·
      refine zL rfl rfl rfl rfl (.c rfl (.c rfl .n)) ce58 (zra (ex:=0) (ey:=0) (ez:=0) (fx:=qd1) (fy:=qd2) (fz:=qd3) (hbex:=by omega) (hbey:=by omega) (hbez:=by omega) (hbfx:=by omega) (hbfy:=by omega) (hbfz:=by omega)) (.n) ?_
      rintro ⟨u23_1,u23_2,u23_3⟩ -
      dsimp only [List.append_eq,List.nil_append,List.cons_append]
      exact zt (hD8 (u7_1,u7_2,u7_3,u15_1,u15_2,u15_3,u23_1,u23_2,u23_3,u24_1)) (by kernel_rfl) ((.of rfl):SubM _ _) .rfl .rfl ((.of [0,1,2,3,4,5,6,7,8,9,10,11,12] rfl):SelR _ _ _)
     ·
      refine zU rfl rfl rfl rfl (zr zr89 rfl) (fun u25_1 _=> ?_)
      exact zt (hD11 (u7_1,u7_2,u7_3,u15_1,u15_2,u15_3,u24_1,u25_1)) (by kernel_rfl) ((.of rfl):SubM _ _) .rfl .rfl ((.of [0,1,2,3,4,5,6,7,8,9] rfl):SelR _ _ _)
     ·
      refine zU rfl rfl rfl rfl (zr zr89 rfl) (fun u26_1 _=> ?_)
      exact zt (hD12 (u7_1,u7_2,u7_3,u15_1,u15_2,u15_3,u24_1,u26_1)) (by kernel_rfl) ((.of rfl):SubM _ _) .rfl .rfl ((.of [0,1,2,3,4,5,6,7,8,9] rfl):SelR _ _ _)
    refine zQ (X:=Wd×Wd×Wd×Wd×Wd×Wd×Nat) (k':=6) (L':=(lb 30 41943039)) (fun (u7_1,u7_2,u7_3,u15_1,u15_2,u15_3,u25_1)=>([(10,.pointer (some ⟨u25_1,0,none⟩)),(47,.agg (cw [u15_1,u15_2,u15_3]).toArray),(39,.agg (cw [u7_1,u7_2,u7_3]).toArray),(54,.agg #[.int .i64 qd1,.int .i64 qd2,.int .i64 qd3]),(48,.agg #[.int .i64 0,.int .i64 0,.int .i64 0]),(27,.int .i64 ((i:Nat):Int)),(26,.int .i64 ((nf:Nat):Int)),(25,.slice pf nf cf),(5,.pointer (some ⟨b5,0,none⟩)),(3,.int .i64 0),(2,.pointer (some ⟨b2,0,none⟩)),(1,.pointer (some ⟨b1,0,none⟩))],[boxA u25_1 89 [.bool false,.slice none 0 0,.bool false,.slice none 0 0,.bool false,.slice none 0 0]],[boxA b11 42 [.int .i64 0,.int .i64 0,.int .i64 0],boxA b10 44 [.int .i64 ((F.getD i (0,0,0)).1),.int .i64 ((F.getD i (0,0,0)).2.1),.int .i64 ((F.getD i (0,0,0)).2.2)],boxA b5 34 [ws.b,ws.l],mapA b23 (fun z:Int=> .int .i64 z) (fun z:Int=> .int .i64 z) (InK .i64) bm1,boxA b2 34 [.bool false,.slice none 0 0],boxA b1 25 [.slice pv nv cv,.slice pf nf cf]],[zF u15_1 (qd4 - 0),zF u15_2 (qd5 - 0),zF u15_3 (qd6 - 0),zF u7_1 (qd7 - 0),zF u7_2 (qd8 - 0),zF u7_3 (qd9 - 0),zF ws s,zF w34 (0:Int),slF (rI3 .i64) pv cv V,slF (rI3 .i64) pf cf F])) ?_ (fun hD17=> ?_)
    ·
     rintro ⟨u7_1,u7_2,u7_3,u15_1,u15_2,u15_3,u25_1⟩
     dsimp only [cw]
     refine zSa 23 24 26 (by kernel_rfl) ?_ ?_ ?_
     ·
      refine zL rfl rfl rfl rfl (.c rfl (.c rfl .n)) ce58 (zra (ex:=0) (ey:=0) (ez:=0) (fx:=qd1) (fy:=qd2) (fz:=qd3) (hbex:=by omega) (hbey:=by omega) (hbez:=by omega) (hbfx:=by omega) (hbfy:=by omega) (hbfz:=by omega)) (.n) ?_
      rintro ⟨u23_1,u23_2,u23_3⟩ -
      dsimp only [List.append_eq,List.nil_append,List.cons_append]
      exact zt (hD9 (u7_1,u7_2,u7_3,u15_1,u15_2,u15_3,u23_1,u23_2,u23_3,u25_1)) (by kernel_rfl) ((.of rfl):SubM _ _) .rfl .rfl ((.of [0,1,2,3,4,5,6,7,8,9,10,11,12] rfl):SelR _ _ _)
     ·
      refine zU rfl rfl rfl rfl (zr zr89 rfl) (fun u24_1 _=> ?_)
      exact zt (hD11 (u7_1,u7_2,u7_3,u15_1,u15_2,u15_3,u24_1,u25_1)) (by kernel_rfl) ((.of rfl):SubM _ _) (zN 1 rfl (zN 0 rfl .nil)) .rfl ((.of [0,1,2,3,4,5,6,7,8,9] rfl):SelR _ _ _)
     ·
      refine zU rfl rfl rfl rfl (zr zr89 rfl) (fun u26_1 _=> ?_)
      exact zt (hD13 (u7_1,u7_2,u7_3,u15_1,u15_2,u15_3,u25_1,u26_1)) (by kernel_rfl) ((.of rfl):SubM _ _) .rfl .rfl ((.of [0,1,2,3,4,5,6,7,8,9] rfl):SelR _ _ _)
    refine zQ (X:=Wd×Wd×Wd×Wd×Wd×Wd×Nat) (k':=6) (L':=(lb 30 75497471)) (fun (u7_1,u7_2,u7_3,u15_1,u15_2,u15_3,u26_1)=>([(11,.pointer (some ⟨u26_1,0,none⟩)),(47,.agg (cw [u15_1,u15_2,u15_3]).toArray),(39,.agg (cw [u7_1,u7_2,u7_3]).toArray),(54,.agg #[.int .i64 qd1,.int .i64 qd2,.int .i64 qd3]),(48,.agg #[.int .i64 0,.int .i64 0,.int .i64 0]),(27,.int .i64 ((i:Nat):Int)),(26,.int .i64 ((nf:Nat):Int)),(25,.slice pf nf cf),(5,.pointer (some ⟨b5,0,none⟩)),(3,.int .i64 0),(2,.pointer (some ⟨b2,0,none⟩)),(1,.pointer (some ⟨b1,0,none⟩))],[boxA u26_1 89 [.bool false,.slice none 0 0,.bool false,.slice none 0 0,.bool false,.slice none 0 0]],[boxA b11 42 [.int .i64 0,.int .i64 0,.int .i64 0],boxA b10 44 [.int .i64 ((F.getD i (0,0,0)).1),.int .i64 ((F.getD i (0,0,0)).2.1),.int .i64 ((F.getD i (0,0,0)).2.2)],boxA b5 34 [ws.b,ws.l],mapA b23 (fun z:Int=> .int .i64 z) (fun z:Int=> .int .i64 z) (InK .i64) bm1,boxA b2 34 [.bool false,.slice none 0 0],boxA b1 25 [.slice pv nv cv,.slice pf nf cf]],[zF u15_1 (qd4 - 0),zF u15_2 (qd5 - 0),zF u15_3 (qd6 - 0),zF u7_1 (qd7 - 0),zF u7_2 (qd8 - 0),zF u7_3 (qd9 - 0),zF ws s,zF w34 (0:Int),slF (rI3 .i64) pv cv V,slF (rI3 .i64) pf cf F])) ?_ (fun hD18=> ?_)
    ·
     rintro ⟨u7_1,u7_2,u7_3,u15_1,u15_2,u15_3,u26_1⟩
     dsimp only [cw]
     refine zSa 23 24 25 (by kernel_rfl) ?_ ?_ ?_
     ·
      refine zL rfl rfl rfl rfl (.c rfl (.c rfl .n)) ce58 (zra (ex:=0) (ey:=0) (ez:=0) (fx:=qd1) (fy:=qd2) (fz:=qd3) (hbex:=by omega) (hbey:=by omega) (hbez:=by omega) (hbfx:=by omega) (hbfy:=by omega) (hbfz:=by omega)) (.n) ?_
      rintro ⟨u23_1,u23_2,u23_3⟩ -
      dsimp only [List.append_eq,List.nil_append,List.cons_append]
      exact zt (hD10 (u7_1,u7_2,u7_3,u15_1,u15_2,u15_3,u23_1,u23_2,u23_3,u26_1)) (by kernel_rfl) ((.of rfl):SubM _ _) .rfl .rfl ((.of [0,1,2,3,4,5,6,7,8,9,10,11,12] rfl):SelR _ _ _)
     ·
      refine zU rfl rfl rfl rfl (zr zr89 rfl) (fun u24_1 _=> ?_)
      exact zt (hD12 (u7_1,u7_2,u7_3,u15_1,u15_2,u15_3,u24_1,u26_1)) (by kernel_rfl) ((.of rfl):SubM _ _) (zN 1 rfl (zN 0 rfl .nil)) .rfl ((.of [0,1,2,3,4,5,6,7,8,9] rfl):SelR _ _ _)
     ·
      refine zU rfl rfl rfl rfl (zr zr89 rfl) (fun u25_1 _=> ?_)
      exact zt (hD13 (u7_1,u7_2,u7_3,u15_1,u15_2,u15_3,u25_1,u26_1)) (by kernel_rfl) ((.of rfl):SubM _ _) (zN 1 rfl (zN 0 rfl .nil)) .rfl ((.of [0,1,2,3,4,5,6,7,8,9] rfl):SelR _ _ _)
    refine zQ (X:=Wd×Wd×Wd×Nat×Nat) (k':=6) (L':=(lb 30 58687487)) (fun (u7_1,u7_2,u7_3,u24_1,u25_1)=>([(10,.pointer (some ⟨u25_1,0,none⟩)),(9,.pointer (some ⟨u24_1,0,none⟩)),(39,.agg (cw [u7_1,u7_2,u7_3]).toArray),(54,.agg #[.int .i64 qd1,.int .i64 qd2,.int .i64 qd3]),(48,.agg #[.int .i64 0,.int .i64 0,.int .i64 0]),(46,.agg #[.int .i64 qd4,.int .i64 qd5,.int .i64 qd6]),(40,.agg #[.int .i64 0,.int .i64 0,.int .i64 0]),(27,.int .i64 ((i:Nat):Int)),(26,.int .i64 ((nf:Nat):Int)),(25,.slice pf nf cf),(5,.pointer (some ⟨b5,0,none⟩)),(3,.int .i64 0),(2,.pointer (some ⟨b2,0,none⟩)),(1,.pointer (some ⟨b1,0,none⟩))],[boxA u25_1 89 [.bool false,.slice none 0 0,.bool false,.slice none 0 0,.bool false,.slice none 0 0],boxA u24_1 89 [.bool false,.slice none 0 0,.bool false,.slice none 0 0,.bool false,.slice none 0 0]],[boxA b11 42 [.int .i64 0,.int .i64 0,.int .i64 0],boxA b10 44 [.int .i64 ((F.getD i (0,0,0)).1),.int .i64 ((F.getD i (0,0,0)).2.1),.int .i64 ((F.getD i (0,0,0)).2.2)],boxA b5 34 [ws.b,ws.l],mapA b23 (fun z:Int=> .int .i64 z) (fun z:Int=> .int .i64 z) (InK .i64) bm1,boxA b2 34 [.bool false,.slice none 0 0],boxA b1 25 [.slice pv nv cv,.slice pf nf cf]],[zF u7_1 (qd7 - 0),zF u7_2 (qd8 - 0),zF u7_3 (qd9 - 0),zF ws s,zF w34 (0:Int),slF (rI3 .i64) pv cv V,slF (rI3 .i64) pf cf F])) ?_ (fun hD19=> ?_)
    ·
     rintro ⟨u7_1,u7_2,u7_3,u24_1,u25_1⟩
     dsimp only [cw]
     refine zRa 15 26 (by kernel_rfl) ?_ ?_
     ·
      refine zL rfl rfl rfl rfl (.c rfl (.c rfl .n)) ce58 (zra (ex:=0) (ey:=0) (ez:=0) (fx:=qd4) (fy:=qd5) (fz:=qd6) (hbex:=by omega) (hbey:=by omega) (hbez:=by omega) (hbfx:=by omega) (hbfy:=by omega) (hbfz:=by omega)) (.n) ?_
      rintro ⟨u15_1,u15_2,u15_3⟩ -
      dsimp only [List.append_eq,List.nil_append,List.cons_append]
      exact zt (hD11 (u7_1,u7_2,u7_3,u15_1,u15_2,u15_3,u24_1,u25_1)) (by kernel_rfl) ((.of rfl):SubM _ _) .rfl .rfl ((.of [0,1,2,3,4,5,6,7,8,9] rfl):SelR _ _ _)
     ·
      refine zU rfl rfl rfl rfl (zr zr89 rfl) (fun u26_1 _=> ?_)
      exact zt (hD14 (u7_1,u7_2,u7_3,u24_1,u25_1,u26_1)) (by kernel_rfl) ((.of rfl):SubM _ _) .rfl .rfl ((.of [0,1,2,3,4,5,6] rfl):SelR _ _ _)
    refine zQ (X:=Wd×Wd×Wd×Nat×Nat) (k':=6) (L':=(lb 30 92241919)) (fun (u7_1,u7_2,u7_3,u24_1,u26_1)=>([(11,.pointer (some ⟨u26_1,0,none⟩)),(9,.pointer (some ⟨u24_1,0,none⟩)),(39,.agg (cw [u7_1,u7_2,u7_3]).toArray),(54,.agg #[.int .i64 qd1,.int .i64 qd2,.int .i64 qd3]),(48,.agg #[.int .i64 0,.int .i64 0,.int .i64 0]),(46,.agg #[.int .i64 qd4,.int .i64 qd5,.int .i64 qd6]),(40,.agg #[.int .i64 0,.int .i64 0,.int .i64 0]),(27,.int .i64 ((i:Nat):Int)),(26,.int .i64 ((nf:Nat):Int)),(25,.slice pf nf cf),(5,.pointer (some ⟨b5,0,none⟩)),(3,.int .i64 0),(2,.pointer (some ⟨b2,0,none⟩)),(1,.pointer (some ⟨b1,0,none⟩))],[boxA u26_1 89 [.bool false,.slice none 0 0,.bool false,.slice none 0 0,.bool false,.slice none 0 0],boxA u24_1 89 [.bool false,.slice none 0 0,.bool false,.slice none 0 0,.bool false,.slice none 0 0]],[boxA b11 42 [.int .i64 0,.int .i64 0,.int .i64 0],boxA b10 44 [.int .i64 ((F.getD i (0,0,0)).1),.int .i64 ((F.getD i (0,0,0)).2.1),.int .i64 ((F.getD i (0,0,0)).2.2)],boxA b5 34 [ws.b,ws.l],mapA b23 (fun z:Int=> .int .i64 z) (fun z:Int=> .int .i64 z) (InK .i64) bm1,boxA b2 34 [.bool false,.slice none 0 0],boxA b1 25 [.slice pv nv cv,.slice pf nf cf]],[zF u7_1 (qd7 - 0),zF u7_2 (qd8 - 0),zF u7_3 (qd9 - 0),zF ws s,zF w34 (0:Int),slF (rI3 .i64) pv cv V,slF (rI3 .i64) pf cf F])) ?_ (fun hD20=> ?_)
    ·
     rintro ⟨u7_1,u7_2,u7_3,u24_1,u26_1⟩
     dsimp only [cw]
     refine zRa 15 25 (by kernel_rfl) ?_ ?_
     ·
      refine zL rfl rfl rfl rfl (.c rfl (.c rfl .n)) ce58 (zra (ex:=0) (ey:=0) (ez:=0) (fx:=qd4) (fy:=qd5) (fz:=qd6) (hbex:=by omega) (hbey:=by omega) (hbez:=by omega) (hbfx:=by omega) (hbfy:=by omega) (hbfz:=by omega)) (.n) ?_
      rintro ⟨u15_1,u15_2,u15_3⟩ -
      dsimp only [List.append_eq,List.nil_append,List.cons_append]
      exact zt (hD12 (u7_1,u7_2,u7_3,u15_1,u15_2,u15_3,u24_1,u26_1)) (by kernel_rfl) ((.of rfl):SubM _ _) .rfl .rfl ((.of [0,1,2,3,4,5,6,7,8,9] rfl):SelR _ _ _)
     ·
      refine zU rfl rfl rfl rfl (zr zr89 rfl) (fun u25_1 _=> ?_)
      exact zt (hD14 (u7_1,u7_2,u7_3,u24_1,u25_1,u26_1)) (by kernel_rfl) ((.of rfl):SubM _ _) (zN 1 rfl (zN 0 rfl (zN 0 rfl .nil))) .rfl ((.of [0,1,2,3,4,5,6] rfl):SelR _ _ _)
    refine zQ (X:=Wd×Wd×Wd×Nat×Nat) (k':=6) (L':=(lb 30 109019135)) (fun (u7_1,u7_2,u7_3,u25_1,u26_1)=>([(11,.pointer (some ⟨u26_1,0,none⟩)),(10,.pointer (some ⟨u25_1,0,none⟩)),(39,.agg (cw [u7_1,u7_2,u7_3]).toArray),(54,.agg #[.int .i64 qd1,.int .i64 qd2,.int .i64 qd3]),(48,.agg #[.int .i64 0,.int .i64 0,.int .i64 0]),(46,.agg #[.int .i64 qd4,.int .i64 qd5,.int .i64 qd6]),(40,.agg #[.int .i64 0,.int .i64 0,.int .i64 0]),(27,.int .i64 ((i:Nat):Int)),(26,.int .i64 ((nf:Nat):Int)),(25,.slice pf nf cf),(5,.pointer (some ⟨b5,0,none⟩)),(3,.int .i64 0),(2,.pointer (some ⟨b2,0,none⟩)),(1,.pointer (some ⟨b1,0,none⟩))],[boxA u26_1 89 [.bool false,.slice none 0 0,.bool false,.slice none 0 0,.bool false,.slice none 0 0],boxA u25_1 89 [.bool false,.slice none 0 0,.bool false,.slice none 0 0,.bool false,.slice none 0 0]],[boxA b11 42 [.int .i64 0,.int .i64 0,.int .i64 0],boxA b10 44 [.int .i64 ((F.getD i (0,0,0)).1),.int .i64 ((F.getD i (0,0,0)).2.1),.int .i64 ((F.getD i (0,0,0)).2.2)],boxA b5 34 [ws.b,ws.l],mapA b23 (fun z:Int=> .int .i64 z) (fun z:Int=> .int .i64 z) (InK .i64) bm1,boxA b2 34 [.bool false,.slice none 0 0],boxA b1 25 [.slice pv nv cv,.slice pf nf cf]],[zF u7_1 (qd7 - 0),zF u7_2 (qd8 - 0),zF u7_3 (qd9 - 0),zF ws s,zF w34 (0:Int),slF (rI3 .i64) pv cv V,slF (rI3 .i64) pf cf F])) ?_ (fun hD21=> ?_)
    ·
     rintro ⟨u7_1,u7_2,u7_3,u25_1,u26_1⟩
     dsimp only [cw]
     refine zRa 15 24 (by kernel_rfl) ?_ ?_
     ·
      refine zL rfl rfl rfl rfl (.c rfl (.c rfl .n)) ce58 (zra (ex:=0) (ey:=0) (ez:=0) (fx:=qd4) (fy:=qd5) (fz:=qd6) (hbex:=by omega) (hbey:=by omega) (hbez:=by omega) (hbfx:=by omega) (hbfy:=by omega) (hbfz:=by omega)) (.n) ?_
      rintro ⟨u15_1,u15_2,u15_3⟩ -
      dsimp only [List.append_eq,List.nil_append,List.cons_append]
      exact zt (hD13 (u7_1,u7_2,u7_3,u15_1,u15_2,u15_3,u25_1,u26_1)) (by kernel_rfl) ((.of rfl):SubM _ _) .rfl .rfl ((.of [0,1,2,3,4,5,6,7,8,9] rfl):SelR _ _ _)
     ·
      refine zU rfl rfl rfl rfl (zr zr89 rfl) (fun u24_1 _=> ?_)
      exact zt (hD14 (u7_1,u7_2,u7_3,u24_1,u25_1,u26_1)) (by kernel_rfl) ((.of rfl):SubM _ _) (zN 1 rfl (zN 1 rfl (zN 0 rfl .nil))) .rfl ((.of [0,1,2,3,4,5,6] rfl):SelR _ _ _)
    refine zQ (X:=Nat×Nat×Nat) (k':=6) (L':=(lb 30 125796223)) (fun (u24_1,u25_1,u26_1)=>([(11,.pointer (some ⟨u26_1,0,none⟩)),(10,.pointer (some ⟨u25_1,0,none⟩)),(9,.pointer (some ⟨u24_1,0,none⟩)),(54,.agg #[.int .i64 qd1,.int .i64 qd2,.int .i64 qd3]),(48,.agg #[.int .i64 0,.int .i64 0,.int .i64 0]),(46,.agg #[.int .i64 qd4,.int .i64 qd5,.int .i64 qd6]),(40,.agg #[.int .i64 0,.int .i64 0,.int .i64 0]),(38,.agg #[.int .i64 qd7,.int .i64 qd8,.int .i64 qd9]),(32,.agg #[.int .i64 0,.int .i64 0,.int .i64 0]),(27,.int .i64 ((i:Nat):Int)),(26,.int .i64 ((nf:Nat):Int)),(25,.slice pf nf cf),(5,.pointer (some ⟨b5,0,none⟩)),(3,.int .i64 0),(2,.pointer (some ⟨b2,0,none⟩)),(1,.pointer (some ⟨b1,0,none⟩))],[boxA u26_1 89 [.bool false,.slice none 0 0,.bool false,.slice none 0 0,.bool false,.slice none 0 0],boxA u25_1 89 [.bool false,.slice none 0 0,.bool false,.slice none 0 0,.bool false,.slice none 0 0],boxA u24_1 89 [.bool false,.slice none 0 0,.bool false,.slice none 0 0,.bool false,.slice none 0 0]],[boxA b11 42 [.int .i64 0,.int .i64 0,.int .i64 0],boxA b10 44 [.int .i64 ((F.getD i (0,0,0)).1),.int .i64 ((F.getD i (0,0,0)).2.1),.int .i64 ((F.getD i (0,0,0)).2.2)],boxA b5 34 [ws.b,ws.l],mapA b23 (fun z:Int=> .int .i64 z) (fun z:Int=> .int .i64 z) (InK .i64) bm1,boxA b2 34 [.bool false,.slice none 0 0],boxA b1 25 [.slice pv nv cv,.slice pf nf cf]],[zF ws s,zF w34 (0:Int),slF (rI3 .i64) pv cv V,slF (rI3 .i64) pf cf F])) ?_ (fun hD22=> ?_)
    ·
     rintro ⟨u24_1,u25_1,u26_1⟩
     dsimp only
     refine zO 7 (by kernel_rfl) ?_
     ·
      refine zL rfl rfl rfl rfl (.c rfl (.c rfl .n)) ce58 (zra (ex:=0) (ey:=0) (ez:=0) (fx:=qd7) (fy:=qd8) (fz:=qd9) (hbex:=by omega) (hbey:=by omega) (hbez:=by omega) (hbfx:=by omega) (hbfy:=by omega) (hbfz:=by omega)) (.n) ?_
      rintro ⟨u7_1,u7_2,u7_3⟩ -
      dsimp only [List.append_eq,List.nil_append,List.cons_append]
      exact zt (hD14 (u7_1,u7_2,u7_3,u24_1,u25_1,u26_1)) (by kernel_rfl) ((.of rfl):SubM _ _) .rfl .rfl ((.of [0,1,2,3,4,5,6] rfl):SelR _ _ _)
    refine zQ (X:=Wd×Wd×Wd×Wd×Wd×Wd) (k':=7) (L':=(lb 30 8388607)) (fun (u7_1,u7_2,u7_3,u15_1,u15_2,u15_3)=>([(47,.agg (cw [u15_1,u15_2,u15_3]).toArray),(39,.agg (cw [u7_1,u7_2,u7_3]).toArray),(54,.agg #[.int .i64 qd1,.int .i64 qd2,.int .i64 qd3]),(48,.agg #[.int .i64 0,.int .i64 0,.int .i64 0]),(27,.int .i64 ((i:Nat):Int)),(26,.int .i64 ((nf:Nat):Int)),(25,.slice pf nf cf),(5,.pointer (some ⟨b5,0,none⟩)),(3,.int .i64 0),(2,.pointer (some ⟨b2,0,none⟩)),(1,.pointer (some ⟨b1,0,none⟩))],[],[boxA b11 42 [.int .i64 0,.int .i64 0,.int .i64 0],boxA b10 44 [.int .i64 ((F.getD i (0,0,0)).1),.int .i64 ((F.getD i (0,0,0)).2.1),.int .i64 ((F.getD i (0,0,0)).2.2)],boxA b5 34 [ws.b,ws.l],mapA b23 (fun z:Int=> .int .i64 z) (fun z:Int=> .int .i64 z) (InK .i64) bm1,boxA b2 34 [.bool false,.slice none 0 0],boxA b1 25 [.slice pv nv cv,.slice pf nf cf]],[zF u15_1 (qd4 - 0),zF u15_2 (qd5 - 0),zF u15_3 (qd6 - 0),zF u7_1 (qd7 - 0),zF u7_2 (qd8 - 0),zF u7_3 (qd9 - 0),zF ws s,zF w34 (0:Int),slF (rI3 .i64) pv cv V,slF (rI3 .i64) pf cf F])) ?_ (fun hD23=> ?_)
    ·
     rintro ⟨u7_1,u7_2,u7_3,u15_1,u15_2,u15_3⟩
     dsimp only [cw]
     refine zxd 23 24 25 26 (by kernel_rfl) ?_ ?_ ?_ ?_
     ·
      refine zL rfl rfl rfl rfl (.c rfl (.c rfl .n)) ce58 (zra (ex:=0) (ey:=0) (ez:=0) (fx:=qd1) (fy:=qd2) (fz:=qd3) (hbex:=by omega) (hbey:=by omega) (hbez:=by omega) (hbfx:=by omega) (hbfy:=by omega) (hbfz:=by omega)) (.n) ?_
      rintro ⟨u23_1,u23_2,u23_3⟩ -
      dsimp only [List.append_eq,List.nil_append,List.cons_append]
      exact zt (hD15 (u7_1,u7_2,u7_3,u15_1,u15_2,u15_3,u23_1,u23_2,u23_3)) (by kernel_rfl) ((.of rfl):SubM _ _) .rfl .rfl ((.of [0,1,2,3,4,5,6,7,8,9,10,11,12] rfl):SelR _ _ _)
     ·
      refine zU rfl rfl rfl rfl (zr zr89 rfl) (fun u24_1 _=> ?_)
      exact zt (hD16 (u7_1,u7_2,u7_3,u15_1,u15_2,u15_3,u24_1)) (by kernel_rfl) ((.of rfl):SubM _ _) .rfl .rfl ((.of [0,1,2,3,4,5,6,7,8,9] rfl):SelR _ _ _)
     ·
      refine zU rfl rfl rfl rfl (zr zr89 rfl) (fun u25_1 _=> ?_)
      exact zt (hD17 (u7_1,u7_2,u7_3,u15_1,u15_2,u15_3,u25_1)) (by kernel_rfl) ((.of rfl):SubM _ _) .rfl .rfl ((.of [0,1,2,3,4,5,6,7,8,9] rfl):SelR _ _ _)
     ·
      refine zU rfl rfl rfl rfl (zr zr89 rfl) (fun u26_1 _=> ?_)
      exact zt (hD18 (u7_1,u7_2,u7_3,u15_1,u15_2,u15_3,u26_1)) (by kernel_rfl) ((.of rfl):SubM _ _) .rfl .rfl ((.of [0,1,2,3,4,5,6,7,8,9] rfl):SelR _ _ _)
    refine zQ (X:=Wd×Wd×Wd×Nat) (k':=7) (L':=(lb 30 25133055)) (fun (u7_1,u7_2,u7_3,u24_1)=>([(9,.pointer (some ⟨u24_1,0,none⟩)),(39,.agg (cw [u7_1,u7_2,u7_3]).toArray),(54,.agg #[.int .i64 qd1,.int .i64 qd2,.int .i64 qd3]),(48,.agg #[.int .i64 0,.int .i64 0,.int .i64 0]),(46,.agg #[.int .i64 qd4,.int .i64 qd5,.int .i64 qd6]),(40,.agg #[.int .i64 0,.int .i64 0,.int .i64 0]),(27,.int .i64 ((i:Nat):Int)),(26,.int .i64 ((nf:Nat):Int)),(25,.slice pf nf cf),(5,.pointer (some ⟨b5,0,none⟩)),(3,.int .i64 0),(2,.pointer (some ⟨b2,0,none⟩)),(1,.pointer (some ⟨b1,0,none⟩))],[boxA u24_1 89 [.bool false,.slice none 0 0,.bool false,.slice none 0 0,.bool false,.slice none 0 0]],[boxA b11 42 [.int .i64 0,.int .i64 0,.int .i64 0],boxA b10 44 [.int .i64 ((F.getD i (0,0,0)).1),.int .i64 ((F.getD i (0,0,0)).2.1),.int .i64 ((F.getD i (0,0,0)).2.2)],boxA b5 34 [ws.b,ws.l],mapA b23 (fun z:Int=> .int .i64 z) (fun z:Int=> .int .i64 z) (InK .i64) bm1,boxA b2 34 [.bool false,.slice none 0 0],boxA b1 25 [.slice pv nv cv,.slice pf nf cf]],[zF u7_1 (qd7 - 0),zF u7_2 (qd8 - 0),zF u7_3 (qd9 - 0),zF ws s,zF w34 (0:Int),slF (rI3 .i64) pv cv V,slF (rI3 .i64) pf cf F])) ?_ (fun hD24=> ?_)
    ·
     rintro ⟨u7_1,u7_2,u7_3,u24_1⟩
     dsimp only [cw]
     refine zSa 15 25 26 (by kernel_rfl) ?_ ?_ ?_
     ·
      refine zL rfl rfl rfl rfl (.c rfl (.c rfl .n)) ce58 (zra (ex:=0) (ey:=0) (ez:=0) (fx:=qd4) (fy:=qd5) (fz:=qd6) (hbex:=by omega) (hbey:=by omega) (hbez:=by omega) (hbfx:=by omega) (hbfy:=by omega) (hbfz:=by omega)) (.n) ?_
      rintro ⟨u15_1,u15_2,u15_3⟩ -
      dsimp only [List.append_eq,List.nil_append,List.cons_append]
      exact zt (hD16 (u7_1,u7_2,u7_3,u15_1,u15_2,u15_3,u24_1)) (by kernel_rfl) ((.of rfl):SubM _ _) .rfl .rfl ((.of [0,1,2,3,4,5,6,7,8,9] rfl):SelR _ _ _)
     ·
      refine zU rfl rfl rfl rfl (zr zr89 rfl) (fun u25_1 _=> ?_)
      exact zt (hD19 (u7_1,u7_2,u7_3,u24_1,u25_1)) (by kernel_rfl) ((.of rfl):SubM _ _) .rfl .rfl ((.of [0,1,2,3,4,5,6] rfl):SelR _ _ _)
     ·
      refine zU rfl rfl rfl rfl (zr zr89 rfl) (fun u26_1 _=> ?_)
      exact zt (hD20 (u7_1,u7_2,u7_3,u24_1,u26_1)) (by kernel_rfl) ((.of rfl):SubM _ _) .rfl .rfl ((.of [0,1,2,3,4,5,6] rfl):SelR _ _ _)
    refine zQ (X:=Wd×Wd×Wd×Nat) (k':=7) (L':=(lb 30 41910271)) (fun (u7_1,u7_2,u7_3,u25_1)=>([(10,.pointer (some ⟨u25_1,0,none⟩)),(39,.agg (cw [u7_1,u7_2,u7_3]).toArray),(54,.agg #[.int .i64 qd1,.int .i64 qd2,.int .i64 qd3]),(48,.agg #[.int .i64 0,.int .i64 0,.int .i64 0]),(46,.agg #[.int .i64 qd4,.int .i64 qd5,.int .i64 qd6]),(40,.agg #[.int .i64 0,.int .i64 0,.int .i64 0]),(27,.int .i64 ((i:Nat):Int)),(26,.int .i64 ((nf:Nat):Int)),(25,.slice pf nf cf),(5,.pointer (some ⟨b5,0,none⟩)),(3,.int .i64 0),(2,.pointer (some ⟨b2,0,none⟩)),(1,.pointer (some ⟨b1,0,none⟩))],[boxA u25_1 89 [.bool false,.slice none 0 0,.bool false,.slice none 0 0,.bool false,.slice none 0 0]],[boxA b11 42 [.int .i64 0,.int .i64 0,.int .i64 0],boxA b10 44 [.int .i64 ((F.getD i (0,0,0)).1),.int .i64 ((F.getD i (0,0,0)).2.1),.int .i64 ((F.getD i (0,0,0)).2.2)],boxA b5 34 [ws.b,ws.l],mapA b23 (fun z:Int=> .int .i64 z) (fun z:Int=> .int .i64 z) (InK .i64) bm1,boxA b2 34 [.bool false,.slice none 0 0],boxA b1 25 [.slice pv nv cv,.slice pf nf cf]],[zF u7_1 (qd7 - 0),zF u7_2 (qd8 - 0),zF u7_3 (qd9 - 0),zF ws s,zF w34 (0:Int),slF (rI3 .i64) pv cv V,slF (rI3 .i64) pf cf F])) ?_ (fun hD25=> ?_)
    ·
     rintro ⟨u7_1,u7_2,u7_3,u25_1⟩
     dsimp only [cw]
     refine zSa 15 24 26 (by kernel_rfl) ?_ ?_ ?_
     ·
      refine zL rfl rfl rfl rfl (.c rfl (.c rfl .n)) ce58 (zra (ex:=0) (ey:=0) (ez:=0) (fx:=qd4) (fy:=qd5) (fz:=qd6) (hbex:=by omega) (hbey:=by omega) (hbez:=by omega) (hbfx:=by omega) (hbfy:=by omega) (hbfz:=by omega)) (.n) ?_
      rintro ⟨u15_1,u15_2,u15_3⟩ -
      dsimp only [List.append_eq,List.nil_append,List.cons_append]
      exact zt (hD17 (u7_1,u7_2,u7_3,u15_1,u15_2,u15_3,u25_1)) (by kernel_rfl) ((.of rfl):SubM _ _) .rfl .rfl ((.of [0,1,2,3,4,5,6,7,8,9] rfl):SelR _ _ _)
     ·
      refine zU rfl rfl rfl rfl (zr zr89 rfl) (fun u24_1 _=> ?_)
      exact zt (hD19 (u7_1,u7_2,u7_3,u24_1,u25_1)) (by kernel_rfl) ((.of rfl):SubM _ _) (zN 1 rfl (zN 0 rfl .nil)) .rfl ((.of [0,1,2,3,4,5,6] rfl):SelR _ _ _)
     ·
      refine zU rfl rfl rfl rfl (zr zr89 rfl) (fun u26_1 _=> ?_)
      exact zt (hD21 (u7_1,u7_2,u7_3,u25_1,u26_1)) (by kernel_rfl) ((.of rfl):SubM _ _) .rfl .rfl ((.of [0,1,2,3,4,5,6] rfl):SelR _ _ _)
    refine zQ (X:=Wd×Wd×Wd×Nat) (k':=7) (L':=(lb 30 75464703)) (fun (u7_1,u7_2,u7_3,u26_1)=>([(11,.pointer (some ⟨u26_1,0,none⟩)),(39,.agg (cw [u7_1,u7_2,u7_3]).toArray),(54,.agg #[.int .i64 qd1,.int .i64 qd2,.int .i64 qd3]),(48,.agg #[.int .i64 0,.int .i64 0,.int .i64 0]),(46,.agg #[.int .i64 qd4,.int .i64 qd5,.int .i64 qd6]),(40,.agg #[.int .i64 0,.int .i64 0,.int .i64 0]),(27,.int .i64 ((i:Nat):Int)),(26,.int .i64 ((nf:Nat):Int)),(25,.slice pf nf cf),(5,.pointer (some ⟨b5,0,none⟩)),(3,.int .i64 0),(2,.pointer (some ⟨b2,0,none⟩)),(1,.pointer (some ⟨b1,0,none⟩))],[boxA u26_1 89 [.bool false,.slice none 0 0,.bool false,.slice none 0 0,.bool false,.slice none 0 0]],[boxA b11 42 [.int .i64 0,.int .i64 0,.int .i64 0],boxA b10 44 [.int .i64 ((F.getD i (0,0,0)).1),.int .i64 ((F.getD i (0,0,0)).2.1),.int .i64 ((F.getD i (0,0,0)).2.2)],boxA b5 34 [ws.b,ws.l],mapA b23 (fun z:Int=> .int .i64 z) (fun z:Int=> .int .i64 z) (InK .i64) bm1,boxA b2 34 [.bool false,.slice none 0 0],boxA b1 25 [.slice pv nv cv,.slice pf nf cf]],[zF u7_1 (qd7 - 0),zF u7_2 (qd8 - 0),zF u7_3 (qd9 - 0),zF ws s,zF w34 (0:Int),slF (rI3 .i64) pv cv V,slF (rI3 .i64) pf cf F])) ?_ (fun hD26=> ?_)
    ·
     rintro ⟨u7_1,u7_2,u7_3,u26_1⟩
     dsimp only [cw]
     refine zSa 15 24 25 (by kernel_rfl) ?_ ?_ ?_
     ·
      refine zL rfl rfl rfl rfl (.c rfl (.c rfl .n)) ce58 (zra (ex:=0) (ey:=0) (ez:=0) (fx:=qd4) (fy:=qd5) (fz:=qd6) (hbex:=by omega) (hbey:=by omega) (hbez:=by omega) (hbfx:=by omega) (hbfy:=by omega) (hbfz:=by omega)) (.n) ?_
      rintro ⟨u15_1,u15_2,u15_3⟩ -
      dsimp only [List.append_eq,List.nil_append,List.cons_append]
      exact zt (hD18 (u7_1,u7_2,u7_3,u15_1,u15_2,u15_3,u26_1)) (by kernel_rfl) ((.of rfl):SubM _ _) .rfl .rfl ((.of [0,1,2,3,4,5,6,7,8,9] rfl):SelR _ _ _)
     ·
      refine zU rfl rfl rfl rfl (zr zr89 rfl) (fun u24_1 _=> ?_)
      exact zt (hD20 (u7_1,u7_2,u7_3,u24_1,u26_1)) (by kernel_rfl) ((.of rfl):SubM _ _) (zN 1 rfl (zN 0 rfl .nil)) .rfl ((.of [0,1,2,3,4,5,6] rfl):SelR _ _ _)
     ·
      refine zU rfl rfl rfl rfl (zr zr89 rfl) (fun u25_1 _=> ?_)
      exact zt (hD21 (u7_1,u7_2,u7_3,u25_1,u26_1)) (by kernel_rfl) ((.of rfl):SubM _ _) (zN 1 rfl (zN 0 rfl .nil)) .rfl ((.of [0,1,2,3,4,5,6] rfl):SelR _ _ _)
    refine zQ (X:=Nat×Nat) (k':=7) (L':=(lb 30 58687359)) (fun (u24_1,u25_1)=>([(10,.pointer (some ⟨u25_1,0,none⟩)),(9,.pointer (some ⟨u24_1,0,none⟩)),(54,.agg #[.int .i64 qd1,.int .i64 qd2,.int .i64 qd3]),(48,.agg #[.int .i64 0,.int .i64 0,.int .i64 0]),(46,.agg #[.int .i64 qd4,.int .i64 qd5,.int .i64 qd6]),(40,.agg #[.int .i64 0,.int .i64 0,.int .i64 0]),(38,.agg #[.int .i64 qd7,.int .i64 qd8,.int .i64 qd9]),(32,.agg #[.int .i64 0,.int .i64 0,.int .i64 0]),(27,.int .i64 ((i:Nat):Int)),(26,.int .i64 ((nf:Nat):Int)),(25,.slice pf nf cf),(5,.pointer (some ⟨b5,0,none⟩)),(3,.int .i64 0),(2,.pointer (some ⟨b2,0,none⟩)),(1,.pointer (some ⟨b1,0,none⟩))],[boxA u25_1 89 [.bool false,.slice none 0 0,.bool false,.slice none 0 0,.bool false,.slice none 0 0],boxA u24_1 89 [.bool false,.slice none 0 0,.bool false,.slice none 0 0,.bool false,.slice none 0 0]],[boxA b11 42 [.int .i64 0,.int .i64 0,.int .i64 0],boxA b10 44 [.int .i64 ((F.getD i (0,0,0)).1),.int .i64 ((F.getD i (0,0,0)).2.1),.int .i64 ((F.getD i (0,0,0)).2.2)],boxA b5 34 [ws.b,ws.l],mapA b23 (fun z:Int=> .int .i64 z) (fun z:Int=> .int .i64 z) (InK .i64) bm1,boxA b2 34 [.bool false,.slice none 0 0],boxA b1 25 [.slice pv nv cv,.slice pf nf cf]],[zF ws s,zF w34 (0:Int),slF (rI3 .i64) pv cv V,slF (rI3 .i64) pf cf F])) ?_ (fun hD27=> ?_)
    ·
     rintro ⟨u24_1,u25_1⟩
     dsimp only
     refine zRa 7 26 (by kernel_rfl) ?_ ?_
     ·
      refine zL rfl rfl rfl rfl (.c rfl (.c rfl .n)) ce58 (zra (ex:=0) (ey:=0) (ez:=0) (fx:=qd7) (fy:=qd8) (fz:=qd9) (hbex:=by omega) (hbey:=by omega) (hbez:=by omega) (hbfx:=by omega) (hbfy:=by omega) (hbfz:=by omega)) (.n) ?_
      rintro ⟨u7_1,u7_2,u7_3⟩ -
      dsimp only [List.append_eq,List.nil_append,List.cons_append]
      exact zt (hD19 (u7_1,u7_2,u7_3,u24_1,u25_1)) (by kernel_rfl) ((.of rfl):SubM _ _) .rfl .rfl ((.of [0,1,2,3,4,5,6] rfl):SelR _ _ _)
     ·
      refine zU rfl rfl rfl rfl (zr zr89 rfl) (fun u26_1 _=> ?_)
      exact zt (hD22 (u24_1,u25_1,u26_1)) (by kernel_rfl) ((.of rfl):SubM _ _) .rfl .rfl ((.of [0,1,2,3] rfl):SelR _ _ _)
    refine zQ (X:=Nat×Nat) (k':=7) (L':=(lb 30 92241791)) (fun (u24_1,u26_1)=>([(11,.pointer (some ⟨u26_1,0,none⟩)),(9,.pointer (some ⟨u24_1,0,none⟩)),(54,.agg #[.int .i64 qd1,.int .i64 qd2,.int .i64 qd3]),(48,.agg #[.int .i64 0,.int .i64 0,.int .i64 0]),(46,.agg #[.int .i64 qd4,.int .i64 qd5,.int .i64 qd6]),(40,.agg #[.int .i64 0,.int .i64 0,.int .i64 0]),(38,.agg #[.int .i64 qd7,.int .i64 qd8,.int .i64 qd9]),(32,.agg #[.int .i64 0,.int .i64 0,.int .i64 0]),(27,.int .i64 ((i:Nat):Int)),(26,.int .i64 ((nf:Nat):Int)),(25,.slice pf nf cf),(5,.pointer (some ⟨b5,0,none⟩)),(3,.int .i64 0),(2,.pointer (some ⟨b2,0,none⟩)),(1,.pointer (some ⟨b1,0,none⟩))],[boxA u26_1 89 [.bool false,.slice none 0 0,.bool false,.slice none 0 0,.bool false,.slice none 0 0],boxA u24_1 89 [.bool false,.slice none 0 0,.bool false,.slice none 0 0,.bool false,.slice none 0 0]],[boxA b11 42 [.int .i64 0,.int .i64 0,.int .i64 0],boxA b10 44 [.int .i64 ((F.getD i (0,0,0)).1),.int .i64 ((F.getD i (0,0,0)).2.1),.int .i64 ((F.getD i (0,0,0)).2.2)],boxA b5 34 [ws.b,ws.l],mapA b23 (fun z:Int=> .int .i64 z) (fun z:Int=> .int .i64 z) (InK .i64) bm1,boxA b2 34 [.bool false,.slice none 0 0],boxA b1 25 [.slice pv nv cv,.slice pf nf cf]],[zF ws s,zF w34 (0:Int),slF (rI3 .i64) pv cv V,slF (rI3 .i64) pf cf F])) ?_ (fun hD28=> ?_)
    ·
     rintro ⟨u24_1,u26_1⟩
     dsimp only
     refine zRa 7 25 (by kernel_rfl) ?_ ?_
     ·
      refine zL rfl rfl rfl rfl (.c rfl (.c rfl .n)) ce58 (zra (ex:=0) (ey:=0) (ez:=0) (fx:=qd7) (fy:=qd8) (fz:=qd9) (hbex:=by omega) (hbey:=by omega) (hbez:=by omega) (hbfx:=by omega) (hbfy:=by omega) (hbfz:=by omega)) (.n) ?_
      rintro ⟨u7_1,u7_2,u7_3⟩ -
      dsimp only [List.append_eq,List.nil_append,List.cons_append]
      exact zt (hD20 (u7_1,u7_2,u7_3,u24_1,u26_1)) (by kernel_rfl) ((.of rfl):SubM _ _) .rfl .rfl ((.of [0,1,2,3,4,5,6] rfl):SelR _ _ _)
     ·
      refine zU rfl rfl rfl rfl (zr zr89 rfl) (fun u25_1 _=> ?_)
      exact zt (hD22 (u24_1,u25_1,u26_1)) (by kernel_rfl) ((.of rfl):SubM _ _) (zN 1 rfl (zN 0 rfl (zN 0 rfl .nil))) .rfl ((.of [0,1,2,3] rfl):SelR _ _ _)
    refine zQ (X:=Nat×Nat) (k':=7) (L':=(lb 30 109019007)) (fun (u25_1,u26_1)=>([(11,.pointer (some ⟨u26_1,0,none⟩)),(10,.pointer (some ⟨u25_1,0,none⟩)),(54,.agg #[.int .i64 qd1,.int .i64 qd2,.int .i64 qd3]),(48,.agg #[.int .i64 0,.int .i64 0,.int .i64 0]),(46,.agg #[.int .i64 qd4,.int .i64 qd5,.int .i64 qd6]),(40,.agg #[.int .i64 0,.int .i64 0,.int .i64 0]),(38,.agg #[.int .i64 qd7,.int .i64 qd8,.int .i64 qd9]),(32,.agg #[.int .i64 0,.int .i64 0,.int .i64 0]),(27,.int .i64 ((i:Nat):Int)),(26,.int .i64 ((nf:Nat):Int)),(25,.slice pf nf cf),(5,.pointer (some ⟨b5,0,none⟩)),(3,.int .i64 0),(2,.pointer (some ⟨b2,0,none⟩)),(1,.pointer (some ⟨b1,0,none⟩))],[boxA u26_1 89 [.bool false,.slice none 0 0,.bool false,.slice none 0 0,.bool false,.slice none 0 0],boxA u25_1 89 [.bool false,.slice none 0 0,.bool false,.slice none 0 0,.bool false,.slice none 0 0]],[boxA b11 42 [.int .i64 0,.int .i64 0,.int .i64 0],boxA b10 44 [.int .i64 ((F.getD i (0,0,0)).1),.int .i64 ((F.getD i (0,0,0)).2.1),.int .i64 ((F.getD i (0,0,0)).2.2)],boxA b5 34 [ws.b,ws.l],mapA b23 (fun z:Int=> .int .i64 z) (fun z:Int=> .int .i64 z) (InK .i64) bm1,boxA b2 34 [.bool false,.slice none 0 0],boxA b1 25 [.slice pv nv cv,.slice pf nf cf]],[zF ws s,zF w34 (0:Int),slF (rI3 .i64) pv cv V,slF (rI3 .i64) pf cf F])) ?_ (fun hD29=> ?_)
    ·
     rintro ⟨u25_1,u26_1⟩
     dsimp only
     refine zRa 7 24 (by kernel_rfl) ?_ ?_
     ·
      refine zL rfl rfl rfl rfl (.c rfl (.c rfl .n)) ce58 (zra (ex:=0) (ey:=0) (ez:=0) (fx:=qd7) (fy:=qd8) (fz:=qd9) (hbex:=by omega) (hbey:=by omega) (hbez:=by omega) (hbfx:=by omega) (hbfy:=by omega) (hbfz:=by omega)) (.n) ?_
      rintro ⟨u7_1,u7_2,u7_3⟩ -
      dsimp only [List.append_eq,List.nil_append,List.cons_append]
      exact zt (hD21 (u7_1,u7_2,u7_3,u25_1,u26_1)) (by kernel_rfl) ((.of rfl):SubM _ _) .rfl .rfl ((.of [0,1,2,3,4,5,6] rfl):SelR _ _ _)
     ·
      refine zU rfl rfl rfl rfl (zr zr89 rfl) (fun u24_1 _=> ?_)
      exact zt (hD22 (u24_1,u25_1,u26_1)) (by kernel_rfl) ((.of rfl):SubM _ _) (zN 1 rfl (zN 1 rfl (zN 0 rfl .nil))) .rfl ((.of [0,1,2,3] rfl):SelR _ _ _)
    refine zQ (X:=Wd×Wd×Wd) (k':=8) (L':=(lb 30 8355839)) (fun (u7_1,u7_2,u7_3)=>([(39,.agg (cw [u7_1,u7_2,u7_3]).toArray),(54,.agg #[.int .i64 qd1,.int .i64 qd2,.int .i64 qd3]),(48,.agg #[.int .i64 0,.int .i64 0,.int .i64 0]),(46,.agg #[.int .i64 qd4,.int .i64 qd5,.int .i64 qd6]),(40,.agg #[.int .i64 0,.int .i64 0,.int .i64 0]),(27,.int .i64 ((i:Nat):Int)),(26,.int .i64 ((nf:Nat):Int)),(25,.slice pf nf cf),(5,.pointer (some ⟨b5,0,none⟩)),(3,.int .i64 0),(2,.pointer (some ⟨b2,0,none⟩)),(1,.pointer (some ⟨b1,0,none⟩))],[],[boxA b11 42 [.int .i64 0,.int .i64 0,.int .i64 0],boxA b10 44 [.int .i64 ((F.getD i (0,0,0)).1),.int .i64 ((F.getD i (0,0,0)).2.1),.int .i64 ((F.getD i (0,0,0)).2.2)],boxA b5 34 [ws.b,ws.l],mapA b23 (fun z:Int=> .int .i64 z) (fun z:Int=> .int .i64 z) (InK .i64) bm1,boxA b2 34 [.bool false,.slice none 0 0],boxA b1 25 [.slice pv nv cv,.slice pf nf cf]],[zF u7_1 (qd7 - 0),zF u7_2 (qd8 - 0),zF u7_3 (qd9 - 0),zF ws s,zF w34 (0:Int),slF (rI3 .i64) pv cv V,slF (rI3 .i64) pf cf F])) ?_ (fun hD30=> ?_)
    ·
     rintro ⟨u7_1,u7_2,u7_3⟩
     dsimp only [cw]
     refine zxd 15 24 25 26 (by kernel_rfl) ?_ ?_ ?_ ?_
     ·
      refine zL rfl rfl rfl rfl (.c rfl (.c rfl .n)) ce58 (zra (ex:=0) (ey:=0) (ez:=0) (fx:=qd4) (fy:=qd5) (fz:=qd6) (hbex:=by omega) (hbey:=by omega) (hbez:=by omega) (hbfx:=by omega) (hbfy:=by omega) (hbfz:=by omega)) (.n) ?_
      rintro ⟨u15_1,u15_2,u15_3⟩ -
      dsimp only [List.append_eq,List.nil_append,List.cons_append]
      exact zt (hD23 (u7_1,u7_2,u7_3,u15_1,u15_2,u15_3)) (by kernel_rfl) ((.of rfl):SubM _ _) .rfl .rfl ((.of [0,1,2,3,4,5,6,7,8,9] rfl):SelR _ _ _)
     ·
      refine zU rfl rfl rfl rfl (zr zr89 rfl) (fun u24_1 _=> ?_)
      exact zt (hD24 (u7_1,u7_2,u7_3,u24_1)) (by kernel_rfl) ((.of rfl):SubM _ _) .rfl .rfl ((.of [0,1,2,3,4,5,6] rfl):SelR _ _ _)
     ·
      refine zU rfl rfl rfl rfl (zr zr89 rfl) (fun u25_1 _=> ?_)
      exact zt (hD25 (u7_1,u7_2,u7_3,u25_1)) (by kernel_rfl) ((.of rfl):SubM _ _) .rfl .rfl ((.of [0,1,2,3,4,5,6] rfl):SelR _ _ _)
     ·
      refine zU rfl rfl rfl rfl (zr zr89 rfl) (fun u26_1 _=> ?_)
      exact zt (hD26 (u7_1,u7_2,u7_3,u26_1)) (by kernel_rfl) ((.of rfl):SubM _ _) .rfl .rfl ((.of [0,1,2,3,4,5,6] rfl):SelR _ _ _)
    refine zQ (X:=Nat) (k':=8) (L':=(lb 30 25132927)) (fun u24_1=>([(9,.pointer (some ⟨u24_1,0,none⟩)),(54,.agg #[.int .i64 qd1,.int .i64 qd2,.int .i64 qd3]),(48,.agg #[.int .i64 0,.int .i64 0,.int .i64 0]),(46,.agg #[.int .i64 qd4,.int .i64 qd5,.int .i64 qd6]),(40,.agg #[.int .i64 0,.int .i64 0,.int .i64 0]),(38,.agg #[.int .i64 qd7,.int .i64 qd8,.int .i64 qd9]),(32,.agg #[.int .i64 0,.int .i64 0,.int .i64 0]),(27,.int .i64 ((i:Nat):Int)),(26,.int .i64 ((nf:Nat):Int)),(25,.slice pf nf cf),(5,.pointer (some ⟨b5,0,none⟩)),(3,.int .i64 0),(2,.pointer (some ⟨b2,0,none⟩)),(1,.pointer (some ⟨b1,0,none⟩))],[boxA u24_1 89 [.bool false,.slice none 0 0,.bool false,.slice none 0 0,.bool false,.slice none 0 0]],[boxA b11 42 [.int .i64 0,.int .i64 0,.int .i64 0],boxA b10 44 [.int .i64 ((F.getD i (0,0,0)).1),.int .i64 ((F.getD i (0,0,0)).2.1),.int .i64 ((F.getD i (0,0,0)).2.2)],boxA b5 34 [ws.b,ws.l],mapA b23 (fun z:Int=> .int .i64 z) (fun z:Int=> .int .i64 z) (InK .i64) bm1,boxA b2 34 [.bool false,.slice none 0 0],boxA b1 25 [.slice pv nv cv,.slice pf nf cf]],[zF ws s,zF w34 (0:Int),slF (rI3 .i64) pv cv V,slF (rI3 .i64) pf cf F])) ?_ (fun hD31=> ?_)
    ·
     rintro u24_1
     dsimp only
     refine zSa 7 25 26 (by kernel_rfl) ?_ ?_ ?_
     ·
      refine zL rfl rfl rfl rfl (.c rfl (.c rfl .n)) ce58 (zra (ex:=0) (ey:=0) (ez:=0) (fx:=qd7) (fy:=qd8) (fz:=qd9) (hbex:=by omega) (hbey:=by omega) (hbez:=by omega) (hbfx:=by omega) (hbfy:=by omega) (hbfz:=by omega)) (.n) ?_
      rintro ⟨u7_1,u7_2,u7_3⟩ -
      dsimp only [List.append_eq,List.nil_append,List.cons_append]
      exact zt (hD24 (u7_1,u7_2,u7_3,u24_1)) (by kernel_rfl) ((.of rfl):SubM _ _) .rfl .rfl ((.of [0,1,2,3,4,5,6] rfl):SelR _ _ _)
     ·
      refine zU rfl rfl rfl rfl (zr zr89 rfl) (fun u25_1 _=> ?_)
      exact zt (hD27 (u24_1,u25_1)) (by kernel_rfl) ((.of rfl):SubM _ _) .rfl .rfl ((.of [0,1,2,3] rfl):SelR _ _ _)
     ·
      refine zU rfl rfl rfl rfl (zr zr89 rfl) (fun u26_1 _=> ?_)
      exact zt (hD28 (u24_1,u26_1)) (by kernel_rfl) ((.of rfl):SubM _ _) .rfl .rfl ((.of [0,1,2,3] rfl):SelR _ _ _)
    refine zQ (X:=Nat) (k':=8) (L':=(lb 30 41910143)) (fun u25_1=>([(10,.pointer (some ⟨u25_1,0,none⟩)),(54,.agg #[.int .i64 qd1,.int .i64 qd2,.int .i64 qd3]),(48,.agg #[.int .i64 0,.int .i64 0,.int .i64 0]),(46,.agg #[.int .i64 qd4,.int .i64 qd5,.int .i64 qd6]),(40,.agg #[.int .i64 0,.int .i64 0,.int .i64 0]),(38,.agg #[.int .i64 qd7,.int .i64 qd8,.int .i64 qd9]),(32,.agg #[.int .i64 0,.int .i64 0,.int .i64 0]),(27,.int .i64 ((i:Nat):Int)),(26,.int .i64 ((nf:Nat):Int)),(25,.slice pf nf cf),(5,.pointer (some ⟨b5,0,none⟩)),(3,.int .i64 0),(2,.pointer (some ⟨b2,0,none⟩)),(1,.pointer (some ⟨b1,0,none⟩))],[boxA u25_1 89 [.bool false,.slice none 0 0,.bool false,.slice none 0 0,.bool false,.slice none 0 0]],[boxA b11 42 [.int .i64 0,.int .i64 0,.int .i64 0],boxA b10 44 [.int .i64 ((F.getD i (0,0,0)).1),.int .i64 ((F.getD i (0,0,0)).2.1),.int .i64 ((F.getD i (0,0,0)).2.2)],boxA b5 34 [ws.b,ws.l],mapA b23 (fun z:Int=> .int .i64 z) (fun z:Int=> .int .i64 z) (InK .i64) bm1,boxA b2 34 [.bool false,.slice none 0 0],boxA b1 25 [.slice pv nv cv,.slice pf nf cf]],[zF ws s,zF w34 (0:Int),slF (rI3 .i64) pv cv V,slF (rI3 .i64) pf cf F])) ?_ (fun hD32=> ?_)
    ·
     rintro u25_1
     dsimp only
     refine zSa 7 24 26 (by kernel_rfl) ?_ ?_ ?_
     ·
      refine zL rfl rfl rfl rfl (.c rfl (.c rfl .n)) ce58 (zra (ex:=0) (ey:=0) (ez:=0) (fx:=qd7) (fy:=qd8) (fz:=qd9) (hbex:=by omega) (hbey:=by omega) (hbez:=by omega) (hbfx:=by omega) (hbfy:=by omega) (hbfz:=by omega)) (.n) ?_
      rintro ⟨u7_1,u7_2,u7_3⟩ -
      dsimp only [List.append_eq,List.nil_append,List.cons_append]
      exact zt (hD25 (u7_1,u7_2,u7_3,u25_1)) (by kernel_rfl) ((.of rfl):SubM _ _) .rfl .rfl ((.of [0,1,2,3,4,5,6] rfl):SelR _ _ _)
     ·
      refine zU rfl rfl rfl rfl (zr zr89 rfl) (fun u24_1 _=> ?_)
      exact zt (hD27 (u24_1,u25_1)) (by kernel_rfl) ((.of rfl):SubM _ _) (zN 1 rfl (zN 0 rfl .nil)) .rfl ((.of [0,1,2,3] rfl):SelR _ _ _)
     ·
      refine zU rfl rfl rfl rfl (zr zr89 rfl) (fun u26_1 _=> ?_)
      exact zt (hD29 (u25_1,u26_1)) (by kernel_rfl) ((.of rfl):SubM _ _) .rfl .rfl ((.of [0,1,2,3] rfl):SelR _ _ _)
    refine zQ (X:=Nat) (k':=8) (L':=(lb 30 75464575)) (fun u26_1=>([(11,.pointer (some ⟨u26_1,0,none⟩)),(54,.agg #[.int .i64 qd1,.int .i64 qd2,.int .i64 qd3]),(48,.agg #[.int .i64 0,.int .i64 0,.int .i64 0]),(46,.agg #[.int .i64 qd4,.int .i64 qd5,.int .i64 qd6]),(40,.agg #[.int .i64 0,.int .i64 0,.int .i64 0]),(38,.agg #[.int .i64 qd7,.int .i64 qd8,.int .i64 qd9]),(32,.agg #[.int .i64 0,.int .i64 0,.int .i64 0]),(27,.int .i64 ((i:Nat):Int)),(26,.int .i64 ((nf:Nat):Int)),(25,.slice pf nf cf),(5,.pointer (some ⟨b5,0,none⟩)),(3,.int .i64 0),(2,.pointer (some ⟨b2,0,none⟩)),(1,.pointer (some ⟨b1,0,none⟩))],[boxA u26_1 89 [.bool false,.slice none 0 0,.bool false,.slice none 0 0,.bool false,.slice none 0 0]],[boxA b11 42 [.int .i64 0,.int .i64 0,.int .i64 0],boxA b10 44 [.int .i64 ((F.getD i (0,0,0)).1),.int .i64 ((F.getD i (0,0,0)).2.1),.int .i64 ((F.getD i (0,0,0)).2.2)],boxA b5 34 [ws.b,ws.l],mapA b23 (fun z:Int=> .int .i64 z) (fun z:Int=> .int .i64 z) (InK .i64) bm1,boxA b2 34 [.bool false,.slice none 0 0],boxA b1 25 [.slice pv nv cv,.slice pf nf cf]],[zF ws s,zF w34 (0:Int),slF (rI3 .i64) pv cv V,slF (rI3 .i64) pf cf F])) ?_ (fun hD33=> ?_)
    ·
     rintro u26_1
     dsimp only
     refine zSa 7 24 25 (by kernel_rfl) ?_ ?_ ?_
     ·
      refine zL rfl rfl rfl rfl (.c rfl (.c rfl .n)) ce58 (zra (ex:=0) (ey:=0) (ez:=0) (fx:=qd7) (fy:=qd8) (fz:=qd9) (hbex:=by omega) (hbey:=by omega) (hbez:=by omega) (hbfx:=by omega) (hbfy:=by omega) (hbfz:=by omega)) (.n) ?_
      rintro ⟨u7_1,u7_2,u7_3⟩ -
      dsimp only [List.append_eq,List.nil_append,List.cons_append]
      exact zt (hD26 (u7_1,u7_2,u7_3,u26_1)) (by kernel_rfl) ((.of rfl):SubM _ _) .rfl .rfl ((.of [0,1,2,3,4,5,6] rfl):SelR _ _ _)
     ·
      refine zU rfl rfl rfl rfl (zr zr89 rfl) (fun u24_1 _=> ?_)
      exact zt (hD28 (u24_1,u26_1)) (by kernel_rfl) ((.of rfl):SubM _ _) (zN 1 rfl (zN 0 rfl .nil)) .rfl ((.of [0,1,2,3] rfl):SelR _ _ _)
     ·
      refine zU rfl rfl rfl rfl (zr zr89 rfl) (fun u25_1 _=> ?_)
      exact zt (hD29 (u25_1,u26_1)) (by kernel_rfl) ((.of rfl):SubM _ _) (zN 1 rfl (zN 0 rfl .nil)) .rfl ((.of [0,1,2,3] rfl):SelR _ _ _)
    refine zxd 7 24 25 26 (by kernel_rfl) ?_ ?_ ?_ ?_
    ·
     refine zL rfl rfl rfl rfl (.c rfl (.c rfl .n)) ce58 (zra (ex:=0) (ey:=0) (ez:=0) (fx:=qd7) (fy:=qd8) (fz:=qd9) (hbex:=by omega) (hbey:=by omega) (hbez:=by omega) (hbfx:=by omega) (hbfy:=by omega) (hbfz:=by omega)) (.n) ?_
     rintro ⟨u7_1,u7_2,u7_3⟩ -
     dsimp only [List.append_eq,List.nil_append,List.cons_append]
     exact zt (hD30 (u7_1,u7_2,u7_3)) (by kernel_rfl) ((.of rfl):SubM _ _) .rfl .rfl ((.of [0,1,2,3,4,5,6] rfl):SelR _ _ _)
    ·
     refine zU rfl rfl rfl rfl (zr zr89 rfl) (fun u24_1 _=> ?_)
     exact zt (hD31 u24_1) (by kernel_rfl) ((.of rfl):SubM _ _) .rfl .rfl ((.of [0,1,2,3] rfl):SelR _ _ _)
    ·
     refine zU rfl rfl rfl rfl (zr zr89 rfl) (fun u25_1 _=> ?_)
     exact zt (hD32 u25_1) (by kernel_rfl) ((.of rfl):SubM _ _) .rfl .rfl ((.of [0,1,2,3] rfl):SelR _ _ _)
    ·
     refine zU rfl rfl rfl rfl (zr zr89 rfl) (fun u26_1 _=> ?_)
     exact zt (hD33 u26_1) (by kernel_rfl) ((.of rfl):SubM _ _) .rfl .rfl ((.of [0,1,2,3] rfl):SelR _ _ _)
   ·
    refine zX<|zj<|zj<|zp<|zc<|ze<|za<|r_u rfl rfl (zh 0 ty34 rfl rfl (.take (.take .nil)))<|zv 2 rfl rfl rfl rfl rfl sz34 rfl (.take (.take .nil)) (.s (.s .z))<|r_pv rfl rfl (zd rfl)<|zg<|zc<|zK ?_
    obtain ⟨hz1,hz2⟩:=Ms.volC_ok hc0 (fun h=>hlen (by have:=hB.empty.2 h;omega))
    have hs9:s=Ms.vol V F:=by rw [hz2,hs,List.take_of_length_le (by omega)]
    exact zub Try.results16 ws trivial (zR 2 ty34 rfl rfl (.take (.take .nil))) (zx rfl) (by rw [hz1]) (ho:=(.n:PickO _ _ _)) ((.e (j:=0) rfl (by rw [← hs9]) .n):SelR _ _ _)
end Go.Proofs.Ytalfgjpbbongcaa.Sp
namespace Go.Proofs.Ytalfgjpbbongcaa.Sp
open Go
set_option linter.unusedVariables false
set_option maxRecDepth 100000
set_option maxHeartbeats 8000000
theorem zUd:Con Try.prog 12 [] [] [] (Y:=Unit) (fun y=>True) (fun y=> .bool true) (fun y=>[]) (fun y=>[]):=by
 refine zy Try.func12 rfl rfl rfl (fun c=> ?_)
 show RunC _ _ _ _ _ [] [] []
 refine ze<|za<|r_pv rfl rfl (zd rfl)<|zg<|zc<|ze<|za<|zfa rfl rfl (.n) ce44 (ztb) (.n) ?_
 rintro ⟨pvA,pfA⟩ -
 dsimp only [List.append_eq,List.nil_append,List.cons_append]
 refine zfa rfl rfl (.c rfl .n) ce16 (zod (pv:=pvA) (nv:=4) (cv:=4) (V:=Ms.exV) (pf:=pfA) (nf:=4) (cf:=4) (F:=Ms.exF) (hnv:=by first|rfl|assumption|decide|(simp [Ms.exV,Ms.exF];done)) (hnf:=by first|rfl|assumption|decide|(simp [Ms.exV,Ms.exF];done))) (.c (j:=0) rfl (.c (j:=1) rfl .n)) ?_
 rintro w31 -
 dsimp only [List.append_eq,List.nil_append,List.cons_append]
 have e2:Ms.volC Ms.exV Ms.exF=0:=by exact Ms.ex_volC
 rw [e2]
 have e3:Ms.vol Ms.exV Ms.exF=(1:Int):=by exact Ms.ex_vol
 rw [e3]
 refine r_pv rfl rfl (zb rfl)<|r_pv rfl rfl (zY rfl rfl)<|r_pv rfl rfl (zY rfl rfl)<|zV rfl rfl (zr zr34 rfl) (fun b4=> ?_)
 refine zv 0 rfl rfl rfl rfl rfl sz34 rfl (.take (.take .nil)) .z<|r_pv rfl rfl (zd rfl)<|zg<|zc<|ze<|za<|zfa rfl rfl (.n) ce44 (ztb) (.n) ?_
 rintro ⟨pvB,pfB⟩ -
 dsimp only [List.append_eq,List.nil_append,List.cons_append]
 refine zea rfl rfl (.c rfl .n) ce25 (zTd (pv:=pvB) (nv:=4) (cv:=4) (V:=Ms.exV) (pf:=pfB) (nf:=4) (cf:=4) (F:=Ms.exF) (hnv:=by first|rfl|assumption|decide|(simp [Ms.exV,Ms.exF];done)) (hnf:=by first|rfl|assumption|decide|(simp [Ms.exV,Ms.exF];done))) (.c (j:=0) rfl (.c (j:=1) rfl .n)) ?_
 have e5:Ms.check Ms.exV Ms.exF=0:=by exact Ms.ex_check
 rw [e5]
 have e6:Ms.eulerR Ms.exV Ms.exF=2:=by exact Ms.ex_euler
 rw [e6]
 refine r_pv rfl rfl (zb rfl)<|r_pv rfl rfl (zY rfl rfl)<|r_pv rfl rfl (zY rfl rfl)<|r_pv rfl rfl (zd rfl)<|r_pv rfl rfl (zd rfl)<|zg<|zc<|ze<|za<|zfa rfl rfl (.n) ce44 (ztb) (.n) ?_
 rintro ⟨pvC,pfC⟩ -
 dsimp only [List.append_eq,List.nil_append,List.cons_append]
 refine zV rfl rfl (zr zr25 rfl) (fun b7=> ?_)
 refine zv 0 rfl rfl rfl rfl rfl sz25 rfl (.take (.take .nil)) .z<|zg<|zc<|ze<|za<|r_pv rfl rfl (zn Try.underlying25 rfl sz23 rfl rfl)<|r_u rfl rfl (zf 0 ty23 rfl rfl rfl)<|r_pv rfl rfl (zlb (hi:=3) Try.underlying23 sz44 rfl (.s rfl) (.inr ⟨_,rfl⟩) (by first|omega|decide))<|zYb (zwb 1 rfl 3 (by first|omega|decide)) (fun _ _=> ?_)
 refine r_pv rfl rfl (zn Try.underlying25 rfl sz23 rfl rfl)<|zv 0 rfl rfl rfl rfl rfl sz23 rfl (.skip (.take .nil)) .z<|zg<|zc<|ze<|za<|r_u rfl rfl (zh 0 ty25 rfl rfl (.take (.take .nil)))<|zfa rfl rfl (.c rfl .n) ce23 (zUb (pv:=pvC) (nv:=4) (cv:=4) (V:=Ms.exV) (pf:=pfC) (nf:=3) (cf:=4) (F:=(Ms.exF.take 3)) (hnv:=by first|rfl|assumption|decide|(simp [Ms.exV,Ms.exF];done)) (hnf:=by first|rfl|assumption|decide|(simp [Ms.exV,Ms.exF];done))) (.c (j:=1) rfl (.c (j:=0) rfl .n)) ?_
 rintro ⟨p28,c29,bm1⟩ hB
 dsimp only [List.append_eq,List.nil_append,List.cons_append]
 replace hB:Ms.check Ms.exV (Ms.exF.take 3)=0→Ms.BMap (Ms.exF.take 3) bm1:=hB
 have e10:Ms.check Ms.exV (Ms.exF.take 3)=0:=by exact Ms.ex_open
 rw [e10]
 have e11:Ms.bordersR Ms.exV (Ms.exF.take 3) bm1=Ms.exL:=by exact Ms.ex_borders (hB Ms.ex_open)
 rw [e11]
 refine r_pv rfl rfl (zb rfl)<|r_pv rfl rfl (zY rfl rfl)<|r_pv rfl rfl (zY rfl rfl)<|r_pv rfl rfl (zd rfl)<|r_pv rfl rfl (zd rfl)<|zg<|zc<|ze<|zva (OW:=[]) (O:=[boxA b7 25 [.slice pvC 4 4,.slice pfC 3 4],boxA b4 34 [w31.b,w31.l]]) 100000 mixed (.then .ret) (by kernel_rfl)<|d_pv 0 rfl rfl (by kernel_rfl) (by kernel_rfl) rfl rfl (zb rfl)<|d_pv 1 rfl rfl (by kernel_rfl) (by kernel_rfl) rfl rfl (zFa rfl rfl)<|d_pv 2 rfl rfl (by kernel_rfl) (by kernel_rfl) rfl rfl (zb rfl)<|d_pv 3 rfl rfl (by kernel_rfl) (by kernel_rfl) rfl rfl (zb rfl)<|d_pv 4 rfl rfl (by kernel_rfl) (by kernel_rfl) rfl rfl (zFa rfl rfl)<|d_pv 5 rfl rfl (by kernel_rfl) (by kernel_rfl) rfl rfl (zH rfl rfl)<|d_pv 6 rfl rfl (by kernel_rfl) (by kernel_rfl) rfl rfl (zb rfl)<|d_pv 7 rfl rfl (by kernel_rfl) (by kernel_rfl) rfl rfl (zb rfl)<|d_pv 8 rfl rfl (by kernel_rfl) (by kernel_rfl) rfl rfl (zFa rfl rfl)<|d_pv 9 rfl rfl (by kernel_rfl) (by kernel_rfl) rfl rfl (zH rfl rfl)<|d_pv 10 rfl rfl (by kernel_rfl) (by kernel_rfl) rfl rfl (zb rfl)<|d_u 11 rfl rfl (by kernel_rfl) (by kernel_rfl) rfl rfl (zh 1 ty34 rfl rfl (.take (.take .nil)))<|zO 12 (by kernel_rfl) (zL rfl rfl rfl rfl (.c rfl .n) ce45 (zke (z:=(1:Int)) (hz:=by first|rfl|assumption|decide|(simp [Ms.exV,Ms.exF];done))) (.n) ?_)
 rintro w312 -
 dsimp only [List.append_eq,List.nil_append,List.cons_append]
 refine zO 13 (by kernel_rfl) (zza rfl rfl rfl rfl (.c rfl (.c rfl .n)) ce18 (zkd (w1:=w31) (w2:=w312) (x1:=(1:Int)) (x2:=(1:Int))) (.c (j:=7) rfl (.c (j:=0) rfl .n)) ?_)
 rw [show (decide ((1:Int)=(1:Int)))=true from by decide]
 refine d_pv 14 rfl rfl (by kernel_rfl) (by kernel_rfl) rfl rfl (zH rfl rfl)<|d_pv 15 rfl rfl (by kernel_rfl) (by kernel_rfl) rfl rfl (zb rfl)<|d_pv 16 rfl rfl (by kernel_rfl) (by kernel_rfl) rfl rfl (zb rfl)<|d_pv 17 rfl rfl (by kernel_rfl) (by kernel_rfl) rfl rfl (zFa rfl rfl)<|d_pv 18 rfl rfl (by kernel_rfl) (by kernel_rfl) rfl rfl (zH rfl rfl)<|d_pv 19 rfl rfl (by kernel_rfl) (by kernel_rfl) rfl rfl (zb rfl)<|d_pv 20 rfl rfl (by kernel_rfl) (by kernel_rfl) rfl rfl (zb rfl)<|d_pv 21 rfl rfl (by kernel_rfl) (by kernel_rfl) rfl rfl (zJ Try.underlying37 rfl) ?_
 have e13:(((Ms.exL).length:Nat):Int)=1:=by rfl
 rw [e13]
 refine d_pv 22 rfl rfl (by kernel_rfl) (by kernel_rfl) rfl rfl (zFa rfl rfl)<|d_pv 23 rfl rfl (by kernel_rfl) (by kernel_rfl) rfl rfl (zH rfl rfl)<|d_pv 24 rfl rfl (by kernel_rfl) (by kernel_rfl) rfl rfl (zb rfl)<|d_pv 25 rfl rfl (by kernel_rfl) (by kernel_rfl) rfl rfl (zb rfl)<|d_vl 26 rfl rfl (by kernel_rfl) (by kernel_rfl) rfl rfl (zob (x0:=(Ms.exL.getD 0 [])) 1 0 rfl Try.underlying37 sz50 rfl (by first|rfl|assumption|(simp_all;done)|omega) rfl rfl (gD (d:=[]) (by first|omega|decide))) ?_
 rintro ⟨b14,o15,p16,c17⟩ -
 dsimp only [List.append_eq,List.nil_append,List.cons_append]
 refine d_u 27 rfl rfl (by kernel_rfl) (by kernel_rfl) rfl rfl (zw (j:=0) 0 ty50 rfl rfl rfl rfl)<|zO 28 (by kernel_rfl) (zkb rfl rfl rfl rfl (zz (enc:=fun z:Int=>[.int .i64 z]) (ok:=InK .i64) (h1:=fun _=>rfl) (h2:=fun _=>rfl) (k:=3) Try.underlying50 inf3 rfl (by decide) (by decide) (by decide) (.c (x:=1) rfl rfl (fun _ _=>by exact zl.2 (by omega)) (.c (x:=3) rfl rfl (fun _ _=>by exact zl.2 (by omega)) (.c (x:=2) rfl rfl (fun _ _=>by exact zl.2 (by omega)) .n)))) (fun b18 _=> ?_))
 refine zDa 0 rfl .z<|zO 29 (by kernel_rfl) (zza rfl rfl rfl rfl (.c rfl (.c rfl .n)) ce28 (zHd (p1:=p16) (n1:=(Ms.exL.getD 0 []).length) (c1:=c17) (l1:=(Ms.exL.getD 0 [])) (p2:=some ⟨b18,0,none⟩) (n2:=3) (c2:=3) (l2:=[1,3,2]) (hn1:=by first|rfl|assumption|decide|(simp [Ms.exV,Ms.exF];done)) (hn2:=by first|rfl|assumption|decide|(simp [Ms.exV,Ms.exF];done))) (.c (j:=2) rfl (.c (j:=0) rfl .n)) ?_)
 rw [show (decide ((Ms.exL.getD 0 [])=([1,3,2])))=true from by decide]
 refine d_pv 30 rfl rfl (by kernel_rfl) (by kernel_rfl) rfl rfl (zH rfl rfl)<|d_pv 31 rfl rfl (by kernel_rfl) (by kernel_rfl) rfl rfl (zb rfl)<|d_u 32 rfl rfl (by kernel_rfl) (by kernel_rfl) rfl rfl (zh 1 ty25 rfl rfl (.take (.take .nil)))<|zO 33 (by kernel_rfl) (zza rfl rfl rfl rfl (.c rfl .n) ce14 (znb (pv:=pvC) (nv:=4) (cv:=4) (V:=Ms.exV) (pf:=pfC) (nf:=3) (cf:=4) (F:=(Ms.exF.take 3)) (hnv:=by first|rfl|assumption|decide|(simp [Ms.exV,Ms.exF];done)) (hnf:=by first|rfl|assumption|decide|(simp [Ms.exV,Ms.exF];done))) (.c (j:=6) rfl (.c (j:=5) rfl .n)) ?_)
 have e19:Ms.check Ms.exV (Ms.exF.take 3)=0:=by exact Ms.ex_open
 rw [e19]
 refine d_pv 34 rfl rfl (by kernel_rfl) (by kernel_rfl) rfl rfl (zFa rfl rfl)<|d_pv 35 rfl rfl (by kernel_rfl) (by kernel_rfl) rfl rfl (zH rfl rfl)<|d_pv 36 rfl rfl (by kernel_rfl) (by kernel_rfl) rfl rfl (zd rfl)<|zwa (by kernel_rfl)<|zc<|zK ?_
 exact zB Try.results12 () trivial (zx rfl) rfl (ho:=(.n:PickO _ _ _)) (.n:SelR _ _ _)
end Go.Proofs.Ytalfgjpbbongcaa.Sp
namespace Go.Proofs.Ytalfgjpbbongcaa.Ms
theorem filt_two {α:Type} {p:α→Bool}:∀l:List α,(l.filter p).length+(l.filter (fun a=> !p a)).length=l.length
  |[]=>rfl
  |a :: l=>by
    have:=filt_two (p:=p) l
    simp only [List.filter_cons]
    cases p a <;> simp <;> omega
theorem nodup_filter {α:Type} {p:α→Bool} {l:List α} (h:l.Nodup):(l.filter p).Nodup:=List.Pairwise.filter p h
theorem only_len {α:Type} [DecidableEq α] {A B:List α} (hA:A.Nodup) (hB:B.Nodup) (h:A.length=B.length):(A.filter (fun a=> !decide (a∈B))).length=(B.filter (fun a=> !decide (a∈A))).length:=by
  have e:=same_len (K:=A.filter (fun a=>decide (a∈B))) (l:=B.filter (fun a=>decide (a∈A))) (nodup_filter hA) (nodup_filter hB) (fun a=>by simp only [List.mem_filter,decide_eq_true_eq];exact And.comm)
  have p:=filt_two (p:=fun a=>decide (a∈B)) A
  have q:=filt_two (p:=fun a=>decide (a∈A)) B
  omega
theorem nodup_map_on {α β:Type} {f:α→β}:∀{l:List α},l.Nodup→(∀a∈l,∀b∈l,f a=f b→a=b)→(l.map f).Nodup
  |[],_,_=>by simp
  |a :: l,hn,hi=>by
    have hn':=List.nodup_cons.1 hn
    rw [List.map_cons,List.nodup_cons]
    refine ⟨fun hm=> ?_,nodup_map_on hn'.2 (fun x hx y hy=>hi x (List.mem_cons_of_mem _ hx) y (List.mem_cons_of_mem _ hy))⟩
    obtain ⟨b,hb,e⟩:=List.mem_map.1 hm
    have:=hi b (List.mem_cons_of_mem _ hb) a (by simp) e
    exact hn'.1 (this ▸ hb)
theorem two_of {α:Type} {l:List α} (hn:l.Nodup) (h:2≤l.length):∃a∈l,∃b∈l,a≠b:=by
  match l,hn,h with
  |a :: b :: l,hn,_=>
    refine ⟨a,by simp,b,by simp,fun e=> ?_⟩
    have:=(List.nodup_cons.1 hn).1
    exact this (by rw [e];simp)
theorem len_two {α:Type} {l:List α} {a b:α} (ha:a∈l) (hb:b∈l) (h:a≠b):2≤l.length:=by
  match l,ha,hb with
  |[x],ha,hb=>exact absurd ((List.mem_singleton.1 ha).trans (List.mem_singleton.1 hb).symm) h
  |x :: y :: l,_,_=>simp
def outs (F:List V3) (v:Int):List Int:=(at_ F v).map (fun i=>nx v (F.getD i.toNat (0,0,0)))
def ins (F:List V3) (v:Int):List Int:=(at_ F v).map (fun i=>pv v (F.getD i.toNat (0,0,0)))
section
variable {F : List V3} (hd : ∀ f ∈ F, deg f = false)
include hd
theorem outs_mem {v w:Int}:w∈outs F v↔(v,w)∈all F:=by
  have a:=at_all hd (v:=v)
  constructor
  · intro h
    obtain ⟨i,hi,e⟩:=List.mem_map.1 h
    have b:=a.1 i hi
    rw [← e];exact face_edge (j:=i.toNat) (by omega) (nx_edge b.2.2).1
  · intro h
    obtain ⟨j,hj,he⟩:=edge_face h
    obtain ⟨e1,e2,_⟩:=edge_nx (hd _ (getD_mem _ hj)) he
    exact List.mem_map.2 ⟨(j:Int),a.2.2 j hj e1,by simpa using e2⟩
theorem ins_mem {v w:Int}:w∈ins F v↔(w,v)∈all F:=by
  have a:=at_all hd (v:=v)
  constructor
  · intro h
    obtain ⟨i,hi,e⟩:=List.mem_map.1 h
    have b:=a.1 i hi
    rw [← e];exact face_edge (j:=i.toNat) (by omega) (nx_edge b.2.2).2
  · intro h
    obtain ⟨j,hj,he⟩:=edge_face h
    obtain ⟨_,_,e3,e4⟩:=edge_nx (hd _ (getD_mem _ hj)) he
    exact List.mem_map.2 ⟨(j:Int),a.2.2 j hj e3,by simpa using e4⟩
theorem in_mem {v w:Int}:v∈(ins F w).filter (fun a=> !decide (a∈outs F w))↔isB F (v,w):=by
  rw [List.mem_filter,ins_mem hd,isB];simp [outs_mem hd]
theorem out_mem {v w:Int}:v∈(outs F w).filter (fun a=> !decide (a∈ins F w))↔isB F (w,v):=by
  rw [List.mem_filter,outs_mem hd,isB];simp [ins_mem hd]
variable (hn : (all F).Nodup)
include hn
theorem outs_nodup (v:Int):(outs F v).Nodup:=nodup_map_on (at_all hd (v:=v)).2.1 (fun _ ha _ hb e=>nx_inj hd hn ha hb e)
theorem ins_nodup (v:Int):(ins F v).Nodup:=nodup_map_on (at_all hd (v:=v)).2.1 (fun _ ha _ hb e=>zEd hd hn ha hb e)
theorem ins_outs (v:Int):((ins F v).filter (fun a=> !decide (a∈outs F v))).length=((outs F v).filter (fun a=> !decide (a∈ins F v))).length:=
  only_len (ins_nodup hd hn v) (outs_nodup hd hn v) (by simp [ins,outs])
theorem border_next {v w:Int} (h:isB F (v,w)):∃u,isB F (w,u):=by
  have h1:=List.length_pos_of_mem ((in_mem hd).2 h)
  rw [ins_outs hd hn w] at h1
  obtain ⟨u,hu⟩:=List.exists_mem_of_length_pos h1
  exact ⟨u,(out_mem hd).1 hu⟩
theorem border_prev {w u:Int} (h:isB F (w,u)):∃v,isB F (v,w):=by
  have h1:=List.length_pos_of_mem ((out_mem hd).2 h)
  rw [← ins_outs hd hn w] at h1
  obtain ⟨v,hv⟩:=List.exists_mem_of_length_pos h1
  exact ⟨v,(in_mem hd).1 hv⟩
theorem border_from (hu:∀v w w',isB F (v,w)→isB F (v,w')→w=w') {v v' w:Int} (h:isB F (v,w)) (h':isB F (v',w)):v=v':=by
  refine Decidable.byContradiction fun e=> ?_
  have h1:=len_two ((in_mem hd).2 h) ((in_mem hd).2 h') e
  rw [ins_outs hd hn w] at h1
  obtain ⟨a,ha,b,hb,e2⟩:=two_of (nodup_filter (outs_nodup hd hn w)) h1
  exact e2 (hu _ _ _ ((out_mem hd).1 ha) ((out_mem hd).1 hb))
end
structure Nxt (nx:Int→Option Int) (n:Nat):Prop where
  rng:∀a b,nx a=some b→(0≤a∧a<(n:Int))∧(0≤b∧b<(n:Int))
  go:∀a b,nx a=some b→∃c,nx b=some c
  back:∀b c,nx b=some c→∃a,nx a=some b
  inj:∀a a' b,nx a=some b→nx a'=some b→a=a'
structure Cyc (nx:Int→Option Int) (l:List Int):Prop where
  ne:0<l.length
  nodup:l.Nodup
  next:∀i,i<l.length→nx (l.getD i 0)=some (l.getD ((i+1)%l.length) 0)
theorem gK {l:List Int} {x:Int} {k:Nat} (h:k<l.length):(l++[x]).getD k 0=l.getD k 0:=by
  rw [List.getD_eq_getElem?_getD,List.getElem?_append_left h,List.getD_eq_getElem?_getD]
theorem gL {l:List Int} {x:Int}:(l++[x]).getD l.length 0=x:=by
  rw [List.getD_eq_getElem?_getD,List.getElem?_append_right (Nat.le_refl _)];simp
theorem nodup_getD {l:List Int} (hn:l.Nodup) {i j:Nat} (hi:i<l.length) (hj:j<l.length) (h:l.getD i 0=l.getD j 0):i=j:=by
  rw [List.getD_eq_getElem?_getD,List.getD_eq_getElem?_getD,List.getElem?_eq_getElem hi,List.getElem?_eq_getElem hj] at h
  exact (List.getElem_inj hn).1 h
theorem walk_cyc {nx:Int→Option Int} {n:Nat} (h:Nxt nx n) {K:List Int} (hcl:∀a b,nx a=some b→b∈K→a∈K) {v:Int} (hvK:v ∉ K):
    ∀(m:Nat) (W:List Int) (a:Int),n - W.length≤m→WInv nx n K v W a→(∀i,i<W.length→nx ((W++[a]).getD i 0)=some ((W++[a]).getD (i+1) 0))→(W++[a]).getD 0 0=v→(nx a).isSome=true→
      Cyc nx (walk nx n K v)∧(∀x∈walk nx n K v,x ∉ K)∧v∈walk nx n K v:=by
  intro m
  induction m with
  |zero=>
    intro W a hm hW hc h0 hs
    refine walk_cyc_end hW hc h0 ?_
    refine Decidable.byContradiction fun ha=> ?_
    obtain ⟨b,hb⟩:=Option.isSome_iff_exists.1 hs
    have hl:=(hW.step ha (by rw [hb];exact (h.rng a b hb).2)).len
    simp only [List.length_append,List.length_cons,List.length_nil] at hl
    omega
  |succ m ih=>
    intro W a hm hW hc h0 hs
    by_cases ha:a∈K++W
    · exact walk_cyc_end hW hc h0 ha
    · obtain ⟨b, hb⟩ := Option.isSome_iff_exists.1 hs
      obtain ⟨c,hc'⟩:=h.go a b hb
      have hst:=hW.step ha (by rw [hb];exact (h.rng a b hb).2)
      rw [hb] at hst
      refine ih (W++[a]) b ?_ hst ?_ ?_ (by rw [hc'];rfl)
      · have := hst.len
        simp only [List.length_append,List.length_cons,List.length_nil] at this ⊢;omega
      · intro i hi
        simp only [List.length_append,List.length_cons,List.length_nil] at hi
        by_cases e:i=W.length
        · subst e
          rw [gK (by simp),gL,hb,show W.length+1=(W++[a]).length by simp,gL]
        · rw [gK (l := W ++ [a]) (by simp; omega), gK (l := W ++ [a]) (by simp; omega)]
          exact hc i (by omega)
      · rw [gK (by simp)];exact h0
where
  walk_cyc_end {W:List Int} {a:Int} (hW:WInv nx n K v W a) (hc:∀i,i<W.length→nx ((W++[a]).getD i 0)=some ((W++[a]).getD (i+1) 0)) (h0:(W++[a]).getD 0 0=v) (ha:a∈K++W):
      Cyc nx (walk nx n K v)∧(∀x∈walk nx n K v,x ∉ K)∧v∈walk nx n K v:=by
    rw [← hW.fin ha]
    have hdis:∀x∈W,x ∉ K:=fun x hx hk=>(List.nodup_append.1 hW.nodup).2.2 x hk x hx rfl
    have hnd:=(List.nodup_append.1 hW.nodup).2.1
    have hpos:0<W.length:=by
      refine Nat.pos_of_ne_zero fun e=> ?_
      have e':=List.length_eq_zero_iff.1 e
      subst e'
      simp at h0 ha
      exact hvK (h0 ▸ ha)
    have hlast:=hc (W.length - 1) (by omega)
    rw [show W.length - 1+1=W.length by omega,gL,gK (by omega)] at hlast
    have haK:a ∉ K:=fun hk=>hdis _ (getD_mem 0 (i:=W.length - 1) (by omega)) (hcl _ _ hlast hk)
    have haW:a∈W:=(List.mem_append.1 ha).resolve_left haK
    obtain ⟨j,hj,ej⟩:=mem_getD 0 haW
    have hj0:j=0:=by
      refine Decidable.byContradiction fun e=> ?_
      have k:=hc (j - 1) (by omega)
      rw [show j - 1+1=j by omega,gK (by omega),gK (by omega),ej] at k
      have:=nodup_getD hnd (by omega) (by omega) (h.inj _ _ _ k hlast)
      omega
    subst hj0
    refine ⟨⟨hpos,hnd,fun i hi=> ?_⟩,hdis,?_⟩
    · have k := hc i hi
      rw [gK hi] at k
      by_cases e:i+1=W.length
      · rw [e, gL] at k
        rw [k,e,Nat.mod_self,ej]
      · rw [gK (by omega)] at k
        rw [k,Nat.mod_eq_of_lt (by omega)]
    · rw [gK hj] at h0;rw [← h0];exact getD_mem 0 hj
end Go.Proofs.Ytalfgjpbbongcaa.Ms
namespace Go.Proofs.Ytalfgjpbbongcaa.Ms
theorem Cyc.mem {nx:Int→Option Int} {l:List Int} (c:Cyc nx l) (inj:∀a a' b,nx a=some b→nx a'=some b→a=a') {a b:Int} (h:nx a=some b):a∈l↔b∈l:=by
  constructor
  · intro ha
    obtain ⟨i,hi,e⟩:=mem_getD 0 ha
    have k:=c.next i hi
    rw [e,h] at k
    rw [Option.some.inj k];exact getD_mem 0 (Nat.mod_lt _ c.ne)
  · intro hb
    obtain ⟨j,hj,e⟩:=mem_getD 0 hb
    by_cases e0:j=0
    · subst e0
      have k:=c.next (l.length - 1) (by have:=c.ne;omega)
      rw [show l.length - 1+1=l.length by have:=c.ne;omega,Nat.mod_self,e] at k
      rw [inj _ _ _ h k];exact getD_mem 0 (by have:=c.ne;omega)
    · have k := c.next (j - 1) (by omega)
      rw [show j - 1+1=j by omega,Nat.mod_eq_of_lt hj,e] at k
      rw [inj _ _ _ h k];exact getD_mem 0 (by omega)
structure LP (nx:Int→Option Int) (n v:Nat) (s:List Int×List (List Int)):Prop where
  rng:InR n s.1
  nodup:s.1.Nodup
  flat:s.1=s.2.flatten
  cyc:∀l∈s.2,Cyc nx l
  clo:∀a b,nx a=some b→(a∈s.1↔b∈s.1)
  seen:∀a:Nat,a<v→(nx (a:Int)).isSome=true→(a:Int)∈s.1
  dom:∀a∈s.1,(nx a).isSome=true
theorem loops_lp {nx:Int→Option Int} {n:Nat} (h:Nxt nx n):∀v,v≤n→LP nx n v (loopsF nx n v)
  |0,_=>⟨fun x hx=>(by cases hx),List.nodup_nil,rfl,fun l hl=>(by cases hl),fun a b _=>(by simp [loopsF]),fun a ha=>(by omega),fun a ha=>(by cases ha)⟩
  |v+1,hv=>by
    have ih:=loops_lp h v (by omega)
    rw [loopsF]
    generalize loopsF nx n v=s at ih ⊢
    unfold lstep
    by_cases hc:(nx (v:Int)).isSome=false∨(v:Int)∈s.1
    · rw [if_pos hc]
      refine ⟨ih.rng,ih.nodup,ih.flat,ih.cyc,ih.clo,fun a ha hs=> ?_,ih.dom⟩
      by_cases e:a=v
      · subst e;exact hc.resolve_left (by rw [hs];simp)
      · exact ih.seen a (by omega) hs
    · rw [if_neg hc]
      have hc1:(nx (v:Int)).isSome=true:=by cases e:(nx (v:Int)).isSome with|true=>rfl|false=>exact absurd (.inl e) hc
      have hc2:(v:Int) ∉ s.1:=fun k=>hc (.inr k)
      obtain ⟨w1,w2,w3⟩:=walk_cyc h (K:=s.1) (fun a b e k=>(ih.clo a b e).2 k) hc2 n [] (v:Int) (by simp) (WInv.start ih.rng ih.nodup ⟨by omega,by omega⟩) (fun i hi=>by simp at hi) (by simp) hc1
      generalize walk nx n s.1 (v:Int)=l at w1 w2 w3
      have hdom:∀a∈l,(nx a).isSome=true:=fun a ha=>by
        obtain ⟨i,hi,e⟩:=mem_getD 0 ha
        have k:=w1.next i hi
        rw [e] at k;rw [k];rfl
      refine ⟨fun x hx=> ?_,?_,?_,?_,?_,?_,?_⟩
      · rcases List.mem_append.1 hx with hx | hx
        · exact ih.rng x hx
        · obtain ⟨b, hb⟩ := Option.isSome_iff_exists.1 (hdom x hx)
          exact (h.rng _ _ hb).1
      · exact List.nodup_append.2 ⟨ih.nodup,w1.nodup,fun a ha b hb e=>w2 b hb (e ▸ ha)⟩
      · simp [ih.flat]
      · intro l' hl'
        rcases List.mem_append.1 hl' with k|k
        · exact ih.cyc l' k
        · rw [List.mem_singleton.1 k];exact w1
      · intro a b e
        simp only [List.mem_append]
        rw [ih.clo a b e,w1.mem h.inj e]
      · intro a ha hs
        by_cases e:a=v
        · subst e;exact List.mem_append.2 (.inr w3)
        · exact List.mem_append.2 (.inl (ih.seen a (by omega) hs))
      · intro a ha
        rcases List.mem_append.1 ha with k|k
        · exact ih.dom a k
        · exact hdom a k
theorem loops_spec {nx:Int→Option Int} {n:Nat} (h:Nxt nx n):(loops nx n).flatten.Nodup∧(∀l∈loops nx n,Cyc nx l)∧∀a b,nx a=some b→a∈(loops nx n).flatten:=by
  have p:=loops_lp h n (Nat.le_refl _)
  refine ⟨by have:=p.nodup;rwa [p.flat] at this,p.cyc,fun a b e=> ?_⟩
  have r:=(h.rng a b e).1
  have:=p.seen a.toNat (by omega) (by rw [show (a.toNat:Int)=a by omega,e];rfl)
  rw [show (a.toNat:Int)=a by omega,p.flat] at this
  exact this
def fanF (l:List Int) (c:Int):List V3:=(List.range l.length).map (fun i=>(l.getD ((i+1)%l.length) 0,l.getD i 0,c))
theorem fan_len (l:List Int) (c:Int):(fanF l c).length=l.length:=by simp [fanF]
theorem fan_get {l:List Int} {c:Int} {i:Nat} (h:i<l.length):(fanF l c).getD i (0,0,0)=(l.getD ((i+1)%l.length) 0,l.getD i 0,c):=by
  rw [List.getD_eq_getElem?_getD,fanF,List.getElem?_map,List.getElem?_range h];rfl
theorem fan_mem {l:List Int} {c:Int} {f:V3} (h:f∈fanF l c):∃i,i<l.length∧f=(l.getD ((i+1)%l.length) 0,l.getD i 0,c):=by
  obtain ⟨i,hi,e⟩:=List.mem_map.1 h
  exact ⟨i,List.mem_range.1 hi,e.symm⟩
theorem fan_edge {l:List Int} {c:Int} {e:Int×Int}:e∈all (fanF l c)↔∃i,i<l.length∧(e=(l.getD ((i+1)%l.length) 0,l.getD i 0)∨e=(l.getD i 0,c)∨e=(c,l.getD ((i+1)%l.length) 0)):=by
  unfold all
  rw [List.mem_flatMap]
  constructor
  · rintro ⟨f, hf, he⟩
    obtain ⟨i,hi,rfl⟩:=fan_mem hf
    exact ⟨i,hi,by simpa [edges3] using he⟩
  · rintro ⟨i, hi, he⟩
    exact ⟨_,List.mem_map.2 ⟨i,List.mem_range.2 hi,rfl⟩,by simpa [edges3] using he⟩
structure Surf (F:List V3) (n:Nat):Prop where
  rng:∀f∈F,(0≤f.1∧f.1<(n:Int))∧(0≤f.2.1∧f.2.1<(n:Int))∧(0≤f.2.2∧f.2.2<(n:Int))
  deg:∀f∈F,deg f=false
  nodup:(all F).Nodup
  star:∀v:Int,0≤v→v<(n:Int)→∀i∈at_ F v,∀j∈at_ F v,Conn (pairs F v (at_ F v)) i j
  uniq:∀v w w',isB F (v,w)→isB F (v,w')→w=w'
theorem Surf.edge {F:List V3} {n:Nat} (h:Surf F n) {e:Int×Int} (he:e∈all F):((0≤e.1∧e.1<(n:Int))∧(0≤e.2∧e.2<(n:Int)))∧e.1≠e.2:=by
  obtain ⟨f,hf,hm⟩:=List.mem_flatMap.1 he
  have r:=h.rng f hf
  have d:=deg_iff.1 (h.deg f hf)
  simp only [edges3,List.mem_cons,List.not_mem_nil,or_false] at hm
  rcases hm with rfl|rfl|rfl
  · exact ⟨⟨r.1,r.2.1⟩,d.1⟩
  · exact ⟨⟨r.2.1,r.2.2⟩,d.2.1⟩
  · exact ⟨⟨r.2.2,r.1⟩,d.2.2⟩
structure Rim (F:List V3) (l:List Int):Prop where
  ne:0<l.length
  nodup:l.Nodup
  bd:∀i,i<l.length→isB F (l.getD i 0,l.getD ((i+1)%l.length) 0)
theorem Rim.pred {F:List V3} {l:List Int} (r:Rim F l) {i:Nat} (hi:i<l.length):∃j,j<l.length∧l.getD ((j+1)%l.length) 0=l.getD i 0:=by
  by_cases e:i=0
  · exact ⟨l.length - 1,by have:=r.ne;omega,by rw [show l.length - 1+1=l.length by have:=r.ne;omega,Nat.mod_self,e]⟩
  · exact ⟨i - 1,by omega,by rw [show i - 1+1=i by omega,Nat.mod_eq_of_lt hi]⟩
theorem mod_inj {n i j:Nat} (hi:i<n) (hj:j<n) (h:(i+1)%n=(j+1)%n):i=j:=by
  by_cases a:i+1=n <;> by_cases b:j+1=n
  · omega
  · rw [a,Nat.mod_self,Nat.mod_eq_of_lt (by omega)] at h;omega
  · rw [b,Nat.mod_self,Nat.mod_eq_of_lt (by omega)] at h;omega
  · rw [Nat.mod_eq_of_lt (by omega),Nat.mod_eq_of_lt (by omega)] at h;omega
section
variable {F : List V3} {n : Nat} (h : Surf F n) {l : List Int} (r : Rim F l)
include h r
theorem rim_rng {i:Nat} (hi:i<l.length):((0≤l.getD i 0∧l.getD i 0<(n:Int))∧(0≤l.getD ((i+1)%l.length) 0∧l.getD ((i+1)%l.length) 0<(n:Int)))∧l.getD i 0≠l.getD ((i+1)%l.length) 0:=
  h.edge (r.bd i hi).1
theorem close_rng:∀f∈F++fanF l n,((0≤f.1∧f.1<((n+1:Nat):Int))∧(0≤f.2.1∧f.2.1<((n+1:Nat):Int))∧(0≤f.2.2∧f.2.2<((n+1:Nat):Int)))∧deg f=false:=fun f hf=>by
  rcases List.mem_append.1 hf with hf|hf
  · have := h.rng f hf
    exact ⟨by omega,h.deg f hf⟩
  · obtain ⟨i, hi, rfl⟩ := fan_mem hf
    have:=rim_rng h r hi
    refine ⟨by simp only;omega,deg_iff.2 ?_⟩
    simp only
    exact ⟨fun e=>this.2 e.symm,by omega,by omega⟩
theorem fan_nodup:(all (fanF l (n:Int))).Nodup:=by
  have hm:=fun i (hi:i<l.length)=>rim_rng h r hi
  unfold all fanF
  rw [List.flatMap_map]
  refine List.pairwise_flatMap.2 ⟨fun i hi=> ?_,(List.nodup_range (n:=l.length)).imp_of_mem fun {i j} hi hj hij=> ?_⟩
  · have := hm i (List.mem_range.1 hi)
    simp only [edges3,List.pairwise_cons,List.mem_cons,List.not_mem_nil,or_false,ne_eq]
    refine ⟨fun e he=> ?_,fun e he=> ?_,fun e he=>he.elim,List.Pairwise.nil⟩
    · rcases he with rfl|rfl <;> simp only [Prod.mk.injEq] <;> omega
    · rcases he with rfl;simp only [Prod.mk.injEq];omega
  · have hi' := List.mem_range.1 hi
    have hj':=List.mem_range.1 hj
    have a:=hm i hi'
    have b:=hm j hj'
    have n1:l.getD i 0≠l.getD j 0:=fun e=>hij (nodup_getD r.nodup hi' hj' e)
    have n2:l.getD ((i+1)%l.length) 0≠l.getD ((j+1)%l.length) 0:=fun e=>hij (mod_inj hi' hj' (nodup_getD r.nodup (Nat.mod_lt _ r.ne) (Nat.mod_lt _ r.ne) e))
    intro x hx y hy
    simp only [edges3,List.mem_cons,List.not_mem_nil,or_false] at hx hy
    rcases hx with rfl|rfl|rfl <;> rcases hy with rfl|rfl|rfl <;> simp only [ne_eq,Prod.mk.injEq] <;> omega
theorem close_nodup:(all (F++fanF l (n:Int))).Nodup:=by
  rw [show all (F++fanF l (n:Int))=all F++all (fanF l (n:Int)) by simp [all]]
  refine List.nodup_append.2 ⟨h.nodup,fan_nodup h r,fun a ha b hb e=> ?_⟩
  subst e
  obtain ⟨i,hi,e⟩:=fan_edge.1 hb
  have k:=h.edge ha
  rcases e with rfl|rfl|rfl
  · exact (r.bd i hi).2 ha
  · have:=k.1.2.2;simp at this
  · have:=k.1.1.2;simp at this
theorem close_isB (e:Int×Int):isB (F++fanF l (n:Int)) e↔isB F e∧e.1 ∉ l:=by
  have ha:∀e,e∈all (F++fanF l (n:Int))↔e∈all F∨e∈all (fanF l (n:Int)):=fun e=>by simp [all]
  obtain ⟨a,b⟩:=e
  constructor
  · rintro ⟨h1, h2⟩
    simp only [ha,not_or] at h1 h2
    rcases h1 with h1|h1
    · refine ⟨⟨h1, h2.1⟩, fun hl => ?_⟩
      obtain ⟨i,hi,e⟩:=mem_getD 0 hl
      have k:=r.bd i hi
      simp only at e
      rw [e] at k
      have eb:=h.uniq _ _ _ k ⟨h1,h2.1⟩
      exact h2.2 (fan_edge.2 ⟨i,hi,.inl (by rw [e,eb])⟩)
    · exfalso
      obtain ⟨i,hi,e⟩:=fan_edge.1 h1
      simp only [Prod.mk.injEq] at e
      rcases e with ⟨rfl,rfl⟩|⟨rfl,rfl⟩|⟨rfl,rfl⟩
      · exact h2.1 (r.bd i hi).1
      · obtain ⟨j, hj, ej⟩ := r.pred hi
        exact h2.2 (fan_edge.2 ⟨j,hj,.inr (.inr (by rw [ej]))⟩)
      · exact h2.2 (fan_edge.2 ⟨(i+1)%l.length,Nat.mod_lt _ r.ne,.inr (.inl rfl)⟩)
  · rintro ⟨⟨h1, h2⟩, h3⟩
    refine ⟨(ha _).2 (.inl h1),fun k=> ?_⟩
    rcases (ha _).1 k with k|k
    · exact h2 k
    · obtain ⟨i, hi, e⟩ := fan_edge.1 k
      have q:=h.edge h1
      simp only [Prod.mk.injEq] at e q
      rcases e with ⟨rfl,rfl⟩|⟨rfl,rfl⟩|⟨rfl,rfl⟩
      · exact h3 (getD_mem 0 hi)
      · omega
      · omega
end
end Go.Proofs.Ytalfgjpbbongcaa.Ms
namespace Go.Proofs.Ytalfgjpbbongcaa.Ms
theorem app_old {F G:List V3} {k:Nat} (h:k<F.length):(F++G).getD k (0,0,0)=F.getD k (0,0,0):=by
  rw [List.getD_eq_getElem?_getD,List.getElem?_append_left h,List.getD_eq_getElem?_getD]
theorem app_new {F G:List V3} {k:Nat} (h:F.length≤k):(F++G).getD k (0,0,0)=G.getD (k - F.length) (0,0,0):=by
  rw [List.getD_eq_getElem?_getD,List.getElem?_append_right h,List.getD_eq_getElem?_getD]
section
variable {F : List V3} {n : Nat} (h : Surf F n) {l : List Int} (r : Rim F l)
include h r
theorem close_star (v:Int) (h0:0≤v) (hv:v<((n+1:Nat):Int)):∀i∈at_ (F++fanF l (n:Int)) v,∀j∈at_ (F++fanF l (n:Int)) v,Conn (pairs (F++fanF l (n:Int)) v (at_ (F++fanF l (n:Int)) v)) i j:=by
  have hd1:∀f∈F++fanF l (n:Int),deg f=false:=fun f hf=>(close_rng h r f hf).2
  have a1:=at_all hd1 (v:=v)
  have a0:=at_all h.deg (v:=v)
  have hlen:(F++fanF l (n:Int)).length=F.length+l.length:=by rw [List.length_append,fan_len]
  by_cases hvn:v<(n:Int)
  · have hold:∀i∈at_ F v,i∈at_ (F++fanF l (n:Int)) v:=fun i hi=>by
      have q:=a0.1 i hi
      have:=a1.2.2 i.toNat (by omega) (by rw [app_old (by omega)];exact q.2.2)
      rwa [show (i.toNat:Int)=i by omega] at this
    have hmono:∀x∈pairs F v (at_ F v),x∈pairs (F++fanF l (n:Int)) v (at_ (F++fanF l (n:Int)) v):=fun ⟨i,w⟩ hx=>by
      have q:=mem_pairs.1 hx
      have:=a0.1 i q.1
      exact mem_pairs.2 ⟨hold i q.1,by rw [app_old (by omega)];exact q.2.1,q.2.2⟩
    have key:∀i∈at_ (F++fanF l (n:Int)) v,∃j∈at_ F v,Conn (pairs (F++fanF l (n:Int)) v (at_ (F++fanF l (n:Int)) v)) i j:=fun i hi=>by
      have q:=a1.1 i hi
      by_cases hi2:i.toNat<F.length
      · rw [app_old hi2] at q
        have:=a0.2.2 i.toNat hi2 q.2.2
        rw [show (i.toNat:Int)=i by omega] at this
        exact ⟨i,this,.refl _⟩
      · have hk : i.toNat - F.length < l.length := by omega
        have hg:(F++fanF l (n:Int)).getD i.toNat (0,0,0)=(l.getD ((i.toNat - F.length+1)%l.length) 0,l.getD (i.toNat - F.length) 0,(n:Int)):=by rw [app_new (by omega),fan_get hk]
        generalize i.toNat - F.length=k at hk hg
        have rr:=rim_rng h r hk
        obtain ⟨j,hj,he⟩:=edge_face (r.bd k hk).1
        obtain ⟨e1,_,e3,_⟩:=edge_nx (h.deg _ (getD_mem _ hj)) he
        have hv2:v=l.getD k 0∨v=l.getD ((k+1)%l.length) 0:=by
          have q2:=q.2.2
          rw [hg] at q2
          simp only [hasV,decide_eq_true_eq] at q2
          rcases q2 with e|e|e
          · exact .inr e.symm
          · exact .inl e.symm
          · omega
        have hu:∃u,u≠v∧hasV ((F++fanF l (n:Int)).getD i.toNat (0,0,0)) u=true∧hasV (F.getD j (0,0,0)) u=true∧hasV (F.getD j (0,0,0)) v=true:=by
          rw [hg]
          rcases hv2 with e|e
          · exact ⟨l.getD ((k+1)%l.length) 0,by rw [e];exact fun x=>rr.2 x.symm,by simp [hasV],e3,by rw [e];exact e1⟩
          · exact ⟨l.getD k 0,by rw [e];exact rr.2,by simp [hasV],e1,by rw [e];exact e3⟩
        obtain ⟨u,u1,u2,u3,u4⟩:=hu
        have hj0:=a0.2.2 j hj u4
        exact ⟨j,hj0,.step (.refl _) (mem_pairs.2 ⟨hi,u2,u1⟩) (mem_pairs.2 ⟨hold _ hj0,by rw [Int.toNat_natCast,app_old hj];exact u3,u1⟩)⟩
    intro i hi j hj
    obtain ⟨i',hi',ci⟩:=key i hi
    obtain ⟨j',hj',cj⟩:=key j hj
    exact (ci.trans ((h.star v h0 hvn i' hi' j' hj').mono hmono)).trans cj.symm
  · have hv' : v = (n : Int) := by omega
    subst hv'
    have hin:∀k,k<l.length→((F.length+k:Nat):Int)∈at_ (F++fanF l (n:Int)) (n:Int):=fun k hk=>a1.2.2 (F.length+k) (by omega) (by
      rw [app_new (by omega),show F.length+k - F.length=k by omega,fan_get hk];simp [hasV])
    have hchain:∀k,k<l.length→Conn (pairs (F++fanF l (n:Int)) (n:Int) (at_ (F++fanF l (n:Int)) (n:Int))) ((F.length+0:Nat):Int) ((F.length+k:Nat):Int):=by
      intro k
      induction k with
      |zero=>intro _;exact .refl _
      |succ k ih=>
        intro hk
        have rr:=rim_rng h r hk
        refine .step (w:=l.getD (k+1) 0) (ih (by omega)) (mem_pairs.2 ⟨hin k (by omega),?_,by omega⟩) (mem_pairs.2 ⟨hin (k+1) hk,?_,by omega⟩)
        · rw [Int.toNat_natCast,app_new (by omega),show F.length+k - F.length=k by omega,fan_get (by omega),Nat.mod_eq_of_lt hk];simp [hasV]
        · rw [Int.toNat_natCast,app_new (by omega),show F.length+(k+1) - F.length=k+1 by omega,fan_get hk];simp [hasV]
    have hall:∀i∈at_ (F++fanF l (n:Int)) (n:Int),Conn (pairs (F++fanF l (n:Int)) (n:Int) (at_ (F++fanF l (n:Int)) (n:Int))) ((F.length+0:Nat):Int) i:=fun i hi=>by
      have q:=a1.1 i hi
      have hge:F.length≤i.toNat:=by
        refine Decidable.byContradiction fun hlt=> ?_
        have q2:=q.2.2
        rw [app_old (by omega)] at q2
        have rg:=h.rng _ (getD_mem (0,0,0) (show i.toNat<F.length by omega))
        simp only [hasV,decide_eq_true_eq] at q2
        omega
      have:=hchain (i.toNat - F.length) (by omega)
      rwa [show ((F.length+(i.toNat - F.length):Nat):Int)=i by omega] at this
    exact fun i hi j hj=>(hall i hi).symm.trans (hall j hj)
theorem close_surf:Surf (F++fanF l (n:Int)) (n+1):=
  ⟨fun f hf=>(close_rng h r f hf).1,fun f hf=>(close_rng h r f hf).2,close_nodup h r,close_star h r,fun v w w' h1 h2=>h.uniq v w w' ((close_isB h r _).1 h1).1 ((close_isB h r _).1 h2).1⟩
end
def closeF (F:List V3) (n:Nat):List (List Int)→List V3
  |[]=>F
  |l :: L=>closeF (F++fanF l (n:Int)) (n+1) L
theorem close_all:∀(L:List (List Int)) (F:List V3) (n:Nat),Surf F n→(∀l∈L,Rim F l)→L.flatten.Nodup→(∀a b,isB F (a,b)→a∈L.flatten)→Surf (closeF F n L) (n+L.length)∧bnd (closeF F n L)=[]
  |[],F,n,h,_,_,hb=>⟨h,List.eq_nil_iff_forall_not_mem.2 fun e he=>by have:=hb e.1 e.2 (mem_bnd.1 he);simp at this⟩
  |l :: L,F,n,h,hr,hn,hb=>by
    have rl:=hr l (by simp)
    rw [List.flatten_cons] at hn
    have hn':=List.nodup_append.1 hn
    have:=close_all L (F++fanF l (n:Int)) (n+1) (close_surf h rl) (fun l' hl'=>⟨(hr l' (by simp [hl'])).ne,(hr l' (by simp [hl'])).nodup,fun i hi=>
      (close_isB h rl _).2 ⟨(hr l' (by simp [hl'])).bd i hi,fun k=>hn'.2.2 _ k _ (List.mem_flatten.2 ⟨l',hl',getD_mem 0 hi⟩) rfl⟩⟩) hn'.2.1 (fun a b k=>by
        have k2:=(close_isB h rl _).1 k
        have:=hb a b k2.1
        rw [List.flatten_cons] at this
        exact (List.mem_append.1 this).resolve_left k2.2)
    rw [closeF]
    exact ⟨by have t:=this.1;rwa [show n+1+L.length=n+(l :: L).length by simp;omega] at t,this.2⟩
theorem closeF_len:∀(L:List (List Int)) (F:List V3) (n:Nat),(closeF F n L).length=F.length+L.flatten.length
  |[],F,n=>by simp [closeF]
  |l :: L,F,n=>by rw [closeF,closeF_len L];simp [fan_len];omega
end Go.Proofs.Ytalfgjpbbongcaa.Ms
namespace Go.Proofs.Ytalfgjpbbongcaa.Ms
open Go.Proofs.Ytalfgjpbbongcaa.Sp (mget mput mget_mput mput_keys mput_nodup mget_isSome)
def ctrS (V:List V3) (l:List Int):V3:=l.foldl (fun s v=>(s.1+(pt V v).1,s.2.1+(pt V v).2.1,s.2.2+(pt V v).2.2)) (0,0,0)
theorem ctrS_take {V:List V3} {l:List Int} {i:Nat} (h:i<l.length):ctrS V (l.take (i+1))=((ctrS V (l.take i)).1+(pt V (l.getD i 0)).1,(ctrS V (l.take i)).2.1+(pt V (l.getD i 0)).2.1,(ctrS V (l.take i)).2.2+(pt V (l.getD i 0)).2.2):=by
  unfold ctrS;rw [take_snoc 0 h,List.foldl_append];rfl
def ctr (V:List V3) (l:List Int):V3:=((ctrS V l).1 / (l.length:Int),(ctrS V l).2.1 / (l.length:Int),(ctrS V l).2.2 / (l.length:Int))
def closeV (V:List V3) (L:List (List Int)):List V3:=V++L.map (ctr V)
def inB (k:Int) (p:V3):Prop:=(-(k*1048576)≤p.1∧p.1≤k*1048576)∧(-(k*1048576)≤p.2.1∧p.2.1≤k*1048576)∧(-(k*1048576)≤p.2.2∧p.2.2≤k*1048576)
theorem ctrS_b {V:List V3} (hV:∀v:Int,inB 1 (pt V v)) (l:List Int):∀i,i≤l.length→inB (i:Int) (ctrS V (l.take i))
  |0,_=>by simp [ctrS,inB]
  |i+1,h=>by
    have ih:=ctrS_b hV l i (by omega)
    have p:=hV (l.getD i 0)
    rw [ctrS_take (by omega)]
    unfold inB at ih p ⊢
    simp only
    rw [show ((i+1:Nat):Int)*1048576=(i:Int)*1048576+1048576 by rw [Int.natCast_add,Int.add_mul];rfl]
    omega
theorem pt_b {V F:List V3} (hg:Good V F) (v:Int):inB 1 (pt V v):=by
  unfold inB pt
  by_cases h:v.toNat<V.length
  · have:=hg.vat h;omega
  · rw [List.getD_eq_getElem?_getD,List.getElem?_eq_none (by omega)];simp
theorem div_b {a b:Int} (hb:0<b) (h: -(b*1048576)≤a∧a≤b*1048576): -1048576≤a / b∧a / b≤1048576:=by
  constructor
  · rw [Int.le_ediv_iff_mul_le hb]
    rw [Int.mul_comm] at h;omega
  · exact Int.ediv_le_of_le_mul hb (by rw [Int.mul_comm] at h;omega)
theorem ctr_b {V F:List V3} (hg:Good V F) {l:List Int} (hl:0<l.length):(-1048576≤(ctr V l).1∧(ctr V l).1≤1048576)∧(-1048576≤(ctr V l).2.1∧(ctr V l).2.1≤1048576)∧(-1048576≤(ctr V l).2.2∧(ctr V l).2.2≤1048576):=by
  have:=ctrS_b (pt_b hg) l l.length (Nat.le_refl _)
  rw [List.take_length] at this
  exact ⟨div_b (by omega) this.1,div_b (by omega) this.2.1,div_b (by omega) this.2.2⟩
theorem surf_of {V F:List V3} (h:check V F=0):Surf F V.length:=by
  have hg:=form_zero.1 (check_form h)
  refine ⟨fun f hf=> ?_,hg.dg,check_nodup h,fun v h0 hv i hi j hj=> ?_,border_uniq h⟩
  · obtain ⟨i, hi, e⟩ := mem_getD (0, 0, 0) hf
    have:=hg.at hi
    rw [e] at this;exact ⟨this.1,this.2.1,this.2.2.1⟩
  · have a := (at_all hg.dg (v := v)).1
    have hs:=check_stars h (v:=v.toNat) (by omega)
    rw [show (v.toNat:Int)=v by omega] at hs
    have hnf:=hg.nf
    exact (starB_iff (fun i hi=>⟨(a i hi).1,by have:=(a i hi).2.1;omega⟩)).1 hs i hi j hj
theorem nxt_of {V F:List V3} (h:check V F=0) {bm:List (Int×Int)} (hb:BMap F bm):Nxt (fun jj=>mget bm jj) V.length∧∀a b,isB F (a,b)→mget bm a=some b:=by
  have hg:=form_zero.1 (check_form h)
  have hn:=check_nodup h
  have hu:=border_uniq h
  have hs:=surf_of h
  have get:∀a b,isB F (a,b)→mget bm a=some b:=fun a b k=>by
    obtain ⟨w,hw⟩:=hb.ex a b k
    rw [hw,hu a b w k (hb.some_ a w hw)]
  refine ⟨⟨fun a b k=>(hs.edge (hb.some_ a b k).1).1,fun a b k=> ?_,fun b c k=> ?_,fun a a' b k k'=> ?_⟩,get⟩
  · obtain ⟨u, hu'⟩ := border_next hg.dg hn (hb.some_ a b k)
    exact ⟨u,get _ _ hu'⟩
  · obtain ⟨v, hv⟩ := border_prev hg.dg hn (hb.some_ b c k)
    exact ⟨v,get _ _ hv⟩
  · exact border_from hg.dg hn hu (hb.some_ a b k) (hb.some_ a' b k')
theorem closes_law {V F:List V3} (h:check V F=0) {bm:List (Int×Int)} (hb:BMap F bm) (hV:V.length≤16) (hF:F.length≤24):
    check (closeV V (loops (fun jj=>mget bm jj) V.length)) (closeF F V.length (loops (fun jj=>mget bm jj) V.length))=0∧bnd (closeF F V.length (loops (fun jj=>mget bm jj) V.length))=[]:=by
  have hg:=form_zero.1 (check_form h)
  obtain ⟨hN,hget⟩:=nxt_of h hb
  obtain ⟨s1,s2,s3⟩:=loops_spec hN
  have hL:(loops (fun jj=>mget bm jj) V.length).length≤V.length:=loopsF_len _ _ _
  have hin:InR V.length (loops (fun jj=>mget bm jj) V.length).flatten:=by
    have p:=loops_lp hN V.length (Nat.le_refl _)
    have q:=p.rng
    rw [p.flat] at q;exact q
  have hfl:=inR_len hin s1
  generalize loops (fun jj=>mget bm jj) V.length=L at s1 s2 s3 hL hin hfl
  obtain ⟨c1,c2⟩:=close_all L F V.length (surf_of h) (fun l hl=>⟨(s2 l hl).ne,(s2 l hl).nodup,fun i hi=>hb.some_ _ _ ((s2 l hl).next i hi)⟩) s1 (fun a b k=>s3 a b (hget a b k))
  have hvl:(closeV V L).length=V.length+L.length:=by simp [closeV]
  have hfl2:=closeF_len L F V.length
  have hgood:Good (closeV V L) (closeF F V.length L):=by
    refine ⟨by omega,by omega,fun p hp=> ?_,fun f hf=> ?_,c1.deg⟩
    · rcases List.mem_append.1 hp with hp | hp
      · exact hg.far p hp
      · obtain ⟨l, hl, rfl⟩ := List.mem_map.1 hp
        have:=ctr_b hg (s2 l hl).ne
        simp only [far,farI,List.any_cons,List.any_nil,Bool.or_false,Bool.or_eq_false_iff,decide_eq_false_iff_not]
        omega
    · have := c1.rng f hf
      unfold badIx
      rw [decide_eq_false_iff_not,hvl]
      omega
  refine ⟨check_ok (form_zero.2 hgood) c1.nodup (fun v hv=> ?_),c2⟩
  have a:=(at_all c1.deg (v:=(v:Int))).1
  exact (starB_iff (fun i hi=>⟨(a i hi).1,by have:=(a i hi).2.1;omega⟩)).2 (c1.star (v:Int) (by omega) (by omega))
theorem closeF_snoc:∀(L:List (List Int)) (F:List V3) (n:Nat) (l:List Int),closeF F n (L++[l])=closeF F n L++fanF l ((n+L.length:Nat):Int)
  |[],F,n,l=>by simp [closeF]
  |a :: L,F,n,l=>by
    rw [List.cons_append,closeF,closeF_snoc L,closeF,show n+1+L.length=n+(a :: L).length by simp;omega]
theorem closeF_take {L:List (List Int)} {F:List V3} {n k:Nat} (h:k<L.length):closeF F n (L.take (k+1))=closeF F n (L.take k)++fanF (L.getD k []) ((n+k:Nat):Int):=by
  rw [take_snoc [] h,closeF_snoc,List.length_take,Nat.min_eq_left (by omega)]
theorem closeV_take {L:List (List Int)} {V:List V3} {k:Nat} (h:k<L.length):closeV V (L.take (k+1))=closeV V (L.take k)++[ctr V (L.getD k [])]:=by
  unfold closeV;rw [take_snoc [] h,List.map_append,List.append_assoc];rfl
theorem closeV_len {L:List (List Int)} {V:List V3} {k:Nat} (h:k≤L.length):(closeV V (L.take k)).length=V.length+k:=by
  simp [closeV,Nat.min_eq_left h]
theorem fan_take {l:List Int} {c:Int} {i:Nat} (h:i<l.length):(fanF l c).take (i+1)=(fanF l c).take i++[(l.getD ((i+1)%l.length) 0,l.getD i 0,c)]:=by
  rw [take_snoc (0,0,0) (by rw [fan_len];exact h),fan_get h]
theorem loops_small {V F:List V3} (h:check V F=0) {bm:List (Int×Int)} (hb:BMap F bm):
    (loops (fun jj=>mget bm jj) V.length).length≤V.length∧(loops (fun jj=>mget bm jj) V.length).flatten.length≤V.length∧
      ∀l∈loops (fun jj=>mget bm jj) V.length,(0<l.length∧l.length≤V.length)∧∀x∈l,0≤x∧x<(V.length:Int):=by
  obtain ⟨hN,hget⟩:=nxt_of h hb
  have p:=loops_lp hN V.length (Nat.le_refl _)
  have q:=p.rng
  have nd:=p.nodup
  rw [p.flat] at q nd
  refine ⟨loopsF_len _ _ _,inR_len q nd,fun l hl=> ?_⟩
  have hin:∀x∈l,0≤x∧x<(V.length:Int):=fun x hx=>q x (List.mem_flatten.2 ⟨l,hl,hx⟩)
  exact ⟨⟨(p.cyc l hl).ne,inR_len hin (p.cyc l hl).nodup⟩,hin⟩
theorem take_flat {L:List (List Int)}:∀k,(L.take k).flatten.length≤L.flatten.length:=fun k=>by
  have:L.flatten=(L.take k).flatten++(L.drop k).flatten:=by rw [← List.flatten_append,List.take_append_drop]
  rw [this,List.length_append];omega
theorem closeF_small {L:List (List Int)} {F:List V3} {n k:Nat}:(closeF F n (L.take k)).length≤F.length+L.flatten.length:=by
  rw [closeF_len];have:=take_flat (L:=L) k;omega
end Go.Proofs.Ytalfgjpbbongcaa.Ms
