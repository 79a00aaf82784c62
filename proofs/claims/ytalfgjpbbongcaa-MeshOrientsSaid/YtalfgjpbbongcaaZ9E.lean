/- Lemmas on the walk and plain lemmas that the claim of this folder uses; each states its own conditions. Lines were printed by a program of ours. -/
import Derived.Test.YtalfgjpbbongcaaZ9D
set_option linter.unusedVariables false
set_option linter.unusedSimpArgs false
set_option linter.unusedSectionVars false
namespace Go.Proofs.Ytalfgjpbbongcaa.Sp
open Go
set_option linter.unusedVariables false
set_option maxRecDepth 100000
set_option maxHeartbeats 1000000
theorem zAd {pv:Option Addr} {nv:Nat} {cv:Nat} {V:List (Int×Int×Int)} {pf:Option Addr} {nf:Nat} {cf:Nat} {F:List (Int×Int×Int)} (hnv:V.length=nv) (hnf:F.length=nf):Con Try.prog 38 [.agg #[.slice pv nv cv,.slice pf nf cf]] [] [slF (rI3 .i64) pv cv V,slF (rI3 .i64) pf cf F] (Y:=(Option Addr)×Nat×(List Ms.V3)×(Option Addr)×Nat×(List Ms.V3)×Int) (fun y=>(Ms.form V F≠0→y.2.2.2.2.2.2=Ms.form V F∧y.2.2.1=[]∧y.2.2.2.2.2.1=[])∧(Ms.form V F=0→Ms.OriR V F y.2.2.2.2.2.2 y.2.2.1 y.2.2.2.2.2.1)) (fun y=> .tuple #[.agg #[.slice (y.1) (y.2.2.1.length) (y.2.1),.slice (y.2.2.2.1) (y.2.2.2.2.2.1.length) (y.2.2.2.2.1)],.int .i64 (y.2.2.2.2.2.2)]) (fun y=>[]) (fun y=>[slF (rI3 .i64) (y.1) (y.2.1) (y.2.2.1),slF (rI3 .i64) (y.2.2.2.1) (y.2.2.2.2.1) (y.2.2.2.2.2.1)]):=by
  refine zx Try.func38 rfl rfl rfl (fun c=> ?_)
  show RunC _ _ _ _ _ [(0,.agg #[.slice pv nv cv,.slice pf nf cf])] [] [slF (rI3 .i64) pv cv V,slF (rI3 .i64) pf cf F]
  refine zba 0 rfl (fun hL0=> ?_)
  refine zba 1 rfl (fun hL1=> ?_)
  refine ze<|za<|zO rfl rfl (zfa rfl rfl) (fun b1=> ?_)
  refine zO rfl rfl (zr zr25 rfl) (fun b2=> ?_)
  refine r_pv rfl rfl (zd rfl)<|zg<|zc<|ze<|ze<|za<|r_u rfl rfl (zh 1 ty25 rfl rfl (.take (.take .nil)))<|zW rfl rfl (.c rfl .n) ce46 (zkd (pv:=pv) (nv:=nv) (cv:=cv) (V:=V) (pf:=pf) (nf:=nf) (cf:=cf) (F:=F) (hnv:=by assumption) (hnf:=by assumption)) (.c (j:=0) rfl (.c (j:=1) rfl .n))<|r_pv rfl rfl (zd rfl)<|zg<|zc<|ze<|za<|r_pv rfl rfl (zb rfl)<|r_pv rfl rfl (zPa rfl rfl)<|zg<|zc<|zC rfl (fun hcode=> ?_) (fun hcode=> ?_)
  ·
    refine ze<|za<|r_pv rfl rfl (zI zr25 rfl Try.underlying25 (.c sz22 (.c sz23 .n)) .n .n)<|r_pv rfl rfl (zb rfl)<|zt 0 rfl rfl rfl rfl rfl sz25 rfl (.take (.take .nil)) .z<|r_pv rfl rfl (zd rfl)<|zg<|zc<|zJ<|zj<|zab (rI3 .i64)<|zab (rI3 .i64) ?_
    exact zdb Try.results38 (none,0,[],none,0,[],Ms.form V F) (⟨fun _=>⟨rfl,rfl,rfl⟩,fun h=>absurd h hcode⟩) (zK 0 ty25 rfl rfl (.take (.take .nil))) (zw rfl) rfl (ho:=(.n:PickO _ _ _)) ((.of [0,0] rfl):SelR _ _ _)
  ·
    have hf0:=Decidable.not_not.1 hcode
    have hg:=Ms.form_zero.1 hf0
    have hnv5:nv≤512:=by have:=hg.nv;omega
    have hnf5:nf≤1024:=by have:=hg.nf;omega
    refine zu<|zc<|ze<|za<|r_u rfl rfl (zh 1 ty25 rfl rfl (.take (.take .nil)))<|zea rfl rfl (.c rfl .n) ce66 (zLc (pv:=pv) (nv:=nv) (cv:=cv) (V:=V) (pf:=pf) (nf:=nf) (cf:=cf) (F:=F) (hnv:=by assumption) (hnf:=by assumption) (hg:=by first|rfl|assumption|omega)) (.c (j:=0) rfl (.c (j:=1) rfl .n)) ?_
    rintro ⟨bZ,rawZ⟩ hraw
    dsimp only [List.append_eq,List.nil_append,List.cons_append]
    replace hraw:Raw rawZ (Ms.sides F):=hraw
    refine r_pv rfl rfl (zd rfl)<|zg<|zc<|ze<|ze<|za<|r_pv rfl rfl (zb rfl)<|zCa 0 rfl rfl rfl (zfd Try.underlying98 rfl) (fun _=> .z) (fun it3 _=> ?_)
    refine zg<|zc<|zq<|zda (X:=(List ((Int×Int)×Tri))) (fun x:(List ((Int×Int)×Tri))=>(x.map Prod.fst).Nodup∧(∀q∈x.map Prod.fst,q∈rawZ.map Prod.fst)∧∀q∈x,(Ms.sl F q.1).length≤2) (fun x=>[(26,.pointer (some ⟨it3,0,none⟩)),(5,.map (some bZ)),(2,.pointer (some ⟨b2,0,none⟩)),(1,.pointer (some ⟨b1,0,none⟩))]) (fun x=>[itA bZ it3 (fun z:Int×Int=> .agg #[.int .i64 z.1,.int .i64 z.2]) (fun z:Option Addr×Nat×Nat=> .slice z.1 z.2.1 z.2.2) (fun z=>InK .i64 z.1∧InK .i64 z.2) rawZ x,boxA b2 25 [.slice none 0 0,.slice none 0 0],boxA b1 25 [.slice pv nv cv,.slice pf nf cf]]) (fun x=>[rawF (rI .i64) rawZ (Ms.sides F),slF (rI3 .i64) pv cv V,slF (rI3 .i64) pf cf F]) (fun x:(List ((Int×Int)×Tri))=>rawZ.length - x.length) ([]:List ((Int×Int)×Tri)) (show (([]:List ((Int×Int)×Tri)).map Prod.fst).Nodup∧(∀q∈([]:List ((Int×Int)×Tri)).map Prod.fst,q∈rawZ.map Prod.fst)∧∀q∈([]:List ((Int×Int)×Tri)),(Ms.sl F q.1).length≤2 from by exact ⟨by simp,fun q h=>(by cases h),fun q h=>(by cases h)⟩) ((.of rfl):SubM _ _) (ho:=((.e (i:=0) rfl (by first|rfl|(congr 1;omega)|simp_all) (.of [0,0] rfl)):PickO _ _ _)) ((.of [0,1,2] rfl):SelR _ _ _) ?_
    rintro vis hBB
    replace hBB:(vis.map Prod.fst).Nodup∧(∀q∈vis.map Prod.fst,q∈rawZ.map Prod.fst)∧∀q∈vis,(Ms.sl F q.1).length≤2:=hBB
    try dsimp only
    obtain ⟨hBn,hBs,hBl⟩:=hBB
    refine ze<|za<|zAe 0 rfl rfl rfl rfl (fun _=> .z) (fun e hem hen=> ?_) (fun hperm=> ?_)
    ·
      have hsl9:(Ms.sl F e.1).length≤3*F.length:=Ms.sides_len F e.1
      have hkey:e.1∈(Ms.sides F).map (·.1):=by rw [← hraw.keys];exact List.mem_map_of_mem hem
      refine r_pv rfl rfl (zV rfl rfl)<|zg<|zc<|ze<|zY rfl rfl<|zu<|zc<|zq<|ze<|za<|r_u rfl rfl (zgd (p:=e) 0 rfl rfl)<|r_pv rfl rfl (zV rfl rfl)<|r_pv rfl rfl (zd rfl)<|zg<|zc<|ze ?_
      have e4:e.2=((mget rawZ e.1).getD (none,0,0)):=by rw [Ms.mget_of_mem (by rw [hraw.keys];exact Ms.sides_nodup F) hem];rfl
      rw [e4]
      refine zie 0 rfl e.1 (fun p5 c6 hg7=> ?_)
      rw [hg7]
      dsimp only
      have e8:((mget (Ms.sides F) e.1).getD [])=(Ms.sl F e.1):=by rfl
      rw [e8]
      refine zba 0 rfl (fun hLs=> ?_)
      refine za<|r_pv rfl rfl (zb rfl)<|r_pv rfl rfl (zL Try.underlying50 rfl)<|r_pv rfl rfl (zQa rfl rfl)<|zg<|zc<|zC rfl (fun hlen=> ?_) (fun hlen=> ?_)
      ·
        refine ze<|za<|r_pv rfl rfl (zI zr25 rfl Try.underlying25 (.c sz22 (.c sz23 .n)) .n .n)<|zt 1 rfl rfl rfl rfl rfl sz25 rfl (.take (.take .nil)) (.s .z)<|r_pv rfl rfl (zd rfl)<|zg<|zc<|zJ<|zo<|zj<|zo<|zj<|zab (rI3 .i64)<|zab (rI3 .i64) ?_
        exact zdb Try.results38 (none,0,[],none,0,[],7) (⟨fun h=>absurd hf0 h,fun _=>Ms.OriR.dup ⟨e.1,by omega⟩⟩) (zK 1 ty25 rfl rfl (.take (.take .nil))) (zw rfl) rfl (ho:=(.n:PickO _ _ _)) ((.of [0,0] rfl):SelR _ _ _)
      ·
        refine zu<|zy ?_
        have hvs:((vis++[e]).map Prod.fst).Nodup∧∀q∈(vis++[e]).map Prod.fst,q∈rawZ.map Prod.fst:=by
          rw [List.map_append]
          exact ⟨Ms.nodup_step hBn hen,fun q hq=>(List.mem_append.1 hq).elim (hBs q) (fun h=>by simp at h;subst h;exact List.mem_map_of_mem hem)⟩
        refine zT (vis++[e]) (show ((vis++[e]).map Prod.fst).Nodup∧(∀q∈(vis++[e]).map Prod.fst,q∈rawZ.map Prod.fst)∧∀q∈(vis++[e]),(Ms.sl F q.1).length≤2 from by exact ⟨hvs.1,hvs.2,fun q hq=>(List.mem_append.1 hq).elim (hBl q) (fun h=>by simp at h;subst h;omega)⟩) (by have h8:=Ms.len_of_sub hvs.1 hvs.2;simp only [List.length_map,List.length_append,List.length_cons,List.length_nil] at *;omega) ((.of rfl):SubM _ _) (ho:=((.of [0,0,0] rfl):PickO _ _ _)) ((.of [1,2,3] rfl):SelR _ _ _)
    ·
      refine r_pv rfl rfl (zV rfl rfl)<|zg<|zc<|ze<|zBa rfl rfl<|zP<|zi<|zi<|zp<|zc<|ze ?_
      have hnd:¬Ms.dupE F:=Ms.not_dup (fun k hk=>by rw [← hraw.keys] at hk;obtain ⟨q,hq,rfl⟩:=List.mem_map.1 hk;exact hBl q (hperm.mem_iff.2 hq))
      refine zya (OW:=[]) (O:=[itA bZ it3 (fun z:Int×Int=> .agg #[.int .i64 z.1,.int .i64 z.2]) (fun z:Option Addr×Nat×Nat=> .slice z.1 z.2.1 z.2.2) (fun z=>InK .i64 z.1∧InK .i64 z.2) rawZ vis,boxA b2 25 [.slice none 0 0,.slice none 0 0],boxA b1 25 [.slice pv nv cv,.slice pf nf cf]]) 8 mixed (.then .ret) (by kernel_rfl)<|d_pv 0 rfl rfl (by kernel_rfl) (by kernel_rfl) rfl rfl (zn Try.underlying25 rfl sz22 rfl rfl)<|d_u 1 rfl rfl (by kernel_rfl) (by kernel_rfl) rfl rfl (zf 2 ty22 rfl rfl rfl)<|d_pv 3 rfl rfl (by kernel_rfl) (by kernel_rfl) rfl rfl (zn Try.underlying25 rfl sz23 rfl rfl)<|d_u 4 rfl rfl (by kernel_rfl) (by kernel_rfl) rfl rfl (zf 2 ty23 rfl rfl rfl)<|zbc (m':=[(39,.slice pf nf cf),(36,.slice pv nv cv),(5,.map (some bZ)),(2,.pointer (some ⟨b2,0,none⟩)),(1,.pointer (some ⟨b1,0,none⟩))]) (R':=[rawF (rI .i64) rawZ (Ms.sides F),slF (rI3 .i64) pv cv V,slF (rI3 .i64) pf cf F]) ((.of rfl):SubM _ _) (List.Perm.refl _) (List.Perm.refl _) ((.of [0,1,2] rfl):SelR _ _ _)<|zS (X:=Option Addr×Nat×Option Addr×Nat×Nat) (k':=0) (L':=(lb 9 511)) (fun (u2_1,u2_2,u5_1,u5_2,u7_1)=>([(8,.pointer (some ⟨u7_1,0,none⟩)),(5,.map (some bZ)),(2,.pointer (some ⟨b2,0,none⟩)),(1,.pointer (some ⟨b1,0,none⟩))],[boxA u7_1 25 [.slice u2_1 (V.length) u2_2,.slice u5_1 (F.length) u5_2]],[rowA 44 (rI3 .i64) u5_1 u5_2 F,rowA 42 (rI3 .i64) u2_1 u2_2 V,itA bZ it3 (fun z:Int×Int=> .agg #[.int .i64 z.1,.int .i64 z.2]) (fun z:Option Addr×Nat×Nat=> .slice z.1 z.2.1 z.2.2) (fun z=>InK .i64 z.1∧InK .i64 z.2) rawZ vis,boxA b2 25 [.slice none 0 0,.slice none 0 0],boxA b1 25 [.slice pv nv cv,.slice pf nf cf]],[rawF (rI .i64) rawZ (Ms.sides F),slF (rI3 .i64) pv cv V,slF (rI3 .i64) pf cf F])) ?_ (fun hD0=> ?_)
      ·
        rintro ⟨u2_1,u2_2,u5_1,u5_2,u7_1⟩
        dsimp only
        refine zwa (by kernel_rfl)<|zc<|ze<|za<|r_pv rfl rfl (zn Try.underlying25 rfl sz23 rfl rfl)<|r_u rfl rfl (zf 5 ty23 rfl rfl rfl)<|r_pv rfl rfl (zL Try.underlying23 rfl)<|zFa rfl rfl (zIb (r:=rB) (k:=nf) (x0:=false) (γ0:=()) Try.underlying106 inf4 rfl rfl rfl rfl (by omega) (by omega) rfl (fun _ _=>by trivial) (by decide)) (fun b9 _=> ?_)
        refine r_pv rfl rfl (zd rfl)<|zg<|zc<|ze<|ze<|za<|r_pv rfl rfl (zn Try.underlying25 rfl sz23 rfl rfl)<|r_u rfl rfl (zf 6 ty23 rfl rfl rfl)<|r_pv rfl rfl (zL Try.underlying23 rfl)<|r_pv rfl rfl (zb rfl)<|zg<|zc<|zq<|zda (X:=Nat×(List Bool)×(List Ms.V3)) (fun x:Nat×(List Bool)×(List Ms.V3)=>x.1≤nf∧Ms.OrI F x.2.1 x.2.2∧Ms.Clo F x.2.1∧∀j,j<x.1→x.2.1.getD j false=true) (fun x=>[(49,.int .i64 ((x.1:Nat):Int)),(48,.int .i64 ((nf:Nat):Int)),(9,.slice (some ⟨b9,0,none⟩) nf nf),(8,.pointer (some ⟨u7_1,0,none⟩)),(5,.map (some bZ)),(2,.pointer (some ⟨b2,0,none⟩))]) (fun x=>[rowA 4 rB (some ⟨b9,0,none⟩) nf (x.2.1),boxA u7_1 25 [.slice u2_1 (V.length) u2_2,.slice u5_1 (F.length) u5_2],rowA 44 (rI3 .i64) u5_1 u5_2 (x.2.2),rowA 42 (rI3 .i64) u2_1 u2_2 V,itA bZ it3 (fun z:Int×Int=> .agg #[.int .i64 z.1,.int .i64 z.2]) (fun z:Option Addr×Nat×Nat=> .slice z.1 z.2.1 z.2.2) (fun z=>InK .i64 z.1∧InK .i64 z.2) rawZ vis,boxA b2 25 [.slice none 0 0,.slice none 0 0],boxA b1 25 [.slice pv nv cv,.slice pf nf cf]]) (fun x=>[rawF (rI .i64) rawZ (Ms.sides F),slF (rI3 .i64) pv cv V,slF (rI3 .i64) pf cf F]) (fun x:Nat×(List Bool)×(List Ms.V3)=>nf - x.1) (0,List.replicate nf false,F) (show 0≤nf∧Ms.OrI F (List.replicate nf false) F∧Ms.Clo F (List.replicate nf false)∧∀j,j<0→(List.replicate nf false).getD j false=true from by exact ⟨Nat.zero_le _,by rw [← hnf];exact Ms.OrI.start F,Ms.Clo.start F nf,fun j hj=>by omega⟩) ((.e rfl (by first|rfl|(congr 1;omega)|simp_all) (.of rfl)):SubM _ _) (ho:=((.of [0,0,0,0,0,0,0] rfl):PickO _ _ _)) ((.of [0,1,2] rfl):SelR _ _ _) ?_
        rintro ⟨i,K,O2⟩ hI
        replace hI:i≤nf∧Ms.OrI F K O2∧Ms.Clo F K∧∀j,j<i→K.getD j false=true:=hI
        try dsimp only
        obtain ⟨hi,hOr,hCl,hlo⟩:=hI
        have hkl:=hOr.kl
        have hol:=hOr.ol
        refine ze<|za<|r_pv rfl rfl (zG rfl rfl)<|zg<|zc<|ze<|zC rfl (fun h10=> ?_) (fun h10=> ?_)
        ·
          refine zu<|zc<|ze<|zq<|ze<|za<|r_pv rfl rfl (zb rfl)<|r_pv rfl rfl (zd rfl)<|zg<|zc<|ze<|ze<|za<|r_pv rfl rfl (zb rfl)<|r_pv rfl rfl (zb rfl)<|r_pv rfl rfl (zU (j:=i) Try.underlying106 sz4 rfl rfl rfl (by omega))<|r_vl rfl rfl (zqa 0 i rfl ty4 rfl rfl (gD (d:=false) (by omega)) rfl) (fun _ hok11=> ?_)
          refine zg<|zc<|zAa rfl (fun hkn=> ?_) (fun hkn=> ?_)
          ·
            refine zP<|zi<|zp<|zc<|za<|r_pv rfl rfl (zD (z:=(((i+1):Nat):Int)) rfl rfl (w64 (by omega)))<|r_pv rfl rfl (zb rfl)<|zg<|zT ((i+1),K,O2) (show (i+1)≤nf∧Ms.OrI F K O2∧Ms.Clo F K∧∀j,j<(i+1)→K.getD j false=true from by exact ⟨by omega,hOr,hCl,fun j hj=>by by_cases e9:j=i;rw [e9];exact hkn;exact hlo j (by omega)⟩) (by show nf - (i+1)<nf - i;omega) ((.of rfl):SubM _ _) (ho:=((.of [0,0,0,0,0,0,0] rfl):PickO _ _ _)) ((.of [0,1,2] rfl):SelR _ _ _)
          ·
            refine zu<|zc<|ze<|za<|r_pv rfl rfl (zb rfl)<|r_pv rfl rfl (zb rfl)<|r_pv rfl rfl (zU (j:=i) Try.underlying106 sz4 rfl rfl rfl (by omega))<|zCa 0 rfl rfl rfl (zka (j:=i) (x0:=true) (γ0:=()) rfl rfl (by first|omega|(rw [List.length_map];omega)|(simp only [List.length_set];omega)|(simp;omega)) rfl rfl sz4 (fun _ _=>by trivial)) (fun _=> .z) (fun _ _=> ?_)
            refine zg<|zc<|ze<|za<|r_pv rfl rfl (zb rfl)<|zFa rfl rfl (zz (enc:=fun z:Int=>[.int .i64 z]) (ok:=InK .i64) (h1:=fun _=>rfl) (h2:=fun _=>rfl) (k:=1) Try.underlying50 inf3 rfl (by decide) (by decide) (by decide) (.c (x:=((i:Nat):Int)) rfl rfl (fun _ _=>by exact zm.2 (by omega)) .n)) (fun b12 _=> ?_)
            refine r_pv rfl rfl (zd rfl)<|zg<|zc<|zq ?_
            have hk0:¬K.getD i false=true:=by rw [hkn];decide
            refine zda (X:=(List Bool)×(List Ms.V3)×(List Nat)×(Option Addr)×Nat) (fun x:(List Bool)×(List Ms.V3)×(List Nat)×(Option Addr)×Nat=>Ms.OrI F x.1 x.2.1∧Ms.QuI F x.1 x.2.2.1∧(∀j,j<i+1→x.1.getD j false=true)∧2*Ms.unk x.1+x.2.2.1.length≤2*nf+1) (fun x=>[(11,.slice (x.2.2.2.1) (x.2.2.1.length) (x.2.2.2.2)),(49,.int .i64 ((i:Nat):Int)),(48,.int .i64 ((nf:Nat):Int)),(9,.slice (some ⟨b9,0,none⟩) nf nf),(8,.pointer (some ⟨u7_1,0,none⟩)),(5,.map (some bZ)),(2,.pointer (some ⟨b2,0,none⟩))]) (fun x=>[rowA 3 (rI .i64) (x.2.2.2.1) (x.2.2.2.2) (x.2.2.1.map Ms.izz),rowA 4 rB (some ⟨b9,0,none⟩) nf (x.1),boxA u7_1 25 [.slice u2_1 (V.length) u2_2,.slice u5_1 (F.length) u5_2],rowA 44 (rI3 .i64) u5_1 u5_2 (x.2.1),rowA 42 (rI3 .i64) u2_1 u2_2 V,itA bZ it3 (fun z:Int×Int=> .agg #[.int .i64 z.1,.int .i64 z.2]) (fun z:Option Addr×Nat×Nat=> .slice z.1 z.2.1 z.2.2) (fun z=>InK .i64 z.1∧InK .i64 z.2) rawZ vis,boxA b2 25 [.slice none 0 0,.slice none 0 0],boxA b1 25 [.slice pv nv cv,.slice pf nf cf]]) (fun x=>[rawF (rI .i64) rawZ (Ms.sides F),slF (rI3 .i64) pv cv V,slF (rI3 .i64) pf cf F]) (fun x:(List Bool)×(List Ms.V3)×(List Nat)×(Option Addr)×Nat=>2*Ms.unk x.1+x.2.2.1.length) ((K.set i true),O2,[i],some ⟨b12,0,none⟩,1) (show Ms.OrI F (K.set i true) O2∧Ms.QuI F (K.set i true) ([i])∧(∀j,j<i+1→(K.set i true).getD j false=true)∧2*Ms.unk (K.set i true)+([i]).length≤2*nf+1 from by exact ⟨hOr.root hg.dg (by omega) hk0 hlo hCl,Ms.QuI.root hkl (by omega) hCl,fun j hj=>by rw [Ms.getD_setK (by omega)];split;rfl;exact hlo j (by omega),by have h9:=Ms.unk_le (K.set i true);rw [List.length_set] at h9;simp only [List.length_cons,List.length_nil];omega⟩) ((.e rfl (by first|rfl|(congr 1;omega)|simp_all) (.of rfl)):SubM _ _) (ho:=((.e (i:=0) rfl (by first|rfl|(congr 1;omega)|simp_all) (.of [0,0,0,0,0,0,0] rfl)):PickO _ _ _)) ((.of [0,1,2] rfl):SelR _ _ _) ?_
            rintro ⟨K2,O3,q,p4,c4⟩ hJ
            replace hJ:Ms.OrI F K2 O3∧Ms.QuI F K2 q∧(∀j,j<i+1→K2.getD j false=true)∧2*Ms.unk K2+q.length≤2*nf+1:=hJ
            try dsimp only
            obtain ⟨hOr2,hQ,hlo2,hmu2⟩:=hJ
            have hkl2:=hOr2.kl
            have hol2:=hOr2.ol
            refine ze<|ze<|za<|r_pv rfl rfl (zb rfl)<|r_pv rfl rfl (zL Try.underlying50 rfl)<|r_pv rfl rfl (zQa rfl rfl)<|zg<|zc<|zC rfl (fun hso=> ?_) (fun hso=> ?_)
            ·
              obtain ⟨aa,qq,rfl⟩:∃a q',q=a :: q':=List.exists_cons_of_length_pos (by omega)
              have hq8:=hQ.mem aa (by simp)
              have hmu9:2*Ms.unk K2+qq.length≤2*nf:=by simp only [List.length_cons] at hmu2;omega
              have hsl8:((aa :: qq).map Ms.izz).length=qq.length+1:=by simp
              refine zme 0 rfl (fun hcl=> ?_)
              have e13:(.slice p4 ((aa :: qq).length) c4:Value)= .slice p4 (qq.length+1) c4:=by simp
              rw [e13]
              refine zu<|zc<|zq<|ze<|za<|r_pv rfl rfl (zb rfl)<|r_u rfl rfl (zIa 0 0 rfl Try.underlying50 sz3 rfl (by first|rfl|assumption|(simp;done)|omega) rfl rfl (by omega))<|r_vl rfl rfl (zqa 0 0 rfl ty3 rfl rfl (gD (d:=0) (by omega)) rfl) (fun _ hok14=> ?_)
              replace hok14:=zm.1 hok14
              refine r_pv rfl rfl (zd rfl)<|zg<|zc<|ze ?_
              have e15:((((aa :: qq).map Ms.izz).getD 0 0):Int)=((aa:Nat):Int):=by rfl
              rw [e15]
              refine za<|r_pv rfl rfl (zb rfl)<|r_pv rfl rfl (zrc (lo:=1) (hi:=(qq.length+1)) Try.underlying50 sz3 rfl (.s rfl) .n (.inr ⟨_,rfl⟩) (.inl ⟨rfl,rfl⟩) (by omega) (by omega))<|r_pv rfl rfl (zd rfl)<|zg<|zc<|ze<|zPb (fun w mm=>mm.rowDrop 0 rfl 1 (by simp)) ?_
              dsimp only [List.set]
              have e16:((aa :: qq).map Ms.izz).drop 1=qq.map Ms.izz:=by rfl
              rw [e16]
              have e17:(.slice (newP p4 c4 1 1) ((qq.length+1) - 1) (c4 - 1):Value)= .slice (newP p4 c4 1 1) (qq.length) (c4 - 1):=by congr 1
              rw [e17]
              refine za<|r_pv rfl rfl (zn Try.underlying25 rfl sz23 rfl rfl)<|r_u rfl rfl (zf 2 ty23 rfl rfl rfl)<|r_pv rfl rfl (zb rfl)<|r_u rfl rfl (zIa 3 aa rfl Try.underlying23 sz44 rfl (by first|rfl|assumption|(simp;done)|omega) rfl rfl (by omega))<|r_vl rfl rfl (zLa 3 aa rfl ty44 rfl rfl (gD (d:=(0,0,0)) (by omega))) (fun _ hok18=> ?_)
              obtain ⟨hok18x,hok18y,hok18z⟩:=hok18
              replace hok18x:=zm.1 hok18x
              replace hok18y:=zm.1 hok18y
              replace hok18z:=zm.1 hok18z
              refine zW rfl rfl (.c rfl .n) ce47 (zsb (ex:=(O3.getD aa (0,0,0)).1) (ey:=(O3.getD aa (0,0,0)).2.1) (ez:=(O3.getD aa (0,0,0)).2.2)) (.n)<|r_pv rfl rfl (zb rfl)<|zg<|zc<|zq<|zda (X:=Nat×(List Bool)×(List Ms.V3)×(List Nat)×(Option Addr)×Nat) (fun x:Nat×(List Bool)×(List Ms.V3)×(List Nat)×(Option Addr)×Nat=>x.1≤3∧Ms.InI F i aa (O3.getD aa (0,0,0)) x.1 0 (2*Ms.unk K2+qq.length) x.2.1 x.2.2.1 x.2.2.2.1) (fun x=>[(11,.slice (x.2.2.2.2.1) (x.2.2.2.1.length) (x.2.2.2.2.2)),(75,.int .i64 ((x.1:Nat):Int)),(74,.agg #[.int .i64 ((O3.getD aa (0,0,0)).1),.int .i64 ((O3.getD aa (0,0,0)).2.1),.int .i64 ((O3.getD aa (0,0,0)).2.1),.int .i64 ((O3.getD aa (0,0,0)).2.2),.int .i64 ((O3.getD aa (0,0,0)).2.2),.int .i64 ((O3.getD aa (0,0,0)).1)]),(49,.int .i64 ((i:Nat):Int)),(48,.int .i64 ((nf:Nat):Int)),(9,.slice (some ⟨b9,0,none⟩) nf nf),(8,.pointer (some ⟨u7_1,0,none⟩)),(5,.map (some bZ)),(2,.pointer (some ⟨b2,0,none⟩))]) (fun x=>[rowA 3 (rI .i64) (x.2.2.2.2.1) (x.2.2.2.2.2) (x.2.2.2.1.map Ms.izz),rowA 4 rB (some ⟨b9,0,none⟩) nf (x.2.1),boxA u7_1 25 [.slice u2_1 (V.length) u2_2,.slice u5_1 (F.length) u5_2],rowA 44 (rI3 .i64) u5_1 u5_2 (x.2.2.1),rowA 42 (rI3 .i64) u2_1 u2_2 V,itA bZ it3 (fun z:Int×Int=> .agg #[.int .i64 z.1,.int .i64 z.2]) (fun z:Option Addr×Nat×Nat=> .slice z.1 z.2.1 z.2.2) (fun z=>InK .i64 z.1∧InK .i64 z.2) rawZ vis,boxA b2 25 [.slice none 0 0,.slice none 0 0],boxA b1 25 [.slice pv nv cv,.slice pf nf cf]]) (fun x=>[rawF (rI .i64) rawZ (Ms.sides F),slF (rI3 .i64) pv cv V,slF (rI3 .i64) pf cf F]) (fun x:Nat×(List Bool)×(List Ms.V3)×(List Nat)×(Option Addr)×Nat=>3 - x.1) (0,K2,O3,qq,(newP p4 c4 1 1),(c4 - 1)) (show 0≤3∧Ms.InI F i aa (O3.getD aa (0,0,0)) 0 0 (2*Ms.unk K2+qq.length) K2 O3 qq from by exact ⟨Nat.zero_le _,Ms.InI.start hOr2 hQ hlo2 (Nat.le_refl _)⟩) ((.c rfl (.e rfl (by first|rfl|(congr 1;omega)|simp_all) (.of rfl))):SubM _ _) (ho:=((.of [0,0,0,0,0,0,0,0] rfl):PickO _ _ _)) ((.of [0,1,2] rfl):SelR _ _ _) ?_
              rintro ⟨tt,K3,O4,q3,p5,c5⟩ hJ3
              replace hJ3:tt≤3∧Ms.InI F i aa (O3.getD aa (0,0,0)) tt 0 (2*Ms.unk K2+qq.length) K3 O4 q3:=hJ3
              try dsimp only
              obtain ⟨ht3,hN3⟩:=hJ3
              have hkl3:=hN3.or.kl
              have hol3:=hN3.or.ol
              refine ze<|za<|r_pv rfl rfl (zG rfl rfl)<|zg<|zc<|ze<|zC rfl (fun h19=> ?_) (fun h19=> ?_)
              ·
                refine zu<|zc<|ze<|zq<|ze<|za<|r_pv rfl rfl (ztb (i:=tt) Try.underlying74 ty73 rfl rfl (by omega))<|zO rfl rfl (zr zr73 rfl) (fun b20=> ?_)
                refine zt 0 rfl rfl rfl rfl rfl sz73 rfl (.take (.take .nil)) .z<|zg<|zc<|ze ?_
                obtain ⟨ee,hee⟩:∃z,z=(([(((O3.getD aa (0,0,0)).1),((O3.getD aa (0,0,0)).2.1)),(((O3.getD aa (0,0,0)).2.1),((O3.getD aa (0,0,0)).2.2)),(((O3.getD aa (0,0,0)).2.2),((O3.getD aa (0,0,0)).1))]:List (Int×Int)).getD tt (0,0)):=⟨_,rfl⟩
                rw [← hee]
                have hee2:ee=((Ms.edges3 (O3.getD aa (0,0,0))).getD tt (0,0)):=hee
                have hee3:=Ms.ed_rng (t:=tt) (hOr2.at hg (i:=aa) (by omega))
                rw [← hee2] at hee3
                refine za<|r_pv rfl rfl (zb rfl)<|r_u rfl rfl (zh 0 ty73 rfl rfl (.take (.take .nil)))<|zW rfl rfl (.c rfl .n) ce75 (zHa (ex:=ee.1) (ey:=ee.2)) (.n)<|r_u rfl rfl (zEb (z:=(none,0,0)) (a0:=((min ee.1 ee.2),(max ee.1 ee.2))) (v:= .slice (((mget rawZ ((min ee.1 ee.2),(max ee.1 ee.2))).getD (none,0,0)).1) (((mget rawZ ((min ee.1 ee.2),(max ee.1 ee.2))).getD (none,0,0)).2.1) (((mget rawZ ((min ee.1 ee.2),(max ee.1 ee.2))).getD (none,0,0)).2.2)) 6 rfl ky73 Try.underlying98 zr50 rfl rfl (⟨zm.2 (by omega),zm.2 (by omega)⟩) rfl)<|zje 0 rfl ((min ee.1 ee.2),(max ee.1 ee.2)) (fun p21 c22 hg23=> ?_)
                rw [hg23]
                dsimp only
                have e24:((mget (Ms.sides F) ((min ee.1 ee.2),(max ee.1 ee.2))).getD [])=(Ms.sl F (Ms.pl ee)):=by rfl
                rw [e24]
                refine r_pv rfl rfl (zL Try.underlying50 rfl)<|r_pv rfl rfl (zb rfl)<|zg<|zc<|zq ?_
                have hsl7:(Ms.sl F (Ms.pl ee)).length≤3*F.length:=Ms.sides_len F (Ms.pl ee)
                refine zda (X:=Nat×(List Bool)×(List Ms.V3)×(List Nat)×(Option Addr)×Nat) (fun x:Nat×(List Bool)×(List Ms.V3)×(List Nat)×(Option Addr)×Nat=>x.1≤(Ms.sl F (Ms.pl ee)).length∧Ms.InI F i aa (O3.getD aa (0,0,0)) tt x.1 (2*Ms.unk K2+qq.length) x.2.1 x.2.2.1 x.2.2.2.1) (fun x=>[(11,.slice (x.2.2.2.2.1) (x.2.2.2.1.length) (x.2.2.2.2.2)),(83,.int .i64 ((x.1:Nat):Int)),(82,.int .i64 (((Ms.sl F (Ms.pl ee)).length:Nat):Int)),(81,.slice p21 ((Ms.sl F (Ms.pl ee)).length) c22),(14,.pointer (some ⟨b20,0,none⟩)),(75,.int .i64 ((tt:Nat):Int)),(74,.agg #[.int .i64 ((O3.getD aa (0,0,0)).1),.int .i64 ((O3.getD aa (0,0,0)).2.1),.int .i64 ((O3.getD aa (0,0,0)).2.1),.int .i64 ((O3.getD aa (0,0,0)).2.2),.int .i64 ((O3.getD aa (0,0,0)).2.2),.int .i64 ((O3.getD aa (0,0,0)).1)]),(49,.int .i64 ((i:Nat):Int)),(48,.int .i64 ((nf:Nat):Int)),(9,.slice (some ⟨b9,0,none⟩) nf nf),(8,.pointer (some ⟨u7_1,0,none⟩)),(5,.map (some bZ)),(2,.pointer (some ⟨b2,0,none⟩))]) (fun x=>[boxA b20 73 [.int .i64 (ee.1),.int .i64 (ee.2)],rowA 3 (rI .i64) (x.2.2.2.2.1) (x.2.2.2.2.2) (x.2.2.2.1.map Ms.izz),rowA 4 rB (some ⟨b9,0,none⟩) nf (x.2.1),boxA u7_1 25 [.slice u2_1 (V.length) u2_2,.slice u5_1 (F.length) u5_2],rowA 44 (rI3 .i64) u5_1 u5_2 (x.2.2.1),rowA 42 (rI3 .i64) u2_1 u2_2 V,itA bZ it3 (fun z:Int×Int=> .agg #[.int .i64 z.1,.int .i64 z.2]) (fun z:Option Addr×Nat×Nat=> .slice z.1 z.2.1 z.2.2) (fun z=>InK .i64 z.1∧InK .i64 z.2) rawZ vis,boxA b2 25 [.slice none 0 0,.slice none 0 0],boxA b1 25 [.slice pv nv cv,.slice pf nf cf]]) (fun x=>[slF (rI .i64) p21 c22 (Ms.sl F (Ms.pl ee)),rawF (rI .i64) rawZ (Ms.sides F),slF (rI3 .i64) pv cv V,slF (rI3 .i64) pf cf F]) (fun x:Nat×(List Bool)×(List Ms.V3)×(List Nat)×(Option Addr)×Nat=>(Ms.sl F (Ms.pl ee)).length - x.1) (0,K3,O4,q3,p5,c5) (show 0≤(Ms.sl F (Ms.pl ee)).length∧Ms.InI F i aa (O3.getD aa (0,0,0)) tt 0 (2*Ms.unk K2+qq.length) K3 O4 q3 from by exact ⟨Nat.zero_le _,hN3⟩) ((.c rfl (.e rfl (by first|rfl|(congr 1;omega)|simp_all) (.of rfl))):SubM _ _) (ho:=((.of [0,0,0,0,0,0,0,0,0] rfl):PickO _ _ _)) ((.of [0,1,2,3] rfl):SelR _ _ _) ?_
                rintro ⟨ss,K4,O5,q4,p6,c6⟩ hJ4
                replace hJ4:ss≤(Ms.sl F (Ms.pl ee)).length∧Ms.InI F i aa (O3.getD aa (0,0,0)) tt ss (2*Ms.unk K2+qq.length) K4 O5 q4:=hJ4
                try dsimp only
                obtain ⟨hs4,hN⟩:=hJ4
                have hkl4:=hN.or.kl
                have hol4:=hN.or.ol
                have hmu4:=hN.mu
                refine ze<|za<|r_pv rfl rfl (zG rfl rfl)<|zg<|zc<|ze<|zC rfl (fun h25=> ?_) (fun h25=> ?_)
                ·
                  obtain ⟨bb,hbb,hbn⟩:∃bb:Nat,(Ms.sl F (Ms.pl ee)).getD ss 0=(bb:Int)∧bb<nf:=by have h9:=Ms.sl_rng (F:=F) (k:=Ms.pl ee) (Ms.getD_mem 0 (show ss<(Ms.sl F (Ms.pl ee)).length by omega));exact ⟨((Ms.sl F (Ms.pl ee)).getD ss 0).toNat,by omega,by omega⟩
                  refine zu<|zc<|ze<|zq<|ze<|za<|zN (x0:=((Ms.sl F (Ms.pl ee)).getD ss 0)) 0 ss rfl Try.underlying50 sz3 rfl rfl rfl (by first|rfl|assumption|(simp;done)|omega) rfl rfl (gD (d:=0) (by omega)) (fun b26 o27 hok28=> ?_)
                  replace hok28:=zm.1 hok28
                  refine r_u rfl rfl (zA (j:=0) 0 ty3 rfl rfl rfl rfl)<|r_pv rfl rfl (zd rfl)<|zg<|zc<|ze<|ze ?_
                  have e29:(((Ms.sl F (Ms.pl ee)).getD ss 0):Int)=((bb:Nat):Int):=by exact hbb
                  rw [e29]
                  refine za<|r_pv rfl rfl (zb rfl)<|r_pv rfl rfl (zb rfl)<|r_pv rfl rfl (zU (j:=bb) Try.underlying106 sz4 rfl rfl rfl (by omega))<|r_vl rfl rfl (zqa 2 bb rfl ty4 rfl rfl (gD (d:=false) (by omega)) rfl) (fun _ hok30=> ?_)
                  refine zg<|zc<|zAa rfl (fun hkb=> ?_) (fun hkb=> ?_)
                  ·
                    refine zP<|zi<|zp<|zc<|za<|r_pv rfl rfl (zD (z:=(((ss+1):Nat):Int)) rfl rfl (w64 (by omega)))<|r_pv rfl rfl (zb rfl)<|zg<|zT ((ss+1),K4,O5,q4,p6,c6) (show (ss+1)≤(Ms.sl F (Ms.pl ee)).length∧Ms.InI F i aa (O3.getD aa (0,0,0)) tt (ss+1) (2*Ms.unk K2+qq.length) K4 O5 q4 from by exact ⟨by omega,hN.known (by rw [← hee2];exact hbb) hkb⟩) (by show _ - (ss+1)<_ - ss;omega) ((.of rfl):SubM _ _) (ho:=((.of [0,0,0,0,0,0,0,0,0] rfl):PickO _ _ _)) ((.of [1,2,3,4] rfl):SelR _ _ _)
                  ·
                    have hk9:¬K4.getD bb false=true:=by rw [hkb];decide
                    have hob:=hN.or.un bb (by omega) hk9
                    have hat:=hg.at (show bb<F.length by omega)
                    rw [← hob] at hat
                    refine zu<|zc<|ze<|za<|r_pv rfl rfl (zb rfl)<|r_pv rfl rfl (zb rfl)<|r_pv rfl rfl (zU (j:=bb) Try.underlying106 sz4 rfl rfl rfl (by omega))<|zCa 2 rfl rfl rfl (zka (j:=bb) (x0:=true) (γ0:=()) rfl rfl (by first|omega|(rw [List.length_map];omega)|(simp only [List.length_set];omega)|(simp;omega)) rfl rfl sz4 (fun _ _=>by trivial)) (fun _=>(.s (.s .z))) (fun _ _=> ?_)
                    refine zg<|zc<|ze<|ze<|zya (OW:=[]) (O:=[boxA b20 73 [.int .i64 (ee.1),.int .i64 (ee.2)],rowA 3 (rI .i64) p6 c6 (q4.map Ms.izz),rowA 4 rB (some ⟨b9,0,none⟩) nf (K4.set bb true),boxA u7_1 25 [.slice u2_1 (V.length) u2_2,.slice u5_1 (F.length) u5_2],rowA 44 (rI3 .i64) u5_1 u5_2 O5,rowA 42 (rI3 .i64) u2_1 u2_2 V,itA bZ it3 (fun z:Int×Int=> .agg #[.int .i64 z.1,.int .i64 z.2]) (fun z:Option Addr×Nat×Nat=> .slice z.1 z.2.1 z.2.2) (fun z=>InK .i64 z.1∧InK .i64 z.2) rawZ vis,boxA b2 25 [.slice none 0 0,.slice none 0 0],boxA b1 25 [.slice pv nv cv,.slice pf nf cf]]) 100000 mixed (.then (.then (.block (.then (.then (.block (.block (.then (.then (.block (.block (.then (.block (.block (.then (.then (.block (.then .ret)))))))))))))))))) (by kernel_rfl)<|d_pv 0 rfl rfl (by kernel_rfl) (by kernel_rfl) rfl rfl (zn Try.underlying25 rfl sz23 rfl rfl)<|d_u 1 rfl rfl (by kernel_rfl) (by kernel_rfl) rfl rfl (zf 3 ty23 rfl rfl rfl)<|d_pv 2 rfl rfl (by kernel_rfl) (by kernel_rfl) rfl rfl (zb rfl)<|d_u 3 rfl rfl (by kernel_rfl) (by kernel_rfl) rfl rfl (zIa 4 bb rfl Try.underlying23 sz44 rfl (by first|rfl|assumption|(simp;done)|omega) rfl rfl (by omega))<|d_vl 4 rfl rfl (by kernel_rfl) (by kernel_rfl) rfl rfl (zLa 4 bb rfl ty44 rfl rfl (gD (d:=(0,0,0)) (by omega))) (fun _ hok31=> ?_)
                    obtain ⟨hok31x,hok31y,hok31z⟩:=hok31
                    replace hok31x:=zm.1 hok31x
                    replace hok31y:=zm.1 hok31y
                    replace hok31z:=zm.1 hok31z
                    refine d_u 6 rfl rfl (by kernel_rfl) (by kernel_rfl) rfl rfl (zh 0 ty73 rfl rfl (.take (.take .nil)))<|zR 5 (by kernel_rfl) (zM rfl rfl rfl rfl (.c rfl .n) ce77 (zNc (ex:=(O5.getD bb (0,0,0)).1) (ey:=(O5.getD bb (0,0,0)).2.1) (ez:=(O5.getD bb (0,0,0)).2.2) (hex:=by first|rfl|assumption|omega) (hey:=by first|rfl|assumption|omega) (hez:=by first|rfl|assumption|omega)) (.n) ?_)
                    rintro ⟨p232,c233⟩ -
                    dsimp only [List.append_eq,List.nil_append,List.cons_append]
                    refine zR 7 (by kernel_rfl) (zDa rfl rfl rfl rfl (.c rfl (.c rfl .n)) ce76 (zxc (p:=p232) (n:=3) (cap:=c233) (l:=Ms.edges3 (((O5.getD bb (0,0,0)).1),((O5.getD bb (0,0,0)).2.1),((O5.getD bb (0,0,0)).2.2))) (ex:=ee.1) (ey:=ee.2) (hn:=by first|rfl|assumption|omega)) (.c (j:=0) rfl .n) ?_)
                    refine zwa (by kernel_rfl)<|zc<|zC rfl (fun hct=> ?_) (fun hct=> ?_)
                    ·
                      refine zib (.c (i:=4) rfl (.c (i:=0) rfl (.c (i:=0) rfl (.c (i:=0) rfl (.c (i:=0) rfl (.c (i:=0) rfl (.c (i:=0) rfl (.c (i:=0) rfl (.c (i:=0) rfl .n)))))))))<|zya (OW:=[rowA 44 (rI3 .i64) u5_1 u5_2 O5]) (O:=[boxA b20 73 [.int .i64 (ee.1),.int .i64 (ee.2)],rowA 3 (rI .i64) p6 c6 (q4.map Ms.izz),rowA 4 rB (some ⟨b9,0,none⟩) nf (K4.set bb true),boxA u7_1 25 [.slice u2_1 (V.length) u2_2,.slice u5_1 (F.length) u5_2],rowA 42 (rI3 .i64) u2_1 u2_2 V,itA bZ it3 (fun z:Int×Int=> .agg #[.int .i64 z.1,.int .i64 z.2]) (fun z:Option Addr×Nat×Nat=> .slice z.1 z.2.1 z.2.2) (fun z=>InK .i64 z.1∧InK .i64 z.2) rawZ vis,boxA b2 25 [.slice none 0 0,.slice none 0 0],boxA b1 25 [.slice pv nv cv,.slice pf nf cf]]) 10 mixed (.then (.block (.then (.then (.block (.block (.then (.then (.block (.block (.then (.block (.block (.then (.then (.block (.then .ret))))))))))))))))) (by kernel_rfl)<|d_pv 0 rfl rfl (by kernel_rfl) (by kernel_rfl) rfl rfl (zn Try.underlying25 rfl sz23 rfl rfl)<|d_uw 1 rfl rfl (by kernel_rfl) (by kernel_rfl) (by kernel_rfl) rfl rfl (zf 4 ty23 rfl rfl rfl)<|d_pv 2 rfl rfl (by kernel_rfl) (by kernel_rfl) rfl rfl (zb rfl)<|d_pv 3 rfl rfl (by kernel_rfl) (by kernel_rfl) rfl rfl (zn Try.underlying25 rfl sz23 rfl rfl)<|d_uw 4 rfl rfl (by kernel_rfl) (by kernel_rfl) (by kernel_rfl) rfl rfl (zf 4 ty23 rfl rfl rfl)<|d_pv 5 rfl rfl (by kernel_rfl) (by kernel_rfl) rfl rfl (zb rfl)<|d_uw 6 rfl rfl (by kernel_rfl) (by kernel_rfl) (by kernel_rfl) rfl rfl (zIa 0 bb rfl Try.underlying23 sz44 rfl (by first|rfl|assumption|(simp;done)|omega) rfl rfl (by omega))<|zFd 7 rfl rfl (by kernel_rfl) (by kernel_rfl) (by kernel_rfl) rfl rfl (zLa 0 bb rfl ty44 rfl rfl (gD (d:=(0,0,0)) (by omega))) (fun _ hok34=> ?_)
                      obtain ⟨hok34x,hok34y,hok34z⟩:=hok34
                      replace hok34x:=zm.1 hok34x
                      replace hok34y:=zm.1 hok34y
                      replace hok34z:=zm.1 hok34z
                      refine zR 8 (by kernel_rfl) (zDa rfl rfl rfl rfl (.c rfl .n) ce73 (znd (ex:=(O5.getD bb (0,0,0)).1) (ey:=(O5.getD bb (0,0,0)).2.1) (ez:=(O5.getD bb (0,0,0)).2.2)) (.n) ?_)
                      refine d_uw 9 rfl rfl (by kernel_rfl) (by kernel_rfl) (by kernel_rfl) rfl rfl (zIa 0 bb rfl Try.underlying23 sz44 rfl (by first|rfl|assumption|(simp;done)|omega) rfl rfl (by omega))<|zR 10 (by kernel_rfl) (zpb (A':=fun _=>rowA 44 (rI3 .i64) u5_1 u5_2 (O5.set bb (((O5.getD bb (0,0,0)).1),((O5.getD bb (0,0,0)).2.2),((O5.getD bb (0,0,0)).2.1)))) (by kernel_rfl) rfl rfl rfl (zka (j:=bb) (x0:=(((O5.getD bb (0,0,0)).1),((O5.getD bb (0,0,0)).2.2),((O5.getD bb (0,0,0)).2.1))) (γ0:=()) rfl rfl (by first|omega|(rw [List.length_map];omega)|(simp only [List.length_set];omega)|(simp;omega)) rfl rfl sz44 (fun _ _=>by exact ⟨zm.2 (by first|omega|decide|(dsimp only;omega)),zm.2 (by first|omega|decide|(dsimp only;omega)),zm.2 (by first|omega|decide|(dsimp only;omega))⟩)) (fun _ _=> ?_))
                      refine zwa (by kernel_rfl)<|zc<|za<|r_pv rfl rfl (zb rfl)<|r_pv rfl rfl (zb rfl)<|zFa rfl rfl (zz (enc:=fun z:Int=>[.int .i64 z]) (ok:=InK .i64) (h1:=fun _=>rfl) (h2:=fun _=>rfl) (k:=1) Try.underlying50 inf3 rfl (by decide) (by decide) (by decide) (.c (x:=((bb:Nat):Int)) rfl rfl (fun _ _=>by exact zm.2 (by omega)) .n)) (fun b35 _=> ?_)
                      refine zxa 0 rfl .z<|zCa 3 rfl rfl rfl (zga 0 rfl Try.underlying50 inf3 (by decide) rfl rfl (by first|rfl|assumption|(simp;done)|omega) rfl (by first|rfl|assumption|(simp;done)|omega) (by omega) (by omega)) (fun _=>(.s (.s (.s .z)))) ?_
                      rintro ⟨p36,c37⟩ -
                      dsimp only [List.append_eq,List.nil_append,List.cons_append]
                      refine r_pv rfl rfl (zd rfl)<|zg<|zy<|zc<|za<|r_pv rfl rfl (zD (z:=(((ss+1):Nat):Int)) rfl rfl (w64 (by omega)))<|r_pv rfl rfl (zb rfl)<|zg<|zT ((ss+1),(K4.set bb true),(O5.set bb (((O5.getD bb (0,0,0)).1),((O5.getD bb (0,0,0)).2.2),((O5.getD bb (0,0,0)).2.1))),(q4++[bb]),p36,c37) (show (ss+1)≤(Ms.sl F (Ms.pl ee)).length∧Ms.InI F i aa (O3.getD aa (0,0,0)) tt (ss+1) (2*Ms.unk K2+qq.length) (K4.set bb true) (O5.set bb (((O5.getD bb (0,0,0)).1),((O5.getD bb (0,0,0)).2.2),((O5.getD bb (0,0,0)).2.1))) (q4++[bb]) from by exact ⟨by omega,hN.step hg.dg (by omega) (by rw [← hee2];omega) (by rw [← hee2];exact hbb) (by omega) hk9 (by rw [← hee2,if_pos (show ee∈Ms.edges3 (O5.getD bb (0,0,0)) from hct)];rfl)⟩) (by show _ - (ss+1)<_ - ss;omega) ((.e rfl (by simp) (.of rfl)):SubM _ _) (ho:=((.c (i:=2) rfl (.e (i:=2) rfl (by first|rfl|(dsimp only;rw [List.map_append];rfl)) (.of [2,2,1,1,1,1,1] rfl))):PickO _ _ _)) ((.of [3,4,5,6] rfl):SelR _ _ _)
                    ·
                      refine zu<|zc<|za<|r_pv rfl rfl (zb rfl)<|r_pv rfl rfl (zb rfl)<|zFa rfl rfl (zz (enc:=fun z:Int=>[.int .i64 z]) (ok:=InK .i64) (h1:=fun _=>rfl) (h2:=fun _=>rfl) (k:=1) Try.underlying50 inf3 rfl (by decide) (by decide) (by decide) (.c (x:=((bb:Nat):Int)) rfl rfl (fun _ _=>by exact zm.2 (by omega)) .n)) (fun b38 _=> ?_)
                      refine zxa 0 rfl .z<|zCa 2 rfl rfl rfl (zga 0 rfl Try.underlying50 inf3 (by decide) rfl rfl (by first|rfl|assumption|(simp;done)|omega) rfl (by first|rfl|assumption|(simp;done)|omega) (by omega) (by omega)) (fun _=>(.s (.s .z))) ?_
                      rintro ⟨p39,c40⟩ -
                      dsimp only [List.append_eq,List.nil_append,List.cons_append]
                      refine r_pv rfl rfl (zd rfl)<|zg<|zy<|zc<|za<|r_pv rfl rfl (zD (z:=(((ss+1):Nat):Int)) rfl rfl (w64 (by omega)))<|r_pv rfl rfl (zb rfl)<|zg<|zT ((ss+1),(K4.set bb true),O5,(q4++[bb]),p39,c40) (show (ss+1)≤(Ms.sl F (Ms.pl ee)).length∧Ms.InI F i aa (O3.getD aa (0,0,0)) tt (ss+1) (2*Ms.unk K2+qq.length) (K4.set bb true) O5 (q4++[bb]) from by exact ⟨by omega,hN.kept hg.dg (by omega) (by rw [← hee2];omega) (by rw [← hee2];exact hbb) (by omega) hk9 (by rw [← hee2];exact hct)⟩) (by show _ - (ss+1)<_ - ss;omega) ((.e rfl (by simp) (.of rfl)):SubM _ _) (ho:=((.c (i:=1) rfl (.e (i:=1) rfl (by first|rfl|(dsimp only;rw [List.map_append];rfl)) (.of [1,1,1,1,1,1,1] rfl))):PickO _ _ _)) ((.of [3,4,5,6] rfl):SelR _ _ _)
                ·
                  refine zP<|zi<|zi<|zp<|zy<|zc<|za<|r_pv rfl rfl (zD (z:=(((tt+1):Nat):Int)) rfl rfl (w64 (by omega)))<|r_pv rfl rfl (zb rfl)<|zg<|zT ((tt+1),K4,O5,q4,p6,c6) (show (tt+1)≤3∧Ms.InI F i aa (O3.getD aa (0,0,0)) (tt+1) 0 (2*Ms.unk K2+qq.length) K4 O5 q4 from by exact ⟨by omega,hN.edge (by rw [← hee2];omega)⟩) (by show 3 - (tt+1)<3 - tt;omega) ((.of rfl):SubM _ _) (ho:=((.of [1,1,1,1,1,1,1,1] rfl):PickO _ _ _)) ((.of [1,2,3] rfl):SelR _ _ _)
              ·
                refine zP<|zi<|zi<|zp<|zy<|zT (K3,O4,q3,p5,c5) (show Ms.OrI F K3 O4∧Ms.QuI F K3 q3∧(∀j,j<i+1→K3.getD j false=true)∧2*Ms.unk K3+q3.length≤2*nf+1 from by have ht3:tt=3:=(by omega);subst ht3;exact ⟨hN3.or,hN3.fin hg.dg,hN3.lo,by have:=hN3.mu;simp only [List.length_cons] at hmu2;omega⟩) (by have:=hN3.mu;simp only [List.length_cons];omega) ((.of rfl):SubM _ _) (ho:=((.of [0,0,0,0,0,0,0,0] rfl):PickO _ _ _)) ((.of [0,1,2] rfl):SelR _ _ _)
            ·
              refine zP<|zi<|zi<|zp<|zy<|zc<|za<|r_pv rfl rfl (zD (z:=(((i+1):Nat):Int)) rfl rfl (w64 (by omega)))<|r_pv rfl rfl (zb rfl)<|zg<|zT ((i+1),K2,O3) (show (i+1)≤nf∧Ms.OrI F K2 O3∧Ms.Clo F K2∧∀j,j<(i+1)→K2.getD j false=true from by exact ⟨by omega,hOr2,(by have h9:q=[]:=(by cases q with|nil=>rfl|cons a t=>simp at hso);subst h9;exact hQ.clo),hlo2⟩) (by show nf - (i+1)<nf - i;omega) ((.of rfl):SubM _ _) (ho:=((.of [1,1,1,1,1,1,1] rfl):PickO _ _ _)) ((.of [0,1,2] rfl):SelR _ _ _)
        ·
          refine zP<|zi<|zi<|zp<|zc<|ze<|ze<|za<|r_u rfl rfl (zh 1 ty25 rfl rfl (.take (.take .nil)))<|zxa 3 rfl (.s (.s (.s .z)))<|zxa 2 rfl (.s (.s .z))<|zW rfl rfl (.c rfl .n) ce14 (znb (pv:=u2_1) (nv:=V.length) (cv:=u2_2) (V:=V) (pf:=u5_1) (nf:=F.length) (cf:=u5_2) (F:=O2) (hnv:=by first|rfl|assumption|omega) (hnf:=by first|rfl|assumption|omega)) (.c (j:=1) rfl (.c (j:=0) rfl .n))<|r_pv rfl rfl (zPa rfl rfl)<|zg<|zc<|zC rfl (fun hchk=> ?_) (fun hchk=> ?_)
          ·
            refine ze<|za<|r_pv rfl rfl (zI zr25 rfl Try.underlying25 (.c sz22 (.c sz23 .n)) .n .n)<|zt 5 rfl rfl rfl rfl rfl sz25 rfl (.take (.take .nil)) (.s (.s (.s (.s (.s .z)))))<|r_pv rfl rfl (zd rfl)<|zg<|zc<|zJ<|zj ?_
            have hfu:Ms.OrF F O2:=⟨K,hOr,fun j hj=>hlo j (by omega)⟩
            refine zab (rI3 .i64)<|zab (rI3 .i64) ?_
            exact zdb Try.results38 (none,0,[],none,0,[],11) (⟨fun h=>absurd hf0 h,fun _=>Ms.OriR.bad hnd hfu hchk⟩) (zK 5 ty25 rfl rfl (.take (.take .nil))) (zw rfl) rfl (ho:=(.n:PickO _ _ _)) ((.of [0,0] rfl):SelR _ _ _)
          ·
            refine zu<|zc<|ze<|za<|r_u rfl rfl (zh 1 ty25 rfl rfl (.take (.take .nil)))<|zt 5 rfl rfl rfl rfl rfl sz25 rfl (.take (.take .nil)) (.s (.s (.s (.s (.s .z)))))<|r_pv rfl rfl (zd rfl)<|zg<|zc<|zJ ?_
            have hfu:Ms.OrF F O2:=⟨K,hOr,fun j hj=>hlo j (by omega)⟩
            exact zdb Try.results38 (u2_1,u2_2,V,u5_1,u5_2,O2,0) (⟨fun h=>absurd hf0 h,fun _=>Ms.OriR.good hnd hfu (Decidable.not_not.1 hchk)⟩) (zK 5 ty25 rfl rfl (.take (.take .nil))) (zw rfl) (by simp only [hnv,hol,hnf,Nat.zero_add]) (ho:=(.n:PickO _ _ _)) ((.of [1,0] rfl):SelR _ _ _)
      refine zS (X:=Option Addr×Nat×Option Addr×Nat×Nat) (k':=1) (L':=(lb 9 255)) (fun (u2_1,u2_2,u5_1,u5_2,u7_1)=>([(8,.pointer (some ⟨u7_1,0,none⟩)),(41,.agg #[.slice u2_1 (V.length) u2_2,.slice u5_1 (F.length) u5_2]),(5,.map (some bZ)),(2,.pointer (some ⟨b2,0,none⟩)),(1,.pointer (some ⟨b1,0,none⟩))],[boxA u7_1 25 [.slice none 0 0,.slice none 0 0]],[rowA 44 (rI3 .i64) u5_1 u5_2 F,rowA 42 (rI3 .i64) u2_1 u2_2 V,itA bZ it3 (fun z:Int×Int=> .agg #[.int .i64 z.1,.int .i64 z.2]) (fun z:Option Addr×Nat×Nat=> .slice z.1 z.2.1 z.2.2) (fun z=>InK .i64 z.1∧InK .i64 z.2) rawZ vis,boxA b2 25 [.slice none 0 0,.slice none 0 0],boxA b1 25 [.slice pv nv cv,.slice pf nf cf]],[rawF (rI .i64) rawZ (Ms.sides F),slF (rI3 .i64) pv cv V,slF (rI3 .i64) pf cf F])) ?_ (fun hD1=> ?_)
      ·
        rintro ⟨u2_1,u2_2,u5_1,u5_2,u7_1⟩
        dsimp only
        refine zR 8 (by kernel_rfl) ?_
        ·
          refine zna (by kernel_rfl) rfl rfl rfl rfl rfl sz25 rfl (.take (.take .nil)) ?_
          exact zv (hD0 (u2_1,u2_2,u5_1,u5_2,u7_1)) (by kernel_rfl) ((.of rfl):SubM _ _) .rfl .rfl ((.of [0,1,2] rfl):SelR _ _ _)
      refine zS (X:=Option Addr×Nat×Option Addr×Nat) (k':=2) (L':=(lb 9 127)) (fun (u2_1,u2_2,u5_1,u5_2)=>([(41,.agg #[.slice u2_1 (V.length) u2_2,.slice u5_1 (F.length) u5_2]),(5,.map (some bZ)),(2,.pointer (some ⟨b2,0,none⟩)),(1,.pointer (some ⟨b1,0,none⟩))],[],[rowA 44 (rI3 .i64) u5_1 u5_2 F,rowA 42 (rI3 .i64) u2_1 u2_2 V,itA bZ it3 (fun z:Int×Int=> .agg #[.int .i64 z.1,.int .i64 z.2]) (fun z:Option Addr×Nat×Nat=> .slice z.1 z.2.1 z.2.2) (fun z=>InK .i64 z.1∧InK .i64 z.2) rawZ vis,boxA b2 25 [.slice none 0 0,.slice none 0 0],boxA b1 25 [.slice pv nv cv,.slice pf nf cf]],[rawF (rI .i64) rawZ (Ms.sides F),slF (rI3 .i64) pv cv V,slF (rI3 .i64) pf cf F])) ?_ (fun hD2=> ?_)
      ·
        rintro ⟨u2_1,u2_2,u5_1,u5_2⟩
        dsimp only
        refine zR 7 (by kernel_rfl) ?_
        ·
          refine zaa rfl rfl rfl rfl (zr zr25 rfl) (fun u7_1 _=> ?_)
          exact zv (hD1 (u2_1,u2_2,u5_1,u5_2,u7_1)) (by kernel_rfl) ((.of rfl):SubM _ _) .rfl .rfl ((.of [0,1,2] rfl):SelR _ _ _)
      refine zS (X:=Option Addr×Nat×Nat) (k':=3) (L':=(lb 9 159)) (fun (u2_1,u2_2,u7_1)=>([(8,.pointer (some ⟨u7_1,0,none⟩)),(37,.slice u2_1 (V.length) u2_2),(39,.slice pf nf cf),(5,.map (some bZ)),(2,.pointer (some ⟨b2,0,none⟩)),(1,.pointer (some ⟨b1,0,none⟩))],[boxA u7_1 25 [.slice none 0 0,.slice none 0 0]],[rowA 42 (rI3 .i64) u2_1 u2_2 V,itA bZ it3 (fun z:Int×Int=> .agg #[.int .i64 z.1,.int .i64 z.2]) (fun z:Option Addr×Nat×Nat=> .slice z.1 z.2.1 z.2.2) (fun z=>InK .i64 z.1∧InK .i64 z.2) rawZ vis,boxA b2 25 [.slice none 0 0,.slice none 0 0],boxA b1 25 [.slice pv nv cv,.slice pf nf cf]],[rawF (rI .i64) rawZ (Ms.sides F),slF (rI3 .i64) pv cv V,slF (rI3 .i64) pf cf F])) ?_ (fun hD3=> ?_)
      ·
        rintro ⟨u2_1,u2_2,u7_1⟩
        dsimp only
        refine zR 5 (by kernel_rfl) ?_
        ·
          refine zM rfl rfl rfl rfl (.c rfl .n) ce68 (znc (p:=pf) (n:=nf) (cap:=cf) (l:=F) (hn:=by assumption) (hb:=by first|rfl|assumption|omega)) (.c (j:=2) rfl .n) ?_
          rintro ⟨u5_1,u5_2⟩ -
          dsimp only [List.append_eq,List.nil_append,List.cons_append]
          refine d_pv 6 rfl rfl (by kernel_rfl) (by kernel_rfl) rfl rfl (zI zr25 rfl Try.underlying25 (.c sz22 (.c sz23 .n)) (.c rfl (.c rfl .n)) (.c rfl rfl rfl (.take .nil) (.c rfl rfl rfl (.skip (.take .nil)) .n))) ?_
          exact zv (hD1 (u2_1,u2_2,u5_1,u5_2,u7_1)) (by kernel_rfl) ((.of rfl):SubM _ _) .rfl .rfl ((.of [0,1,2] rfl):SelR _ _ _)
      refine zS (X:=Option Addr×Nat) (k':=4) (L':=(lb 9 31)) (fun (u2_1,u2_2)=>([(37,.slice u2_1 (V.length) u2_2),(39,.slice pf nf cf),(5,.map (some bZ)),(2,.pointer (some ⟨b2,0,none⟩)),(1,.pointer (some ⟨b1,0,none⟩))],[],[rowA 42 (rI3 .i64) u2_1 u2_2 V,itA bZ it3 (fun z:Int×Int=> .agg #[.int .i64 z.1,.int .i64 z.2]) (fun z:Option Addr×Nat×Nat=> .slice z.1 z.2.1 z.2.2) (fun z=>InK .i64 z.1∧InK .i64 z.2) rawZ vis,boxA b2 25 [.slice none 0 0,.slice none 0 0],boxA b1 25 [.slice pv nv cv,.slice pf nf cf]],[rawF (rI .i64) rawZ (Ms.sides F),slF (rI3 .i64) pv cv V,slF (rI3 .i64) pf cf F])) ?_ (fun hD4=> ?_)
      ·
        rintro ⟨u2_1,u2_2⟩
        dsimp only
        refine zcb 5 7 (by kernel_rfl) ?_ ?_
        ·
          refine zM rfl rfl rfl rfl (.c rfl .n) ce68 (znc (p:=pf) (n:=nf) (cap:=cf) (l:=F) (hn:=by assumption) (hb:=by first|rfl|assumption|omega)) (.c (j:=2) rfl .n) ?_
          rintro ⟨u5_1,u5_2⟩ -
          dsimp only [List.append_eq,List.nil_append,List.cons_append]
          refine d_pv 6 rfl rfl (by kernel_rfl) (by kernel_rfl) rfl rfl (zI zr25 rfl Try.underlying25 (.c sz22 (.c sz23 .n)) (.c rfl (.c rfl .n)) (.c rfl rfl rfl (.take .nil) (.c rfl rfl rfl (.skip (.take .nil)) .n))) ?_
          exact zv (hD2 (u2_1,u2_2,u5_1,u5_2)) (by kernel_rfl) ((.of rfl):SubM _ _) .rfl .rfl ((.of [0,1,2] rfl):SelR _ _ _)
        ·
          refine zaa rfl rfl rfl rfl (zr zr25 rfl) (fun u7_1 _=> ?_)
          exact zv (hD3 (u2_1,u2_2,u7_1)) (by kernel_rfl) ((.of rfl):SubM _ _) .rfl .rfl ((.of [0,1,2] rfl):SelR _ _ _)
      refine zS (X:=Nat) (k':=4) (L':=(lb 9 155)) (fun u7_1=>([(8,.pointer (some ⟨u7_1,0,none⟩)),(39,.slice pf nf cf),(36,.slice pv nv cv),(5,.map (some bZ)),(2,.pointer (some ⟨b2,0,none⟩)),(1,.pointer (some ⟨b1,0,none⟩))],[boxA u7_1 25 [.slice none 0 0,.slice none 0 0]],[itA bZ it3 (fun z:Int×Int=> .agg #[.int .i64 z.1,.int .i64 z.2]) (fun z:Option Addr×Nat×Nat=> .slice z.1 z.2.1 z.2.2) (fun z=>InK .i64 z.1∧InK .i64 z.2) rawZ vis,boxA b2 25 [.slice none 0 0,.slice none 0 0],boxA b1 25 [.slice pv nv cv,.slice pf nf cf]],[rawF (rI .i64) rawZ (Ms.sides F),slF (rI3 .i64) pv cv V,slF (rI3 .i64) pf cf F])) ?_ (fun hD5=> ?_)
      ·
        rintro u7_1
        dsimp only
        refine zR 2 (by kernel_rfl) ?_
        ·
          refine zM rfl rfl rfl rfl (.c rfl .n) ce67 (zmc (p:=pv) (n:=nv) (cap:=cv) (l:=V) (hn:=by assumption) (hb:=by first|rfl|assumption|omega)) (.c (j:=1) rfl .n) ?_
          rintro ⟨u2_1,u2_2⟩ -
          dsimp only [List.append_eq,List.nil_append,List.cons_append]
          exact zv (hD3 (u2_1,u2_2,u7_1)) (by kernel_rfl) ((.of rfl):SubM _ _) .rfl .rfl ((.of [0,1,2] rfl):SelR _ _ _)
      refine zcb 2 7 (by kernel_rfl) ?_ ?_
      ·
        refine zM rfl rfl rfl rfl (.c rfl .n) ce67 (zmc (p:=pv) (n:=nv) (cap:=cv) (l:=V) (hn:=by assumption) (hb:=by first|rfl|assumption|omega)) (.c (j:=1) rfl .n) ?_
        rintro ⟨u2_1,u2_2⟩ -
        dsimp only [List.append_eq,List.nil_append,List.cons_append]
        exact zv (hD4 (u2_1,u2_2)) (by kernel_rfl) ((.of rfl):SubM _ _) .rfl .rfl ((.of [0,1,2] rfl):SelR _ _ _)
      ·
        refine zaa rfl rfl rfl rfl (zr zr25 rfl) (fun u7_1 _=> ?_)
        exact zv (hD5 u7_1) (by kernel_rfl) ((.of rfl):SubM _ _) .rfl .rfl ((.of [0,1,2] rfl):SelR _ _ _)
end Go.Proofs.Ytalfgjpbbongcaa.Sp
namespace Go.Proofs.Ytalfgjpbbongcaa.Sp
open Go
set_option linter.unusedVariables false
set_option maxRecDepth 100000
set_option maxHeartbeats 1000000
theorem zOc {pv:Option Addr} {nv:Nat} {cv:Nat} {V:List (Int×Int×Int)} {pf:Option Addr} {nf:Nat} {cf:Nat} {F:List (Int×Int×Int)} (hnv:V.length=nv) (hnf:F.length=nf) (hg:Ms.Good V F):Con Try.prog 39 [.agg #[.slice pv nv cv,.slice pf nf cf]] [] [slF (rI3 .i64) pv cv V,slF (rI3 .i64) pf cf F] (Y:=(Option Addr)×Nat×(List Ms.V3)×(Option Addr)×Nat×(List Ms.V3)×Int) (fun y=>Ms.OriR V F y.2.2.2.2.2.2 y.2.2.1 y.2.2.2.2.2.1) (fun y=> .tuple #[.agg #[.slice (y.1) (y.2.2.1.length) (y.2.1),.slice (y.2.2.2.1) (y.2.2.2.2.2.1.length) (y.2.2.2.2.1)],.int .i64 (y.2.2.2.2.2.2)]) (fun y=>[]) (fun y=>[slF (rI3 .i64) (y.1) (y.2.1) (y.2.2.1),slF (rI3 .i64) (y.2.2.2.1) (y.2.2.2.2.1) (y.2.2.2.2.2.1)]):=by
 refine zx Try.func39 rfl rfl rfl (fun c=> ?_)
 show RunC _ _ _ _ _ [(0,.agg #[.slice pv nv cv,.slice pf nf cf])] [] [slF (rI3 .i64) pv cv V,slF (rI3 .i64) pf cf F]
 refine zba 0 rfl (fun hL0=> ?_)
 refine zba 1 rfl (fun hL1=> ?_)
 have hnv5:nv≤512:=by have:=hg.nv;omega
 have hnf5:nf≤1024:=by have:=hg.nf;omega
 have hln:=Ms.all_len F
 refine ze<|za<|zO rfl rfl (zfa rfl rfl) (fun b1=> ?_)
 refine zO rfl rfl (zr zr25 rfl) (fun b2=> ?_)
 refine r_pv rfl rfl (zd rfl)<|zg<|zc<|ze<|za<|r_u rfl rfl (zh 1 ty25 rfl rfl (.take (.take .nil)))<|zea rfl rfl (.c rfl .n) ce50 (zde (pv:=pv) (nv:=nv) (cv:=cv) (V:=V) (pf:=pf) (nf:=nf) (cf:=cf) (F:=F) (hnv:=by assumption) (hnf:=by assumption) (hbf:=by first|rfl|assumption|omega)) (.c (j:=0) rfl (.c (j:=1) rfl .n)) ?_
 rintro ⟨p23,c24⟩ -
 dsimp only [List.append_eq,List.nil_append,List.cons_append]
 refine r_pv rfl rfl (zd rfl)<|zg<|zc<|ze<|ze<|za<|r_pv rfl rfl (zb rfl)<|r_pv rfl rfl (zL Try.underlying80 rfl)<|r_pv rfl rfl (zb rfl)<|zg<|zc<|zq<|zda (X:=Nat) (fun x:Nat=>x≤(Ms.all F).length∧∀j,j<x→(Ms.count (Ms.all F) ((Ms.all F).getD j (0,0))+Ms.count (Ms.all F) (((Ms.all F).getD j (0,0)).2,((Ms.all F).getD j (0,0)).1))≤2) (fun x=>[(20,.int .i64 ((x:Nat):Int)),(19,.int .i64 (((Ms.all F).length:Nat):Int)),(18,.slice p23 ((Ms.all F).length) c24),(4,.slice p23 ((Ms.all F).length) c24),(2,.pointer (some ⟨b2,0,none⟩)),(1,.pointer (some ⟨b1,0,none⟩))]) (fun x=>[boxA b2 25 [.slice none 0 0,.slice none 0 0],boxA b1 25 [.slice pv nv cv,.slice pf nf cf]]) (fun x=>[slF (rI2 .i64) p23 c24 (Ms.all F),slF (rI3 .i64) pv cv V,slF (rI3 .i64) pf cf F]) (fun x:Nat=>(Ms.all F).length - x) 0 (show 0≤(Ms.all F).length∧∀j,j<0→(Ms.count (Ms.all F) ((Ms.all F).getD j (0,0))+Ms.count (Ms.all F) (((Ms.all F).getD j (0,0)).2,((Ms.all F).getD j (0,0)).1))≤2 from by exact ⟨Nat.zero_le _,fun j h=>by omega⟩) ((.e rfl (by first|rfl|(congr 1;omega)|simp_all) (.of rfl)):SubM _ _) (ho:=((.of [0,0] rfl):PickO _ _ _)) ((.of [0,1,2] rfl):SelR _ _ _) ?_
 rintro i hI
 replace hI:i≤(Ms.all F).length∧∀j,j<i→(Ms.count (Ms.all F) ((Ms.all F).getD j (0,0))+Ms.count (Ms.all F) (((Ms.all F).getD j (0,0)).2,((Ms.all F).getD j (0,0)).1))≤2:=hI
 try dsimp only
 obtain ⟨hi,hle⟩:=hI
 refine ze<|za<|r_pv rfl rfl (zG rfl rfl)<|zg<|zc<|ze<|zC rfl (fun h5=> ?_) (fun h5=> ?_)
 ·
  have hcl1:=Ms.count_le (Ms.all F) (((Ms.all F).getD i (0,0)).1,((Ms.all F).getD i (0,0)).2)
  have hcl2:=Ms.count_le (Ms.all F) (((Ms.all F).getD i (0,0)).2,((Ms.all F).getD i (0,0)).1)
  refine zu<|zc<|ze<|zq<|ze<|za<|zN (x0:=((Ms.all F).getD i (0,0))) 0 i rfl Try.underlying80 sz72 rfl rfl rfl (by first|rfl|assumption|(simp;done)|omega) rfl rfl (gD (d:=(0,0)) (by omega)) (fun b6 o7 hok8=> ?_)
  obtain ⟨hok8x,hok8y⟩:=hok8
  replace hok8x:=zm.1 hok8x
  replace hok8y:=zm.1 hok8y
  refine r_u rfl rfl (zE (j:=0) 0 ty72 rfl rfl rfl (.take (.take .nil)))<|zO rfl rfl (zr zr72 rfl) (fun b9=> ?_)
  refine zt 0 rfl rfl rfl rfl rfl sz72 rfl (.take (.take .nil)) .z<|zg<|zc<|ze<|zya (OW:=[]) (O:=[boxA b9 72 [.int .i64 (((Ms.all F).getD i (0,0)).1),.int .i64 (((Ms.all F).getD i (0,0)).2)],boxA b2 25 [.slice none 0 0,.slice none 0 0],boxA b1 25 [.slice pv nv cv,.slice pf nf cf]]) 100000 mixed (.then (.block (.then (.then (.block (.then .ret)))))) (by kernel_rfl)<|d_pv 0 rfl rfl (by kernel_rfl) (by kernel_rfl) rfl rfl (zb rfl)<|d_u 1 rfl rfl (by kernel_rfl) (by kernel_rfl) rfl rfl (zh 0 ty72 rfl rfl (.take (.take .nil)))<|d_pv 3 rfl rfl (by kernel_rfl) (by kernel_rfl) rfl rfl (zb rfl)<|d_pv 4 rfl rfl (by kernel_rfl) (by kernel_rfl) rfl rfl (zk (i:=1) Try.underlying72 sz3 rfl rfl (by decide) rfl)<|d_u 5 rfl rfl (by kernel_rfl) (by kernel_rfl) rfl rfl (zf 0 ty3 rfl rfl rfl)<|d_pv 6 rfl rfl (by kernel_rfl) (by kernel_rfl) rfl rfl (zk (i:=0) Try.underlying72 sz3 rfl rfl (by decide) rfl)<|d_u 7 rfl rfl (by kernel_rfl) (by kernel_rfl) rfl rfl (zf 0 ty3 rfl rfl rfl)<|d_pv 8 rfl rfl (by kernel_rfl) (by kernel_rfl) rfl rfl (zQ zr72 rfl Try.underlying72 sz3 (.c rfl (.c rfl .n)) (.c rfl rfl rfl (.take .nil) (.c rfl rfl rfl (.skip (.take .nil)) .n)))<|zR 2 (by kernel_rfl) (zDa rfl rfl rfl rfl (.c rfl (.c rfl .n)) ce51 (zfc (p:=p23) (n:=(Ms.all F).length) (cap:=c24) (l:=Ms.all F) (ex:=((Ms.all F).getD i (0,0)).1) (ey:=((Ms.all F).getD i (0,0)).2) (hn:=by first|rfl|assumption|omega)) (.c (j:=1) rfl .n) ?_)
  refine zR 9 (by kernel_rfl) (zDa rfl rfl rfl rfl (.c rfl (.c rfl .n)) ce51 (zfc (p:=p23) (n:=(Ms.all F).length) (cap:=c24) (l:=Ms.all F) (ex:=((Ms.all F).getD i (0,0)).2) (ey:=((Ms.all F).getD i (0,0)).1) (hn:=by first|rfl|assumption|omega)) (.c (j:=1) rfl .n) ?_)
  refine d_pv 10 rfl rfl (by kernel_rfl) (by kernel_rfl) rfl rfl (zD (z:=((((Ms.count (Ms.all F) ((((Ms.all F).getD i (0,0)).1),(((Ms.all F).getD i (0,0)).2)))+(Ms.count (Ms.all F) ((((Ms.all F).getD i (0,0)).2),(((Ms.all F).getD i (0,0)).1)))):Nat):Int)) rfl rfl (w64 (by omega)))<|d_pv 11 rfl rfl (by kernel_rfl) (by kernel_rfl) rfl rfl (zQa rfl rfl)<|zwa (by kernel_rfl)<|zc<|zC rfl (fun hdp=> ?_) (fun hdp=> ?_)
  ·
   have hdp2:2<Ms.count (Ms.all F) (((Ms.all F).getD i (0,0)).1,((Ms.all F).getD i (0,0)).2)+Ms.count (Ms.all F) (((Ms.all F).getD i (0,0)).2,((Ms.all F).getD i (0,0)).1):=by omega
   refine ze<|za<|r_pv rfl rfl (zI zr25 rfl Try.underlying25 (.c sz22 (.c sz23 .n)) .n .n)<|zt 1 rfl rfl rfl rfl rfl sz25 rfl (.take (.take .nil)) (.s .z)<|r_pv rfl rfl (zd rfl)<|zg<|zc<|zJ<|zo<|zj<|zj<|zo<|zj<|zab (rI3 .i64)<|zab (rI3 .i64) ?_
   exact zdb Try.results39 (none,0,[],none,0,[],7) (Ms.OriR.dup ((Ms.dup_iff hg.dg).2 ⟨((Ms.all F).getD i (0,0)),Ms.getD_mem _ (by omega),hdp2⟩)) (zK 1 ty25 rfl rfl (.take (.take .nil))) (zw rfl) rfl (ho:=(.n:PickO _ _ _)) ((.of [0,0] rfl):SelR _ _ _)
  ·
   have hdp3:¬2<Ms.count (Ms.all F) (((Ms.all F).getD i (0,0)).1,((Ms.all F).getD i (0,0)).2)+Ms.count (Ms.all F) (((Ms.all F).getD i (0,0)).2,((Ms.all F).getD i (0,0)).1):=by omega
   refine zu<|zy<|zc<|za<|r_pv rfl rfl (zD (z:=(((i+1):Nat):Int)) rfl rfl (w64 (by omega)))<|r_pv rfl rfl (zb rfl)<|zg<|zT (i+1) (show (i+1)≤(Ms.all F).length∧∀j,j<(i+1)→(Ms.count (Ms.all F) ((Ms.all F).getD j (0,0))+Ms.count (Ms.all F) (((Ms.all F).getD j (0,0)).2,((Ms.all F).getD j (0,0)).1))≤2 from by exact ⟨by omega,fun j hj=>by by_cases e9:j=i;rw [e9];exact Nat.le_of_not_lt hdp3;exact hle j (by omega)⟩) (by show _ - (i+1)<_ - i;omega) ((.of rfl):SubM _ _) (ho:=((.of [1,1] rfl):PickO _ _ _)) ((.of [1,2,3] rfl):SelR _ _ _)
 ·
  refine zP<|zi<|zi<|zp<|zc<|ze ?_
  have hnd:¬Ms.dupE F:=fun h9=>by obtain ⟨e9,h8,h7⟩:=(Ms.dup_iff hg.dg).1 h9;obtain ⟨j,hj,h6⟩:=Ms.mem_getD2 h8;have:=hle j (by omega);rw [h6] at this;omega
  refine zya (OW:=[]) (O:=[boxA b2 25 [.slice none 0 0,.slice none 0 0],boxA b1 25 [.slice pv nv cv,.slice pf nf cf]]) 5 mixed (.then .ret) (by kernel_rfl)<|d_pv 0 rfl rfl (by kernel_rfl) (by kernel_rfl) rfl rfl (zn Try.underlying25 rfl sz22 rfl rfl)<|d_u 1 rfl rfl (by kernel_rfl) (by kernel_rfl) rfl rfl (zf 1 ty22 rfl rfl rfl)<|d_pv 3 rfl rfl (by kernel_rfl) (by kernel_rfl) rfl rfl (zn Try.underlying25 rfl sz23 rfl rfl)<|d_u 4 rfl rfl (by kernel_rfl) (by kernel_rfl) rfl rfl (zf 1 ty23 rfl rfl rfl)<|zbc (m':=[(42,.slice pf nf cf),(39,.slice pv nv cv),(2,.pointer (some ⟨b2,0,none⟩)),(1,.pointer (some ⟨b1,0,none⟩))]) (R':=[slF (rI2 .i64) p23 c24 (Ms.all F),slF (rI3 .i64) pv cv V,slF (rI3 .i64) pf cf F]) ((.of rfl):SubM _ _) (List.Perm.refl _) (List.Perm.refl _) ((.of [0,1,2] rfl):SelR _ _ _)<|zS (X:=Nat×Option Addr×Nat×Nat) (k':=0) (L':=(lb 9 511)) (fun (u2_1,u5_1,u5_2,u7_1)=>([(7,.pointer (some ⟨u7_1,0,none⟩)),(2,.pointer (some ⟨b2,0,none⟩)),(1,.pointer (some ⟨b1,0,none⟩))],[boxA u7_1 25 [.slice pv nv cv,.slice u5_1 (0+nf) u5_2],rowA 44 (rI3 .i64) u5_1 u5_2 (([])++F)],[boxA b2 25 [.slice none 0 0,.slice none 0 0],boxA b1 25 [.slice pv nv cv,.slice pf nf cf]],[slF (rI2 .i64) p23 c24 (Ms.all F),slF (rI3 .i64) pv cv V,slF (rI3 .i64) pf cf F])) ?_ (fun hD0=> ?_)
  ·
   rintro ⟨u2_1,u5_1,u5_2,u7_1⟩
   dsimp only
   refine zwa (by kernel_rfl)<|zc<|ze ?_
   have e10:[]++F=F:=by rfl
   rw [e10]
   refine za<|r_pv rfl rfl (zn Try.underlying25 rfl sz23 rfl rfl)<|r_u rfl rfl (zf 3 ty23 rfl rfl rfl)<|r_pv rfl rfl (zL Try.underlying23 rfl)<|zFa rfl rfl (zIb (r:=rB) (k:=nf) (x0:=false) (γ0:=()) Try.underlying106 inf4 rfl rfl rfl rfl (by omega) (by omega) rfl (fun _ _=>by trivial) (by decide)) (fun b11 _=> ?_)
   refine r_pv rfl rfl (zd rfl)<|zg<|zc<|ze<|ze<|za<|r_pv rfl rfl (zn Try.underlying25 rfl sz23 rfl rfl)<|r_u rfl rfl (zf 4 ty23 rfl rfl rfl)<|r_pv rfl rfl (zL Try.underlying23 rfl)<|r_pv rfl rfl (zb rfl)<|zg<|zc<|zq<|zda (X:=Nat×(List Bool)×(List Ms.V3)) (fun x:Nat×(List Bool)×(List Ms.V3)=>x.1≤nf∧Ms.OrI F x.2.1 x.2.2∧Ms.Clo F x.2.1∧∀j,j<x.1→x.2.1.getD j false=true) (fun x=>[(52,.int .i64 ((x.1:Nat):Int)),(51,.int .i64 ((nf:Nat):Int)),(8,.slice (some ⟨b11,0,none⟩) nf nf),(7,.pointer (some ⟨u7_1,0,none⟩)),(2,.pointer (some ⟨b2,0,none⟩)),(1,.pointer (some ⟨b1,0,none⟩))]) (fun x=>[rowA 4 rB (some ⟨b11,0,none⟩) nf (x.2.1),boxA u7_1 25 [.slice pv nv cv,.slice u5_1 (0+nf) u5_2],rowA 44 (rI3 .i64) u5_1 u5_2 (x.2.2),boxA b2 25 [.slice none 0 0,.slice none 0 0],boxA b1 25 [.slice pv nv cv,.slice pf nf cf]]) (fun x=>[slF (rI2 .i64) p23 c24 (Ms.all F),slF (rI3 .i64) pv cv V,slF (rI3 .i64) pf cf F]) (fun x:Nat×(List Bool)×(List Ms.V3)=>nf - x.1) (0,List.replicate nf false,F) (show 0≤nf∧Ms.OrI F (List.replicate nf false) F∧Ms.Clo F (List.replicate nf false)∧∀j,j<0→(List.replicate nf false).getD j false=true from by exact ⟨Nat.zero_le _,by rw [← hnf];exact Ms.OrI.start F,Ms.Clo.start F nf,fun j hj=>by omega⟩) ((.e rfl (by first|rfl|(congr 1;omega)|simp_all) (.of rfl)):SubM _ _) (ho:=((.c (i:=0) rfl (.c (i:=0) rfl (.e (i:=0) rfl (by first|rfl|(congr 1;omega)|simp_all) (.of [0,0] rfl)))):PickO _ _ _)) ((.of [0,1,2] rfl):SelR _ _ _) ?_
   rintro ⟨i,K,O2⟩ hI
   replace hI:i≤nf∧Ms.OrI F K O2∧Ms.Clo F K∧∀j,j<i→K.getD j false=true:=hI
   try dsimp only
   obtain ⟨hi,hOr,hCl,hlo⟩:=hI
   have hkl:=hOr.kl
   have hol:=hOr.ol
   refine ze<|za<|r_pv rfl rfl (zG rfl rfl)<|zg<|zc<|ze<|zC rfl (fun h12=> ?_) (fun h12=> ?_)
   ·
    refine zu<|zc<|ze<|zq<|ze<|za<|r_pv rfl rfl (zb rfl)<|r_pv rfl rfl (zd rfl)<|zg<|zc<|ze<|ze<|za<|r_pv rfl rfl (zb rfl)<|r_pv rfl rfl (zb rfl)<|r_pv rfl rfl (zU (j:=i) Try.underlying106 sz4 rfl rfl rfl (by omega))<|r_vl rfl rfl (zqa 0 i rfl ty4 rfl rfl (gD (d:=false) (by omega)) rfl) (fun _ hok13=> ?_)
    refine zg<|zc<|zAa rfl (fun hkn=> ?_) (fun hkn=> ?_)
    ·
     refine zP<|zi<|zp<|zc<|za<|r_pv rfl rfl (zD (z:=(((i+1):Nat):Int)) rfl rfl (w64 (by omega)))<|r_pv rfl rfl (zb rfl)<|zg<|zT ((i+1),K,O2) (show (i+1)≤nf∧Ms.OrI F K O2∧Ms.Clo F K∧∀j,j<(i+1)→K.getD j false=true from by exact ⟨by omega,hOr,hCl,fun j hj=>by by_cases e9:j=i;rw [e9];exact hkn;exact hlo j (by omega)⟩) (by show nf - (i+1)<nf - i;omega) ((.of rfl):SubM _ _) (ho:=((.of [0,0,0,0,0] rfl):PickO _ _ _)) ((.of [0,1,2] rfl):SelR _ _ _)
    ·
     refine zu<|zc<|ze<|za<|r_pv rfl rfl (zb rfl)<|r_pv rfl rfl (zb rfl)<|r_pv rfl rfl (zU (j:=i) Try.underlying106 sz4 rfl rfl rfl (by omega))<|zCa 0 rfl rfl rfl (zka (j:=i) (x0:=true) (γ0:=()) rfl rfl (by first|omega|(rw [List.length_map];omega)|(simp only [List.length_set];omega)|(simp;omega)) rfl rfl sz4 (fun _ _=>by trivial)) (fun _=> .z) (fun _ _=> ?_)
     refine zg<|zc<|ze<|za<|r_pv rfl rfl (zn Try.underlying25 rfl sz23 rfl rfl)<|r_u rfl rfl (zf 4 ty23 rfl rfl rfl)<|r_pv rfl rfl (zL Try.underlying23 rfl)<|r_pv rfl rfl (zb rfl)<|zg<|zc<|zq ?_
     have hk0:¬K.getD i false=true:=by rw [hkn];decide
     refine zda (X:=Nat×(List Bool)×(List Ms.V3)) (fun x:Nat×(List Bool)×(List Ms.V3)=>x.1≤nf∧Ms.OrI F x.2.1 x.2.2∧Ms.RdR F x.2.1 x.1∧∀j,j<i+1→x.2.1.getD j false=true) (fun x=>[(65,.int .i64 ((x.1:Nat):Int)),(64,.int .i64 ((nf:Nat):Int)),(52,.int .i64 ((i:Nat):Int)),(51,.int .i64 ((nf:Nat):Int)),(8,.slice (some ⟨b11,0,none⟩) nf nf),(7,.pointer (some ⟨u7_1,0,none⟩)),(2,.pointer (some ⟨b2,0,none⟩)),(1,.pointer (some ⟨b1,0,none⟩))]) (fun x=>[rowA 4 rB (some ⟨b11,0,none⟩) nf (x.2.1),boxA u7_1 25 [.slice pv nv cv,.slice u5_1 (0+nf) u5_2],rowA 44 (rI3 .i64) u5_1 u5_2 (x.2.2),boxA b2 25 [.slice none 0 0,.slice none 0 0],boxA b1 25 [.slice pv nv cv,.slice pf nf cf]]) (fun x=>[slF (rI2 .i64) p23 c24 (Ms.all F),slF (rI3 .i64) pv cv V,slF (rI3 .i64) pf cf F]) (fun x:Nat×(List Bool)×(List Ms.V3)=>nf - x.1) (0,(K.set i true),O2) (show 0≤nf∧Ms.OrI F (K.set i true) O2∧Ms.RdR F (K.set i true) 0∧∀j,j<i+1→(K.set i true).getD j false=true from by exact ⟨Nat.zero_le _,hOr.root hg.dg (by omega) hk0 hlo hCl,Ms.RdR.start (by omega) hk0,fun j hj=>by rw [Ms.getD_setK (by omega)];split;rfl;exact hlo j (by omega)⟩) ((.e rfl (by first|rfl|(congr 1;omega)|simp_all) (.of rfl)):SubM _ _) (ho:=((.of [0,0,0,0,0] rfl):PickO _ _ _)) ((.of [0,1,2] rfl):SelR _ _ _) ?_
     rintro ⟨r,K2,O3⟩ hJ
     replace hJ:r≤nf∧Ms.OrI F K2 O3∧Ms.RdR F K2 r∧∀j,j<i+1→K2.getD j false=true:=hJ
     try dsimp only
     obtain ⟨hr,hOr2,hRd,hlo2⟩:=hJ
     have hkl2:=hOr2.kl
     have hol2:=hOr2.ol
     refine ze<|za<|r_pv rfl rfl (zG rfl rfl)<|zg<|zc<|ze<|zC rfl (fun h14=> ?_) (fun h14=> ?_)
     ·
      refine zu<|zc<|ze<|zq<|ze<|za<|r_pv rfl rfl (zn Try.underlying25 rfl sz23 rfl rfl)<|r_u rfl rfl (zf 4 ty23 rfl rfl rfl)<|r_pv rfl rfl (zL Try.underlying23 rfl)<|r_pv rfl rfl (zb rfl)<|zg<|zc<|zq<|zda (X:=Nat×(List Bool)×(List Ms.V3)) (fun x:Nat×(List Bool)×(List Ms.V3)=>x.1≤nf∧Ms.OrI F x.2.1 x.2.2∧Ms.RnI F K2 x.2.1 x.1 0∧∀j,j<i+1→x.2.1.getD j false=true) (fun x=>[(70,.int .i64 ((x.1:Nat):Int)),(69,.int .i64 ((nf:Nat):Int)),(65,.int .i64 ((r:Nat):Int)),(64,.int .i64 ((nf:Nat):Int)),(52,.int .i64 ((i:Nat):Int)),(51,.int .i64 ((nf:Nat):Int)),(8,.slice (some ⟨b11,0,none⟩) nf nf),(7,.pointer (some ⟨u7_1,0,none⟩)),(2,.pointer (some ⟨b2,0,none⟩)),(1,.pointer (some ⟨b1,0,none⟩))]) (fun x=>[rowA 4 rB (some ⟨b11,0,none⟩) nf (x.2.1),boxA u7_1 25 [.slice pv nv cv,.slice u5_1 (0+nf) u5_2],rowA 44 (rI3 .i64) u5_1 u5_2 (x.2.2),boxA b2 25 [.slice none 0 0,.slice none 0 0],boxA b1 25 [.slice pv nv cv,.slice pf nf cf]]) (fun x=>[slF (rI2 .i64) p23 c24 (Ms.all F),slF (rI3 .i64) pv cv V,slF (rI3 .i64) pf cf F]) (fun x:Nat×(List Bool)×(List Ms.V3)=>nf - x.1) (0,K2,O3) (show 0≤nf∧Ms.OrI F K2 O3∧Ms.RnI F K2 K2 0 0∧∀j,j<i+1→K2.getD j false=true from by exact ⟨Nat.zero_le _,hOr2,Ms.RnI.start F K2,hlo2⟩) ((.e rfl (by first|rfl|(congr 1;omega)|simp_all) (.of rfl)):SubM _ _) (ho:=((.of [0,0,0,0,0] rfl):PickO _ _ _)) ((.of [0,1,2] rfl):SelR _ _ _) ?_
      rintro ⟨aa,K3,O4⟩ hJ2
      replace hJ2:aa≤nf∧Ms.OrI F K3 O4∧Ms.RnI F K2 K3 aa 0∧∀j,j<i+1→K3.getD j false=true:=hJ2
      try dsimp only
      obtain ⟨ha,hOr4,hRn,hlo4⟩:=hJ2
      have hkl4:=hOr4.kl
      have hol4:=hOr4.ol
      refine ze<|za<|r_pv rfl rfl (zG rfl rfl)<|zg<|zc<|ze<|zC rfl (fun h15=> ?_) (fun h15=> ?_)
      ·
       refine zu<|zc<|ze<|zq<|ze<|za<|r_pv rfl rfl (zb rfl)<|r_pv rfl rfl (zd rfl)<|zg<|zc<|ze<|za<|r_pv rfl rfl (zn Try.underlying25 rfl sz23 rfl rfl)<|r_u rfl rfl (zf 4 ty23 rfl rfl rfl)<|r_pv rfl rfl (zL Try.underlying23 rfl)<|r_pv rfl rfl (zb rfl)<|zg<|zc<|zq<|zda (X:=Nat×(List Bool)×(List Ms.V3)) (fun x:Nat×(List Bool)×(List Ms.V3)=>x.1≤nf∧Ms.OrI F x.2.1 x.2.2∧Ms.RnI F K2 x.2.1 aa x.1∧∀j,j<i+1→x.2.1.getD j false=true) (fun x=>[(76,.int .i64 ((x.1:Nat):Int)),(75,.int .i64 ((nf:Nat):Int)),(10,.int .i64 ((aa:Nat):Int)),(70,.int .i64 ((aa:Nat):Int)),(69,.int .i64 ((nf:Nat):Int)),(65,.int .i64 ((r:Nat):Int)),(64,.int .i64 ((nf:Nat):Int)),(52,.int .i64 ((i:Nat):Int)),(51,.int .i64 ((nf:Nat):Int)),(8,.slice (some ⟨b11,0,none⟩) nf nf),(7,.pointer (some ⟨u7_1,0,none⟩)),(2,.pointer (some ⟨b2,0,none⟩)),(1,.pointer (some ⟨b1,0,none⟩))]) (fun x=>[rowA 4 rB (some ⟨b11,0,none⟩) nf (x.2.1),boxA u7_1 25 [.slice pv nv cv,.slice u5_1 (0+nf) u5_2],rowA 44 (rI3 .i64) u5_1 u5_2 (x.2.2),boxA b2 25 [.slice none 0 0,.slice none 0 0],boxA b1 25 [.slice pv nv cv,.slice pf nf cf]]) (fun x=>[slF (rI2 .i64) p23 c24 (Ms.all F),slF (rI3 .i64) pv cv V,slF (rI3 .i64) pf cf F]) (fun x:Nat×(List Bool)×(List Ms.V3)=>nf - x.1) (0,K3,O4) (show 0≤nf∧Ms.OrI F K3 O4∧Ms.RnI F K2 K3 aa 0∧∀j,j<i+1→K3.getD j false=true from by exact ⟨Nat.zero_le _,hOr4,hRn,hlo4⟩) ((.e rfl (by first|rfl|(congr 1;omega)|simp_all) (.of rfl)):SubM _ _) (ho:=((.of [0,0,0,0,0] rfl):PickO _ _ _)) ((.of [0,1,2] rfl):SelR _ _ _) ?_
       rintro ⟨bb,K4,O5⟩ hJ3
       replace hJ3:bb≤nf∧Ms.OrI F K4 O5∧Ms.RnI F K2 K4 aa bb∧∀j,j<i+1→K4.getD j false=true:=hJ3
       try dsimp only
       obtain ⟨hb,hOr5,hRn5,hlo5⟩:=hJ3
       have hkl5:=hOr5.kl
       have hol5:=hOr5.ol
       refine ze<|za<|r_pv rfl rfl (zG rfl rfl)<|zg<|zc<|ze<|zC rfl (fun h16=> ?_) (fun h16=> ?_)
       ·
        refine zu<|zc<|ze<|zq<|ze<|za<|r_pv rfl rfl (zb rfl)<|r_pv rfl rfl (zd rfl)<|zg<|zc<|ze<|zOa (X:=Unit) (fun x=>True) (fun x=>[(103,.bool (decide (¬K4.getD aa false=true∨K4.getD bb false=true∨¬Ms.nearF F aa bb=true))),(11,.int .i64 ((bb:Nat):Int)),(76,.int .i64 ((bb:Nat):Int)),(75,.int .i64 ((nf:Nat):Int)),(10,.int .i64 ((aa:Nat):Int)),(70,.int .i64 ((aa:Nat):Int)),(69,.int .i64 ((nf:Nat):Int)),(65,.int .i64 ((r:Nat):Int)),(64,.int .i64 ((nf:Nat):Int)),(52,.int .i64 ((i:Nat):Int)),(51,.int .i64 ((nf:Nat):Int)),(8,.slice (some ⟨b11,0,none⟩) nf nf),(7,.pointer (some ⟨u7_1,0,none⟩)),(2,.pointer (some ⟨b2,0,none⟩)),(1,.pointer (some ⟨b1,0,none⟩))]) (fun x=>[rowA 4 rB (some ⟨b11,0,none⟩) nf K4,boxA u7_1 25 [.slice pv nv cv,.slice u5_1 (0+nf) u5_2],rowA 44 (rI3 .i64) u5_1 u5_2 O5,boxA b2 25 [.slice none 0 0,.slice none 0 0],boxA b1 25 [.slice pv nv cv,.slice pf nf cf]]) (fun x=>[slF (rI2 .i64) p23 c24 (Ms.all F),slF (rI3 .i64) pv cv V,slF (rI3 .i64) pf cf F]) ?_ ?_
        ·
         refine zya (OW:=[]) (O:=[rowA 4 rB (some ⟨b11,0,none⟩) nf K4,boxA u7_1 25 [.slice pv nv cv,.slice u5_1 (0+nf) u5_2],rowA 44 (rI3 .i64) u5_1 u5_2 O5,boxA b2 25 [.slice none 0 0,.slice none 0 0],boxA b1 25 [.slice pv nv cv,.slice pf nf cf]]) 100000 mixed (.then (.then (.block (.then (.then (.block (.block (.then (.then (.block (.block (.then (.then (.block (.block (.then (.then (.block (.then .ret))))))))))))))))))) (by kernel_rfl)<|d_pv 0 rfl rfl (by kernel_rfl) (by kernel_rfl) rfl rfl (zb rfl)<|d_pv 1 rfl rfl (by kernel_rfl) (by kernel_rfl) rfl rfl (zb rfl)<|d_pv 2 rfl rfl (by kernel_rfl) (by kernel_rfl) rfl rfl (zU (j:=aa) Try.underlying106 sz4 rfl rfl rfl (by omega))<|d_vl 3 rfl rfl (by kernel_rfl) (by kernel_rfl) rfl rfl (zqa 0 aa rfl ty4 rfl rfl (gD (d:=false) (by omega)) rfl) (fun _ hok17=> ?_)
         refine d_pv 4 rfl rfl (by kernel_rfl) (by kernel_rfl) rfl rfl (zqb rfl)<|zye 5 rfl rfl (by kernel_rfl) (by kernel_rfl) rfl rfl (zb rfl) (fun hs0=> ?_) (fun hs0=> ?_)
         ·
          refine zEa 6 rfl rfl (by kernel_rfl) (by kernel_rfl) rfl rfl<|zEa 7 rfl rfl (by kernel_rfl) (by kernel_rfl) rfl rfl<|zEa 8 rfl rfl (by kernel_rfl) (by kernel_rfl) rfl rfl<|zEa 9 rfl rfl (by kernel_rfl) (by kernel_rfl) rfl rfl<|d_pv 10 rfl rfl (by kernel_rfl) (by kernel_rfl) rfl rfl (zH rfl rfl)<|d_pv 11 rfl rfl (by kernel_rfl) (by kernel_rfl) rfl rfl (zb rfl)<|zEa 12 rfl rfl (by kernel_rfl) (by kernel_rfl) rfl rfl<|zEa 13 rfl rfl (by kernel_rfl) (by kernel_rfl) rfl rfl<|zEa 14 rfl rfl (by kernel_rfl) (by kernel_rfl) rfl rfl<|zEa 15 rfl rfl (by kernel_rfl) (by kernel_rfl) rfl rfl<|zEa 16 rfl rfl (by kernel_rfl) (by kernel_rfl) rfl rfl<|zEa 17 rfl rfl (by kernel_rfl) (by kernel_rfl) rfl rfl<|zEa 18 rfl rfl (by kernel_rfl) (by kernel_rfl) rfl rfl<|zEa 19 rfl rfl (by kernel_rfl) (by kernel_rfl) rfl rfl<|zEa 20 rfl rfl (by kernel_rfl) (by kernel_rfl) rfl rfl<|zEa 21 rfl rfl (by kernel_rfl) (by kernel_rfl) rfl rfl<|zEa 22 rfl rfl (by kernel_rfl) (by kernel_rfl) rfl rfl<|zEa 23 rfl rfl (by kernel_rfl) (by kernel_rfl) rfl rfl<|d_pv 24 rfl rfl (by kernel_rfl) (by kernel_rfl) rfl rfl (zH rfl rfl)<|zwa (by kernel_rfl) ?_
          exact zha () (show True from by first|trivial|omega|simp_all) ((.e rfl (congrArg Value.bool (by exact Eq.symm (decide_eq_true (.inl (by simpa using hs0))))) (.of rfl)):SubM _ _) (ho:=((.of [0,0,0,0,0] rfl):PickO _ _ _)) ((.of [0,1,2] rfl):SelR _ _ _)
         ·
          refine d_pv 6 rfl rfl (by kernel_rfl) (by kernel_rfl) rfl rfl (zb rfl)<|d_pv 7 rfl rfl (by kernel_rfl) (by kernel_rfl) rfl rfl (zb rfl)<|d_pv 8 rfl rfl (by kernel_rfl) (by kernel_rfl) rfl rfl (zU (j:=bb) Try.underlying106 sz4 rfl rfl rfl (by omega))<|d_vl 9 rfl rfl (by kernel_rfl) (by kernel_rfl) rfl rfl (zqa 0 bb rfl ty4 rfl rfl (gD (d:=false) (by omega)) rfl) (fun _ hok18=> ?_)
          refine d_pv 10 rfl rfl (by kernel_rfl) (by kernel_rfl) rfl rfl (zH rfl rfl)<|zye 11 rfl rfl (by kernel_rfl) (by kernel_rfl) rfl rfl (zb rfl) (fun hs1=> ?_) (fun hs1=> ?_)
          ·
           refine zEa 12 rfl rfl (by kernel_rfl) (by kernel_rfl) rfl rfl<|zEa 13 rfl rfl (by kernel_rfl) (by kernel_rfl) rfl rfl<|zEa 14 rfl rfl (by kernel_rfl) (by kernel_rfl) rfl rfl<|zEa 15 rfl rfl (by kernel_rfl) (by kernel_rfl) rfl rfl<|zEa 16 rfl rfl (by kernel_rfl) (by kernel_rfl) rfl rfl<|zEa 17 rfl rfl (by kernel_rfl) (by kernel_rfl) rfl rfl<|zEa 18 rfl rfl (by kernel_rfl) (by kernel_rfl) rfl rfl<|zEa 19 rfl rfl (by kernel_rfl) (by kernel_rfl) rfl rfl<|zEa 20 rfl rfl (by kernel_rfl) (by kernel_rfl) rfl rfl<|zEa 21 rfl rfl (by kernel_rfl) (by kernel_rfl) rfl rfl<|zEa 22 rfl rfl (by kernel_rfl) (by kernel_rfl) rfl rfl<|zEa 23 rfl rfl (by kernel_rfl) (by kernel_rfl) rfl rfl<|d_pv 24 rfl rfl (by kernel_rfl) (by kernel_rfl) rfl rfl (zH rfl rfl)<|zwa (by kernel_rfl) ?_
           exact zha () (show True from by first|trivial|omega|simp_all) ((.e rfl (congrArg Value.bool (by exact Eq.symm (decide_eq_true (.inr (.inl hs1))))) (.of rfl)):SubM _ _) (ho:=((.of [0,0,0,0,0] rfl):PickO _ _ _)) ((.of [0,1,2] rfl):SelR _ _ _)
          ·
           refine d_pv 12 rfl rfl (by kernel_rfl) (by kernel_rfl) rfl rfl (zn Try.underlying25 rfl sz23 rfl rfl)<|d_u 13 rfl rfl (by kernel_rfl) (by kernel_rfl) rfl rfl (zf 4 ty23 rfl rfl rfl)<|d_pv 14 rfl rfl (by kernel_rfl) (by kernel_rfl) rfl rfl (zb rfl)<|zpa (x0:=(F.getD aa (0,0,0))) 15 rfl rfl (by kernel_rfl) (by kernel_rfl) 2 aa rfl Try.underlying23 sz44 rfl rfl rfl (by first|rfl|assumption|(simp;done)|omega) rfl rfl (gD (d:=(0,0,0)) (by omega)) (fun b19 o20 hok21=> ?_)
           obtain ⟨hok21x,hok21y,hok21z⟩:=hok21
           replace hok21x:=zm.1 hok21x
           replace hok21y:=zm.1 hok21y
           replace hok21z:=zm.1 hok21z
           refine d_u 16 rfl rfl (by kernel_rfl) (by kernel_rfl) rfl rfl (zE (j:=0) 0 ty44 rfl rfl rfl (.take (.take (.take .nil))))<|d_pv 17 rfl rfl (by kernel_rfl) (by kernel_rfl) rfl rfl (zn Try.underlying25 rfl sz23 rfl rfl)<|d_u 18 rfl rfl (by kernel_rfl) (by kernel_rfl) rfl rfl (zf 4 ty23 rfl rfl rfl)<|d_pv 19 rfl rfl (by kernel_rfl) (by kernel_rfl) rfl rfl (zb rfl)<|zpa (x0:=(F.getD bb (0,0,0))) 20 rfl rfl (by kernel_rfl) (by kernel_rfl) 3 bb rfl Try.underlying23 sz44 rfl rfl rfl (by first|rfl|assumption|(simp;done)|omega) rfl rfl (gD (d:=(0,0,0)) (by omega)) (fun b22 o23 hok24=> ?_)
           obtain ⟨hok24x,hok24y,hok24z⟩:=hok24
           replace hok24x:=zm.1 hok24x
           replace hok24y:=zm.1 hok24y
           replace hok24z:=zm.1 hok24z
           refine d_u 21 rfl rfl (by kernel_rfl) (by kernel_rfl) rfl rfl (zE (j:=0) 0 ty44 rfl rfl rfl (.take (.take (.take .nil))))<|zR 22 (by kernel_rfl) (zDa rfl rfl rfl rfl (.c rfl (.c rfl .n)) ce55 (zoc (ex:=(F.getD aa (0,0,0)).1) (ey:=(F.getD aa (0,0,0)).2.1) (ez:=(F.getD aa (0,0,0)).2.2) (fx:=(F.getD bb (0,0,0)).1) (fy:=(F.getD bb (0,0,0)).2.1) (fz:=(F.getD bb (0,0,0)).2.2)) (.n) ?_)
           refine d_pv 23 rfl rfl (by kernel_rfl) (by kernel_rfl) rfl rfl (zG rfl rfl)<|d_pv 24 rfl rfl (by kernel_rfl) (by kernel_rfl) rfl rfl (zH rfl rfl)<|zwa (by kernel_rfl) ?_
           exact zha () (show True from by first|trivial|omega|simp_all) ((.e rfl (congrArg Value.bool (by (have h7:Ms.nearF F (aa:Int) (bb:Int)=true↔2≤Ms.common ((F.getD aa (0,0,0)).1,(F.getD aa (0,0,0)).2.1,(F.getD aa (0,0,0)).2.2) ((F.getD bb (0,0,0)).1,(F.getD bb (0,0,0)).2.1,(F.getD bb (0,0,0)).2.2):=by unfold Ms.nearF;simp only [Int.toNat_natCast,decide_eq_true_eq]);exact decide_eq_decide.2 ⟨fun h9=> .inr (.inr (fun h8=>by have:=h7.1 h8;omega)),fun h9=>by rcases h9 with h8|h8|h8;exact absurd (by simpa using hs0) h8;exact absurd h8 (by rw [hs1];decide);(have:=mt h7.2 h8);omega⟩)) (.of rfl)):SubM _ _) (ho:=((.of [0,0,0,0,0] rfl):PickO _ _ _)) ((.of [2,3,4] rfl):SelR _ _ _)
        ·
         rintro ⟨⟩ -
         try dsimp only
         refine zC rfl (fun hsk=> ?_) (fun hsk=> ?_)
         ·
          refine zP<|zi<|zp<|zc<|za<|r_pv rfl rfl (zD (z:=(((bb+1):Nat):Int)) rfl rfl (w64 (by omega)))<|r_pv rfl rfl (zb rfl)<|zg<|zT ((bb+1),K4,O5) (show (bb+1)≤nf∧Ms.OrI F K4 O5∧Ms.RnI F K2 K4 aa (bb+1)∧∀j,j<i+1→K4.getD j false=true from by exact ⟨by omega,hOr5,hRn5.skip hsk,hlo5⟩) (by show nf - (bb+1)<nf - bb;omega) ((.of rfl):SubM _ _) (ho:=((.of [0,0,0,0,0] rfl):PickO _ _ _)) ((.of [0,1,2] rfl):SelR _ _ _)
         ·
          have hsk9:K4.getD aa false=true∧¬K4.getD bb false=true∧Ms.nearF F aa bb=true:=by by_cases a1:K4.getD aa false=true;by_cases a2:K4.getD bb false=true;exact absurd (.inr (.inl a2)) hsk;by_cases a3:Ms.nearF F aa bb=true;exact ⟨a1,a2,a3⟩;exact absurd (.inr (.inr a3)) hsk;exact absurd (.inl a1) hsk
          have hub:=hOr5.un bb (by omega) hsk9.2.1
          have hat:=hg.at (show bb<F.length by omega)
          refine zu<|zc<|ze<|ze<|za<|r_pv rfl rfl (zn Try.underlying25 rfl sz23 rfl rfl)<|r_u rfl rfl (zf 1 ty23 rfl rfl rfl)<|r_pv rfl rfl (zb rfl)<|r_u rfl rfl (zIa 2 aa rfl Try.underlying23 sz44 rfl (by first|rfl|assumption|(simp;done)|omega) rfl rfl (by omega))<|r_vl rfl rfl (zLa 2 aa rfl ty44 rfl rfl (gD (d:=(0,0,0)) (by omega))) (fun _ hok25=> ?_)
          obtain ⟨hok25x,hok25y,hok25z⟩:=hok25
          replace hok25x:=zm.1 hok25x
          replace hok25y:=zm.1 hok25y
          replace hok25z:=zm.1 hok25z
          refine zW rfl rfl (.c rfl .n) ce78 (zKb (ex:=(O5.getD aa (0,0,0)).1) (ey:=(O5.getD aa (0,0,0)).2.1) (ez:=(O5.getD aa (0,0,0)).2.2)) (.n)<|r_pv rfl rfl (zb rfl)<|zg<|zc<|zq<|zda (X:=Nat×(List Ms.V3)) (fun x:Nat×(List Ms.V3)=>x.1≤3∧x.2=O5.set bb (Ms.trn (O5.getD aa (0,0,0)) (F.getD bb (0,0,0)) x.1)) (fun x=>[(110,.int .i64 ((x.1:Nat):Int)),(109,.agg #[.int .i64 ((O5.getD aa (0,0,0)).1),.int .i64 ((O5.getD aa (0,0,0)).2.1),.int .i64 ((O5.getD aa (0,0,0)).2.1),.int .i64 ((O5.getD aa (0,0,0)).2.2),.int .i64 ((O5.getD aa (0,0,0)).2.2),.int .i64 ((O5.getD aa (0,0,0)).1)]),(11,.int .i64 ((bb:Nat):Int)),(76,.int .i64 ((bb:Nat):Int)),(75,.int .i64 ((nf:Nat):Int)),(10,.int .i64 ((aa:Nat):Int)),(70,.int .i64 ((aa:Nat):Int)),(69,.int .i64 ((nf:Nat):Int)),(65,.int .i64 ((r:Nat):Int)),(64,.int .i64 ((nf:Nat):Int)),(52,.int .i64 ((i:Nat):Int)),(51,.int .i64 ((nf:Nat):Int)),(8,.slice (some ⟨b11,0,none⟩) nf nf),(7,.pointer (some ⟨u7_1,0,none⟩)),(2,.pointer (some ⟨b2,0,none⟩)),(1,.pointer (some ⟨b1,0,none⟩))]) (fun x=>[rowA 4 rB (some ⟨b11,0,none⟩) nf K4,boxA u7_1 25 [.slice pv nv cv,.slice u5_1 (0+nf) u5_2],rowA 44 (rI3 .i64) u5_1 u5_2 (x.2),boxA b2 25 [.slice none 0 0,.slice none 0 0],boxA b1 25 [.slice pv nv cv,.slice pf nf cf]]) (fun x=>[slF (rI2 .i64) p23 c24 (Ms.all F),slF (rI3 .i64) pv cv V,slF (rI3 .i64) pf cf F]) (fun x:Nat×(List Ms.V3)=>3 - x.1) (0,O5) (show 0≤3∧O5=O5.set bb (Ms.trn (O5.getD aa (0,0,0)) (F.getD bb (0,0,0)) 0) from by exact ⟨Nat.zero_le _,by rw [Ms.trn_zero,←hub];exact Ms.set_same.symm⟩) ((.e rfl (by first|rfl|(congr 1;omega)|simp_all) (.of rfl)):SubM _ _) (ho:=((.of [0,0,0,0,0] rfl):PickO _ _ _)) ((.of [0,1,2] rfl):SelR _ _ _) ?_
          rintro ⟨tt,O6⟩ hJ6
          replace hJ6:tt≤3∧O6=O5.set bb (Ms.trn (O5.getD aa (0,0,0)) (F.getD bb (0,0,0)) tt):=hJ6
          try dsimp only
          obtain ⟨ht,hO6⟩:=hJ6
          have hol6:O6.length=F.length:=by rw [hO6,List.length_set];exact hol5
          have hg6:O6.getD bb (0,0,0)=Ms.trn (O5.getD aa (0,0,0)) (F.getD bb (0,0,0)) tt:=by rw [hO6,Ms.getD_setF (by omega),if_pos rfl]
          refine ze<|za<|r_pv rfl rfl (zG rfl rfl)<|zg<|zc<|ze<|zC rfl (fun h26=> ?_) (fun h26=> ?_)
          ·
           refine zu<|zc<|ze<|zq<|ze<|za<|r_pv rfl rfl (ztb (i:=tt) Try.underlying112 ty72 rfl rfl (by omega))<|zO rfl rfl (zr zr72 rfl) (fun b27=> ?_)
           refine zt 0 rfl rfl rfl rfl rfl sz72 rfl (.take (.take .nil)) .z<|zg<|zc<|ze<|za<|r_pv rfl rfl (zn Try.underlying25 rfl sz23 rfl rfl)<|r_u rfl rfl (zf 2 ty23 rfl rfl rfl)<|r_pv rfl rfl (zb rfl)<|r_u rfl rfl (zIa 3 bb rfl Try.underlying23 sz44 rfl (by first|rfl|assumption|(simp;done)|omega) rfl rfl (by omega))<|r_vl rfl rfl (zLa 3 bb rfl ty44 rfl rfl (gD (d:=(0,0,0)) (by omega))) (fun _ hok28=> ?_)
           obtain ⟨hok28x,hok28y,hok28z⟩:=hok28
           replace hok28x:=zm.1 hok28x
           replace hok28y:=zm.1 hok28y
           replace hok28z:=zm.1 hok28z
           refine zW rfl rfl (.c rfl .n) ce78 (zKb (ex:=(O6.getD bb (0,0,0)).1) (ey:=(O6.getD bb (0,0,0)).2.1) (ez:=(O6.getD bb (0,0,0)).2.2)) (.n)<|r_pv rfl rfl (zb rfl)<|zg<|zc<|zq<|zda (X:=Nat×(List Ms.V3)) (fun x:Nat×(List Ms.V3)=>x.1≤3∧x.2=O5.set bb (Ms.tru (O5.getD aa (0,0,0)) (F.getD bb (0,0,0)) tt x.1)) (fun x=>[(119,.int .i64 ((x.1:Nat):Int)),(118,.agg #[.int .i64 ((O6.getD bb (0,0,0)).1),.int .i64 ((O6.getD bb (0,0,0)).2.1),.int .i64 ((O6.getD bb (0,0,0)).2.1),.int .i64 ((O6.getD bb (0,0,0)).2.2),.int .i64 ((O6.getD bb (0,0,0)).2.2),.int .i64 ((O6.getD bb (0,0,0)).1)]),(13,.pointer (some ⟨b27,0,none⟩)),(110,.int .i64 ((tt:Nat):Int)),(109,.agg #[.int .i64 ((O5.getD aa (0,0,0)).1),.int .i64 ((O5.getD aa (0,0,0)).2.1),.int .i64 ((O5.getD aa (0,0,0)).2.1),.int .i64 ((O5.getD aa (0,0,0)).2.2),.int .i64 ((O5.getD aa (0,0,0)).2.2),.int .i64 ((O5.getD aa (0,0,0)).1)]),(11,.int .i64 ((bb:Nat):Int)),(76,.int .i64 ((bb:Nat):Int)),(75,.int .i64 ((nf:Nat):Int)),(10,.int .i64 ((aa:Nat):Int)),(70,.int .i64 ((aa:Nat):Int)),(69,.int .i64 ((nf:Nat):Int)),(65,.int .i64 ((r:Nat):Int)),(64,.int .i64 ((nf:Nat):Int)),(52,.int .i64 ((i:Nat):Int)),(51,.int .i64 ((nf:Nat):Int)),(8,.slice (some ⟨b11,0,none⟩) nf nf),(7,.pointer (some ⟨u7_1,0,none⟩)),(2,.pointer (some ⟨b2,0,none⟩)),(1,.pointer (some ⟨b1,0,none⟩))]) (fun x=>[boxA b27 72 [.int .i64 ((([(((O5.getD aa (0,0,0)).1),((O5.getD aa (0,0,0)).2.1)),(((O5.getD aa (0,0,0)).2.1),((O5.getD aa (0,0,0)).2.2)),(((O5.getD aa (0,0,0)).2.2),((O5.getD aa (0,0,0)).1))]:List (Int×Int)).getD tt (0,0)).1),.int .i64 ((([(((O5.getD aa (0,0,0)).1),((O5.getD aa (0,0,0)).2.1)),(((O5.getD aa (0,0,0)).2.1),((O5.getD aa (0,0,0)).2.2)),(((O5.getD aa (0,0,0)).2.2),((O5.getD aa (0,0,0)).1))]:List (Int×Int)).getD tt (0,0)).2)],rowA 4 rB (some ⟨b11,0,none⟩) nf K4,boxA u7_1 25 [.slice pv nv cv,.slice u5_1 (0+nf) u5_2],rowA 44 (rI3 .i64) u5_1 u5_2 (x.2),boxA b2 25 [.slice none 0 0,.slice none 0 0],boxA b1 25 [.slice pv nv cv,.slice pf nf cf]]) (fun x=>[slF (rI2 .i64) p23 c24 (Ms.all F),slF (rI3 .i64) pv cv V,slF (rI3 .i64) pf cf F]) (fun x:Nat×(List Ms.V3)=>3 - x.1) (0,O6) (show 0≤3∧O6=O5.set bb (Ms.tru (O5.getD aa (0,0,0)) (F.getD bb (0,0,0)) tt 0) from by exact ⟨Nat.zero_le _,by rw [Ms.tru_zero];exact hO6⟩) ((.e rfl (by first|rfl|(congr 1;omega)|simp_all) (.of rfl)):SubM _ _) (ho:=((.of [0,0,0,0,0,0] rfl):PickO _ _ _)) ((.of [0,1,2] rfl):SelR _ _ _) ?_
           rintro ⟨s7,O7⟩ hJ7
           replace hJ7:s7≤3∧O7=O5.set bb (Ms.tru (O5.getD aa (0,0,0)) (F.getD bb (0,0,0)) tt s7):=hJ7
           try dsimp only
           obtain ⟨hs7,hO7⟩:=hJ7
           have hol7:O7.length=F.length:=by rw [hO7,List.length_set];exact hol5
           refine ze<|za<|r_pv rfl rfl (zG rfl rfl)<|zg<|zc<|ze<|zC rfl (fun h29=> ?_) (fun h29=> ?_)
           ·
            refine zu<|zc<|ze<|zq<|ze<|za<|r_pv rfl rfl (ztb (i:=s7) Try.underlying112 ty72 rfl rfl (by omega))<|zO rfl rfl (zr zr72 rfl) (fun b30=> ?_)
            refine zt 0 rfl rfl rfl rfl rfl sz72 rfl (.take (.take .nil)) .z<|zg<|zc<|ze<|za<|r_u rfl rfl (zh 1 ty72 rfl rfl (.take (.take .nil)))<|r_u rfl rfl (zh 0 ty72 rfl rfl (.take (.take .nil)))<|r_pv rfl rfl (zJb (p:=(([(((O5.getD aa (0,0,0)).1),((O5.getD aa (0,0,0)).2.1)),(((O5.getD aa (0,0,0)).2.1),((O5.getD aa (0,0,0)).2.2)),(((O5.getD aa (0,0,0)).2.2),((O5.getD aa (0,0,0)).1))]:List (Int×Int)).getD tt (0,0)).1=(([(((O6.getD bb (0,0,0)).1),((O6.getD bb (0,0,0)).2.1)),(((O6.getD bb (0,0,0)).2.1),((O6.getD bb (0,0,0)).2.2)),(((O6.getD bb (0,0,0)).2.2),((O6.getD bb (0,0,0)).1))]:List (Int×Int)).getD s7 (0,0)).1∧(([(((O5.getD aa (0,0,0)).1),((O5.getD aa (0,0,0)).2.1)),(((O5.getD aa (0,0,0)).2.1),((O5.getD aa (0,0,0)).2.2)),(((O5.getD aa (0,0,0)).2.2),((O5.getD aa (0,0,0)).1))]:List (Int×Int)).getD tt (0,0)).2=(([(((O6.getD bb (0,0,0)).1),((O6.getD bb (0,0,0)).2.1)),(((O6.getD bb (0,0,0)).2.1),((O6.getD bb (0,0,0)).2.2)),(((O6.getD bb (0,0,0)).2.2),((O6.getD bb (0,0,0)).1))]:List (Int×Int)).getD s7 (0,0)).2) (by kernel_rfl) rfl rfl (zDb Try.underlying72 sz3 (zob ty3 rfl rfl (zUa Try.underlying3) (zob ty3 rfl rfl (zUa Try.underlying3) ztc))) (by simp [Bool.decide_and]))<|zg<|zc<|zC rfl (fun heq=> ?_) (fun heq=> ?_)
            ·
             refine zib (.c (i:=4) rfl (.c (i:=0) rfl (.c (i:=0) rfl (.c (i:=0) rfl (.c (i:=0) rfl (.c (i:=0) rfl (.c (i:=0) rfl .n)))))))<|zya (OW:=[rowA 44 (rI3 .i64) u5_1 u5_2 O7]) (O:=[boxA b30 72 [.int .i64 ((([(((O6.getD bb (0,0,0)).1),((O6.getD bb (0,0,0)).2.1)),(((O6.getD bb (0,0,0)).2.1),((O6.getD bb (0,0,0)).2.2)),(((O6.getD bb (0,0,0)).2.2),((O6.getD bb (0,0,0)).1))]:List (Int×Int)).getD s7 (0,0)).1),.int .i64 ((([(((O6.getD bb (0,0,0)).1),((O6.getD bb (0,0,0)).2.1)),(((O6.getD bb (0,0,0)).2.1),((O6.getD bb (0,0,0)).2.2)),(((O6.getD bb (0,0,0)).2.2),((O6.getD bb (0,0,0)).1))]:List (Int×Int)).getD s7 (0,0)).2)],boxA b27 72 [.int .i64 ((([(((O5.getD aa (0,0,0)).1),((O5.getD aa (0,0,0)).2.1)),(((O5.getD aa (0,0,0)).2.1),((O5.getD aa (0,0,0)).2.2)),(((O5.getD aa (0,0,0)).2.2),((O5.getD aa (0,0,0)).1))]:List (Int×Int)).getD tt (0,0)).1),.int .i64 ((([(((O5.getD aa (0,0,0)).1),((O5.getD aa (0,0,0)).2.1)),(((O5.getD aa (0,0,0)).2.1),((O5.getD aa (0,0,0)).2.2)),(((O5.getD aa (0,0,0)).2.2),((O5.getD aa (0,0,0)).1))]:List (Int×Int)).getD tt (0,0)).2)],rowA 4 rB (some ⟨b11,0,none⟩) nf K4,boxA u7_1 25 [.slice pv nv cv,.slice u5_1 (0+nf) u5_2],boxA b2 25 [.slice none 0 0,.slice none 0 0],boxA b1 25 [.slice pv nv cv,.slice pf nf cf]]) 10 mixed (.block (.then (.then (.block (.block (.then (.then (.block (.then (.block (.then (.then (.block (.block (.then (.then (.block (.block (.then (.then (.block (.block (.then (.then (.block (.then .ret)))))))))))))))))))))))))) (by kernel_rfl)<|d_pv 0 rfl rfl (by kernel_rfl) (by kernel_rfl) rfl rfl (zn Try.underlying25 rfl sz23 rfl rfl)<|d_uw 1 rfl rfl (by kernel_rfl) (by kernel_rfl) (by kernel_rfl) rfl rfl (zf 4 ty23 rfl rfl rfl)<|d_pv 2 rfl rfl (by kernel_rfl) (by kernel_rfl) rfl rfl (zb rfl)<|d_pv 3 rfl rfl (by kernel_rfl) (by kernel_rfl) rfl rfl (zn Try.underlying25 rfl sz23 rfl rfl)<|d_uw 4 rfl rfl (by kernel_rfl) (by kernel_rfl) (by kernel_rfl) rfl rfl (zf 6 ty23 rfl rfl rfl)<|d_pv 5 rfl rfl (by kernel_rfl) (by kernel_rfl) rfl rfl (zb rfl)<|zpa (x0:=(F.getD bb (0,0,0))) 6 rfl rfl (by kernel_rfl) (by kernel_rfl) 2 bb rfl Try.underlying23 sz44 rfl rfl rfl (by first|rfl|assumption|(simp;done)|omega) rfl rfl (gD (d:=(0,0,0)) (by omega)) (fun b31 o32 hok33=> ?_)
             obtain ⟨hok33x,hok33y,hok33z⟩:=hok33
             replace hok33x:=zm.1 hok33x
             replace hok33y:=zm.1 hok33y
             replace hok33z:=zm.1 hok33z
             refine d_u 7 rfl rfl (by kernel_rfl) (by kernel_rfl) rfl rfl (zE (j:=0) 0 ty44 rfl rfl rfl (.take (.take (.take .nil))))<|zR 8 (by kernel_rfl) (zDa rfl rfl rfl rfl (.c rfl .n) ce74 (zYc (ex:=(F.getD bb (0,0,0)).1) (ey:=(F.getD bb (0,0,0)).2.1) (ez:=(F.getD bb (0,0,0)).2.2)) (.n) ?_)
             refine d_uw 9 rfl rfl (by kernel_rfl) (by kernel_rfl) (by kernel_rfl) rfl rfl (zIa 0 bb rfl Try.underlying23 sz44 rfl (by first|rfl|assumption|(simp;done)|omega) rfl rfl (by omega))<|zR 10 (by kernel_rfl) (zpb (A':=fun _=>rowA 44 (rI3 .i64) u5_1 u5_2 (O7.set bb (((F.getD bb (0,0,0)).1),((F.getD bb (0,0,0)).2.2),((F.getD bb (0,0,0)).2.1)))) (by kernel_rfl) rfl rfl rfl (zka (j:=bb) (x0:=(((F.getD bb (0,0,0)).1),((F.getD bb (0,0,0)).2.2),((F.getD bb (0,0,0)).2.1))) (γ0:=()) rfl rfl (by first|omega|(rw [List.length_map];omega)|(simp only [List.length_set];omega)|(simp;omega)) rfl rfl sz44 (fun _ _=>by exact ⟨zm.2 (by first|omega|decide|(dsimp only;omega)),zm.2 (by first|omega|decide|(dsimp only;omega)),zm.2 (by first|omega|decide|(dsimp only;omega))⟩)) (fun _ _=> ?_))
             refine zwa (by kernel_rfl)<|zy<|zc<|za<|r_pv rfl rfl (zD (z:=(((s7+1):Nat):Int)) rfl rfl (w64 (by omega)))<|r_pv rfl rfl (zb rfl)<|zg<|zT ((s7+1),(O7.set bb (((F.getD bb (0,0,0)).1),((F.getD bb (0,0,0)).2.2),((F.getD bb (0,0,0)).2.1)))) (show (s7+1)≤3∧(O7.set bb (((F.getD bb (0,0,0)).1),((F.getD bb (0,0,0)).2.2),((F.getD bb (0,0,0)).2.1)))=O5.set bb (Ms.tru (O5.getD aa (0,0,0)) (F.getD bb (0,0,0)) tt (s7+1)) from by exact ⟨by omega,by rw [hO7,List.set_set,Ms.tru_yes (by omega) (by rw [← hg6];exact Prod.ext heq.1 heq.2)];rfl⟩) (by show 3 - (s7+1)<3 - s7;omega) ((.of rfl):SubM _ _) (ho:=((.of [2,2,2,0,1,1] rfl):PickO _ _ _)) ((.of [1,2,3] rfl):SelR _ _ _)
            ·
             refine zu<|zy<|zc<|za<|r_pv rfl rfl (zD (z:=(((s7+1):Nat):Int)) rfl rfl (w64 (by omega)))<|r_pv rfl rfl (zb rfl)<|zg<|zT ((s7+1),O7) (show (s7+1)≤3∧O7=O5.set bb (Ms.tru (O5.getD aa (0,0,0)) (F.getD bb (0,0,0)) tt (s7+1)) from by exact ⟨by omega,by rw [Ms.tru_no (by omega) (by rw [← hg6];exact fun h9=>heq ⟨congrArg Prod.fst h9,congrArg Prod.snd h9⟩)];exact hO7⟩) (by show 3 - (s7+1)<3 - s7;omega) ((.of rfl):SubM _ _) (ho:=((.of [1,1,1,1,1,1] rfl):PickO _ _ _)) ((.of [0,1,2] rfl):SelR _ _ _)
           ·
            refine zP<|zi<|zi<|zp<|zy<|zc<|za<|r_pv rfl rfl (zD (z:=(((tt+1):Nat):Int)) rfl rfl (w64 (by omega)))<|r_pv rfl rfl (zb rfl)<|zg<|zT ((tt+1),O7) (show (tt+1)≤3∧O7=O5.set bb (Ms.trn (O5.getD aa (0,0,0)) (F.getD bb (0,0,0)) (tt+1)) from by have h3:s7=3:=(by omega);rw [h3,Ms.tru_fin (by omega)] at hO7;exact ⟨by omega,hO7⟩) (by show 3 - (tt+1)<3 - tt;omega) ((.of rfl):SubM _ _) (ho:=((.of [1,1,1,1,1] rfl):PickO _ _ _)) ((.of [0,1,2] rfl):SelR _ _ _)
          ·
           refine zP<|zi<|zi<|zp<|zc<|za<|r_pv rfl rfl (zb rfl)<|r_pv rfl rfl (zb rfl)<|r_pv rfl rfl (zU (j:=bb) Try.underlying106 sz4 rfl rfl rfl (by omega))<|zCa 0 rfl rfl rfl (zka (j:=bb) (x0:=true) (γ0:=()) rfl rfl (by first|omega|(rw [List.length_map];omega)|(simp only [List.length_set];omega)|(simp;omega)) rfl rfl sz4 (fun _ _=>by trivial)) (fun _=> .z) (fun _ _=> ?_)
           refine zg<|zy<|zc<|za<|r_pv rfl rfl (zD (z:=(((bb+1):Nat):Int)) rfl rfl (w64 (by omega)))<|r_pv rfl rfl (zb rfl)<|zg<|zT ((bb+1),(K4.set bb true),O6) (show (bb+1)≤nf∧Ms.OrI F (K4.set bb true) O6∧Ms.RnI F K2 (K4.set bb true) aa (bb+1)∧∀j,j<i+1→(K4.set bb true).getD j false=true from by have ht3:tt=3:=(by omega);rw [ht3] at hO6;exact ⟨by omega,by rw [hO6];exact hOr5.stepR hg.dg (by omega) (by omega) hsk9.1 hsk9.2.1 hsk9.2.2 (Ms.trn_fin _ _),hRn5.add (by omega) (by omega) (by omega) hsk9.1 hsk9.2.1 hsk9.2.2 _ _,fun j hj=>by rw [Ms.getD_setK (by omega)];split;rfl;exact hlo5 j (by omega)⟩) (by show nf - (bb+1)<nf - bb;omega) ((.of rfl):SubM _ _) (ho:=((.of [0,0,0,0,0] rfl):PickO _ _ _)) ((.of [0,1,2] rfl):SelR _ _ _)
       ·
        refine zP<|zi<|zi<|zp<|zy<|zc<|za<|r_pv rfl rfl (zD (z:=(((aa+1):Nat):Int)) rfl rfl (w64 (by omega)))<|r_pv rfl rfl (zb rfl)<|zg<|zT ((aa+1),K4,O5) (show (aa+1)≤nf∧Ms.OrI F K4 O5∧Ms.RnI F K2 K4 (aa+1) 0∧∀j,j<i+1→K4.getD j false=true from by exact ⟨by omega,hOr5,hRn5.row (by omega),hlo5⟩) (by show nf - (aa+1)<nf - aa;omega) ((.of rfl):SubM _ _) (ho:=((.of [0,0,0,0,0] rfl):PickO _ _ _)) ((.of [0,1,2] rfl):SelR _ _ _)
      ·
       refine zP<|zi<|zi<|zp<|zy<|zc<|za<|r_pv rfl rfl (zD (z:=(((r+1):Nat):Int)) rfl rfl (w64 (by omega)))<|r_pv rfl rfl (zb rfl)<|zg<|zT ((r+1),K3,O4) (show (r+1)≤nf∧Ms.OrI F K3 O4∧Ms.RdR F K3 (r+1)∧∀j,j<i+1→K3.getD j false=true from by exact ⟨by omega,hOr4,hRn.fin (by omega) hRd,hlo4⟩) (by show nf - (r+1)<nf - r;omega) ((.of rfl):SubM _ _) (ho:=((.of [0,0,0,0,0] rfl):PickO _ _ _)) ((.of [0,1,2] rfl):SelR _ _ _)
     ·
      refine zP<|zi<|zi<|zp<|zy<|zc<|za<|r_pv rfl rfl (zD (z:=(((i+1):Nat):Int)) rfl rfl (w64 (by omega)))<|r_pv rfl rfl (zb rfl)<|zg<|zT ((i+1),K2,O3) (show (i+1)≤nf∧Ms.OrI F K2 O3∧Ms.Clo F K2∧∀j,j<(i+1)→K2.getD j false=true from by exact ⟨by omega,hOr2,hRd.fin (by omega) (by omega),hlo2⟩) (by show nf - (i+1)<nf - i;omega) ((.of rfl):SubM _ _) (ho:=((.of [0,0,0,0,0] rfl):PickO _ _ _)) ((.of [0,1,2] rfl):SelR _ _ _)
   ·
    refine zP<|zi<|zi<|zp<|zc<|ze<|ze<|za<|r_u rfl rfl (zh 1 ty25 rfl rfl (.take (.take .nil)))<|zxa 2 rfl (.s (.s .z))<|zW rfl rfl (.c rfl .n) ce15 (zxd (pv:=pv) (nv:=nv) (cv:=cv) (V:=V) (pf:=u5_1) (nf:=0+nf) (cf:=u5_2) (F:=O2) (hnv:=by assumption) (hnf:=by first|rfl|assumption|omega)) (.c (j:=2) rfl (.c (j:=0) rfl .n))<|r_pv rfl rfl (zPa rfl rfl)<|zg<|zc<|zC rfl (fun hchk=> ?_) (fun hchk=> ?_)
    ·
     refine ze<|za<|r_pv rfl rfl (zI zr25 rfl Try.underlying25 (.c sz22 (.c sz23 .n)) .n .n)<|zt 3 rfl rfl rfl rfl rfl sz25 rfl (.take (.take .nil)) (.s (.s (.s .z)))<|r_pv rfl rfl (zd rfl)<|zg<|zc<|zJ<|zj ?_
     have hfu:Ms.OrF F O2:=⟨K,hOr,fun j hj=>hlo j (by omega)⟩
     refine zab (rI3 .i64)<|zab (rI3 .i64) ?_
     exact zdb Try.results39 (none,0,[],none,0,[],11) (Ms.OriR.bad hnd hfu hchk) (zK 3 ty25 rfl rfl (.take (.take .nil))) (zw rfl) rfl (ho:=(.n:PickO _ _ _)) ((.of [0,0] rfl):SelR _ _ _)
    ·
     refine zu<|zc<|ze<|za<|r_u rfl rfl (zh 1 ty25 rfl rfl (.take (.take .nil)))<|zt 3 rfl rfl rfl rfl rfl sz25 rfl (.take (.take .nil)) (.s (.s (.s .z)))<|r_pv rfl rfl (zd rfl)<|zg<|zc<|zJ ?_
     have hfu:Ms.OrF F O2:=⟨K,hOr,fun j hj=>hlo j (by omega)⟩
     exact zdb Try.results39 (pv,cv,V,u5_1,u5_2,O2,0) (Ms.OriR.good hnd hfu (Decidable.not_not.1 hchk)) (zK 3 ty25 rfl rfl (.take (.take .nil))) (zw rfl) (by simp only [hnv,hol,hnf,Nat.zero_add]) (ho:=(.n:PickO _ _ _)) ((.of [2,0] rfl):SelR _ _ _)
  refine zS (X:=Nat×Option Addr×Nat×Nat) (k':=1) (L':=(lb 9 255)) (fun (u2_1,u5_1,u5_2,u7_1)=>([(7,.pointer (some ⟨u7_1,0,none⟩)),(44,.agg #[.slice pv nv cv,.slice u5_1 (0+nf) u5_2]),(2,.pointer (some ⟨b2,0,none⟩)),(1,.pointer (some ⟨b1,0,none⟩))],[boxA u7_1 25 [.slice none 0 0,.slice none 0 0],rowA 44 (rI3 .i64) u5_1 u5_2 (([])++F)],[boxA b2 25 [.slice none 0 0,.slice none 0 0],boxA b1 25 [.slice pv nv cv,.slice pf nf cf]],[slF (rI2 .i64) p23 c24 (Ms.all F),slF (rI3 .i64) pv cv V,slF (rI3 .i64) pf cf F])) ?_ (fun hD1=> ?_)
  ·
   rintro ⟨u2_1,u5_1,u5_2,u7_1⟩
   dsimp only
   refine zR 8 (by kernel_rfl) ?_
   ·
    refine zna (by kernel_rfl) rfl rfl rfl rfl rfl sz25 rfl (.take (.take .nil)) ?_
    exact zv (hD0 (u2_1,u5_1,u5_2,u7_1)) (by kernel_rfl) ((.of rfl):SubM _ _) .rfl .rfl ((.of [0,1,2] rfl):SelR _ _ _)
  refine zS (X:=Nat×Option Addr×Nat) (k':=2) (L':=(lb 9 127)) (fun (u2_1,u5_1,u5_2)=>([(44,.agg #[.slice pv nv cv,.slice u5_1 (0+nf) u5_2]),(2,.pointer (some ⟨b2,0,none⟩)),(1,.pointer (some ⟨b1,0,none⟩))],[rowA 44 (rI3 .i64) u5_1 u5_2 (([])++F)],[boxA b2 25 [.slice none 0 0,.slice none 0 0],boxA b1 25 [.slice pv nv cv,.slice pf nf cf]],[slF (rI2 .i64) p23 c24 (Ms.all F),slF (rI3 .i64) pv cv V,slF (rI3 .i64) pf cf F])) ?_ (fun hD2=> ?_)
  ·
   rintro ⟨u2_1,u5_1,u5_2⟩
   dsimp only
   refine zR 7 (by kernel_rfl) ?_
   ·
    refine zaa rfl rfl rfl rfl (zr zr25 rfl) (fun u7_1 _=> ?_)
    exact zv (hD1 (u2_1,u5_1,u5_2,u7_1)) (by kernel_rfl) ((.of rfl):SubM _ _) .rfl .rfl ((.of [0,1,2] rfl):SelR _ _ _)
  refine zS (X:=Nat×Nat) (k':=3) (L':=(lb 9 159)) (fun (u2_1,u7_1)=>([(7,.pointer (some ⟨u7_1,0,none⟩)),(40,.slice (some ⟨u2_1,0,none⟩) 0 0),(42,.slice pf nf cf),(39,.slice pv nv cv),(2,.pointer (some ⟨b2,0,none⟩)),(1,.pointer (some ⟨b1,0,none⟩))],[boxA u7_1 25 [.slice none 0 0,.slice none 0 0],rowA 44 (rI3 .i64) (some ⟨u2_1,0,none⟩) 0 ([])],[boxA b2 25 [.slice none 0 0,.slice none 0 0],boxA b1 25 [.slice pv nv cv,.slice pf nf cf]],[slF (rI2 .i64) p23 c24 (Ms.all F),slF (rI3 .i64) pv cv V,slF (rI3 .i64) pf cf F])) ?_ (fun hD3=> ?_)
  ·
   rintro ⟨u2_1,u7_1⟩
   dsimp only
   refine zR 5 (by kernel_rfl) ?_
   ·
    refine zwb (zca (i:=1) rfl)<|zpb (A':=fun v:Option Addr×Nat=>rowA 44 (rI3 .i64) v.1 v.2 (([])++F)) (by kernel_rfl) rfl rfl rfl (zga 2 rfl Try.underlying23 inf44 (by decide) rfl rfl (by first|rfl|assumption|(simp;done)|omega) rfl (by first|rfl|assumption|(simp;done)|omega) (by omega) (by omega)) ?_
    rintro ⟨u5_1,u5_2⟩ -
    dsimp only [List.append_eq,List.nil_append,List.cons_append]
    refine d_pv 6 rfl rfl (by kernel_rfl) (by kernel_rfl) rfl rfl (zI zr25 rfl Try.underlying25 (.c sz22 (.c sz23 .n)) (.c rfl (.c rfl .n)) (.c rfl rfl rfl (.take .nil) (.c rfl rfl rfl (.skip (.take .nil)) .n))) ?_
    exact zv (hD1 (u2_1,u5_1,u5_2,u7_1)) (by kernel_rfl) ((.of rfl):SubM _ _) (zX 1 rfl (zX 0 rfl .nil)) .rfl ((.of [0,1,2] rfl):SelR _ _ _)
  refine zS (X:=Nat) (k':=4) (L':=(lb 9 31)) (fun u2_1=>([(40,.slice (some ⟨u2_1,0,none⟩) 0 0),(42,.slice pf nf cf),(39,.slice pv nv cv),(2,.pointer (some ⟨b2,0,none⟩)),(1,.pointer (some ⟨b1,0,none⟩))],[rowA 44 (rI3 .i64) (some ⟨u2_1,0,none⟩) 0 ([])],[boxA b2 25 [.slice none 0 0,.slice none 0 0],boxA b1 25 [.slice pv nv cv,.slice pf nf cf]],[slF (rI2 .i64) p23 c24 (Ms.all F),slF (rI3 .i64) pv cv V,slF (rI3 .i64) pf cf F])) ?_ (fun hD4=> ?_)
  ·
   rintro u2_1
   dsimp only
   refine zcb 5 7 (by kernel_rfl) ?_ ?_
   ·
    refine zpb (A':=fun v:Option Addr×Nat=>rowA 44 (rI3 .i64) v.1 v.2 (([])++F)) (by kernel_rfl) rfl rfl rfl (zga 2 rfl Try.underlying23 inf44 (by decide) rfl rfl (by first|rfl|assumption|(simp;done)|omega) rfl (by first|rfl|assumption|(simp;done)|omega) (by omega) (by omega)) ?_
    rintro ⟨u5_1,u5_2⟩ -
    dsimp only [List.append_eq,List.nil_append,List.cons_append]
    refine d_pv 6 rfl rfl (by kernel_rfl) (by kernel_rfl) rfl rfl (zI zr25 rfl Try.underlying25 (.c sz22 (.c sz23 .n)) (.c rfl (.c rfl .n)) (.c rfl rfl rfl (.take .nil) (.c rfl rfl rfl (.skip (.take .nil)) .n))) ?_
    exact zv (hD2 (u2_1,u5_1,u5_2)) (by kernel_rfl) ((.of rfl):SubM _ _) .rfl .rfl ((.of [0,1,2] rfl):SelR _ _ _)
   ·
    refine zaa rfl rfl rfl rfl (zr zr25 rfl) (fun u7_1 _=> ?_)
    exact zv (hD3 (u2_1,u7_1)) (by kernel_rfl) ((.of rfl):SubM _ _) .rfl .rfl ((.of [0,1,2] rfl):SelR _ _ _)
  refine zS (X:=Nat) (k':=4) (L':=(lb 9 155)) (fun u7_1=>([(7,.pointer (some ⟨u7_1,0,none⟩)),(42,.slice pf nf cf),(39,.slice pv nv cv),(2,.pointer (some ⟨b2,0,none⟩)),(1,.pointer (some ⟨b1,0,none⟩))],[boxA u7_1 25 [.slice none 0 0,.slice none 0 0]],[boxA b2 25 [.slice none 0 0,.slice none 0 0],boxA b1 25 [.slice pv nv cv,.slice pf nf cf]],[slF (rI2 .i64) p23 c24 (Ms.all F),slF (rI3 .i64) pv cv V,slF (rI3 .i64) pf cf F])) ?_ (fun hD5=> ?_)
  ·
   rintro u7_1
   dsimp only
   refine zR 2 (by kernel_rfl) ?_
   ·
    refine zaa rfl rfl rfl rfl (zta (rI3 .i64) Try.underlying23 inf44) (fun u2_1 _=> ?_)
    exact zv (hD3 (u2_1,u7_1)) (by kernel_rfl) ((.of rfl):SubM _ _) (zX 1 rfl (zX 0 rfl .nil)) .rfl ((.of [0,1,2] rfl):SelR _ _ _)
  refine zcb 2 7 (by kernel_rfl) ?_ ?_
  ·
   refine zaa rfl rfl rfl rfl (zta (rI3 .i64) Try.underlying23 inf44) (fun u2_1 _=> ?_)
   exact zv (hD4 u2_1) (by kernel_rfl) ((.of rfl):SubM _ _) .rfl .rfl ((.of [0,1,2] rfl):SelR _ _ _)
  ·
   refine zaa rfl rfl rfl rfl (zr zr25 rfl) (fun u7_1 _=> ?_)
   exact zv (hD5 u7_1) (by kernel_rfl) ((.of rfl):SubM _ _) .rfl .rfl ((.of [0,1,2] rfl):SelR _ _ _)
end Go.Proofs.Ytalfgjpbbongcaa.Sp
namespace Go.Proofs.Ytalfgjpbbongcaa.Sp
open Go
set_option linter.unusedVariables false
set_option maxRecDepth 100000
set_option maxHeartbeats 1000000
theorem zgc {pv:Option Addr} {nv:Nat} {cv:Nat} {V:List (Int×Int×Int)} {pf:Option Addr} {nf:Nat} {cf:Nat} {F:List (Int×Int×Int)} (hnv:V.length=nv) (hnf:F.length=nf):Con Try.prog 9 [.agg #[.slice pv nv cv,.slice pf nf cf]] [] [slF (rI3 .i64) pv cv V,slF (rI3 .i64) pf cf F] (Y:=Unit) (fun y=>True) (fun y=> .bool true) (fun y=>[]) (fun y=>[]):=by
 refine zx Try.func9 rfl rfl rfl (fun c=> ?_)
 show RunC _ _ _ _ _ [(0,.agg #[.slice pv nv cv,.slice pf nf cf])] [] [slF (rI3 .i64) pv cv V,slF (rI3 .i64) pf cf F]
 refine zba 0 rfl (fun hL0=> ?_)
 refine zba 1 rfl (fun hL1=> ?_)
 refine ze<|za<|zO rfl rfl (zfa rfl rfl) (fun b1=> ?_)
 refine r_pv rfl rfl (zd rfl)<|zg<|zc<|ze<|ze<|za<|zW rfl rfl (.n) ce12 (zge) (.n)<|r_pv rfl rfl (zqb rfl)<|zg<|zc<|zBa rfl rfl<|zu<|zc<|ze<|ze<|za<|r_u rfl rfl (zh 0 ty25 rfl rfl (.take (.take .nil)))<|zW rfl rfl (.c rfl .n) ce13 (zNe (pv:=pv) (nv:=nv) (cv:=cv) (V:=V) (pf:=pf) (nf:=nf) (cf:=cf) (F:=F) (hnv:=by assumption) (hnf:=by assumption)) (.c (j:=0) rfl (.c (j:=1) rfl .n))<|r_pv rfl rfl (zPc rfl)<|zg<|zc<|zC rfl (fun h2=> ?_) (fun h2=> ?_)
 ·
  refine ze<|za<|r_pv rfl rfl (zd rfl)<|zg<|zc<|zJ<|zj ?_
  exact zB Try.results9 () trivial (zw rfl) rfl (ho:=(.n:PickO _ _ _)) (.n:SelR _ _ _)
 ·
  refine zu<|zc<|ze<|za<|r_u rfl rfl (zh 0 ty25 rfl rfl (.take (.take .nil)))<|zea rfl rfl (.c rfl .n) ce38 (zAd (pv:=pv) (nv:=nv) (cv:=cv) (V:=V) (pf:=pf) (nf:=nf) (cf:=cf) (F:=F) (hnv:=by assumption) (hnf:=by assumption)) (.c (j:=0) rfl (.c (j:=1) rfl .n)) ?_
  rintro ⟨pa,ca,V2,pb,cb,P2,cd⟩ hO1
  dsimp only [List.append_eq,List.nil_append,List.cons_append]
  replace hO1:(Ms.form V F≠0→cd=Ms.form V F∧V2=[]∧P2=[])∧(Ms.form V F=0→Ms.OriR V F cd V2 P2):=hO1
  refine r_pv rfl rfl (zb rfl)<|r_pv rfl rfl (zV rfl rfl)<|r_pv rfl rfl (zV rfl rfl)<|zO rfl rfl (zr zr25 rfl) (fun b3=> ?_)
  refine zt 0 rfl rfl rfl rfl rfl sz25 rfl (.take (.take .nil)) .z<|r_pv rfl rfl (zd rfl)<|zg<|zc<|ze<|za<|r_u rfl rfl (zh 1 ty25 rfl rfl (.take (.take .nil)))<|zW rfl rfl (.c rfl .n) ce20 (zHc (pv:=pv) (nv:=nv) (cv:=cv) (V:=V) (pf:=pf) (nf:=nf) (cf:=cf) (F:=F) (hnv:=by assumption) (hnf:=by assumption)) (.c (j:=2) rfl (.c (j:=3) rfl .n))<|r_pv rfl rfl (zd rfl)<|zg<|zc<|ze<|za<|r_pv rfl rfl (zI zr25 rfl Try.underlying25 (.c sz22 (.c sz23 .n)) .n .n)<|zO rfl rfl (zr zr25 rfl) (fun b4=> ?_)
  refine zt 0 rfl rfl rfl rfl rfl sz25 rfl (.take (.take .nil)) .z<|zg<|zc<|zOa (X:=Int×(Option Addr)×Nat×(List Ms.V3)×(Option Addr)×Nat×(List Ms.V3)) (fun x=>Ms.OriS V F x.1 x.2.2.2.1 x.2.2.2.2.2.2) (fun x=>[(5,.int .i64 (x.1)),(6,.pointer (some ⟨b4,0,none⟩)),(4,.int .i64 cd),(3,.pointer (some ⟨b3,0,none⟩)),(2,.bool false)]) (fun x=>[boxA b4 25 [.slice (x.2.1) (x.2.2.2.1.length) (x.2.2.1),.slice (x.2.2.2.2.1) (x.2.2.2.2.2.2.length) (x.2.2.2.2.2.1)],boxA b3 25 [.slice pa (V2.length) ca,.slice pb (P2.length) cb],boxA b1 25 [.slice pv nv cv,.slice pf nf cf]]) (fun x=>[slF (rI3 .i64) (x.2.1) (x.2.2.1) (x.2.2.2.1),slF (rI3 .i64) (x.2.2.2.2.1) (x.2.2.2.2.2.1) (x.2.2.2.2.2.2),slF (rI3 .i64) pa ca V2,slF (rI3 .i64) pb cb P2,slF (rI3 .i64) pv cv V,slF (rI3 .i64) pf cf F]) ?_ ?_
  ·
   refine ze<|za<|r_pv rfl rfl (zb rfl)<|r_pv rfl rfl (zGa rfl rfl)<|zg<|zc<|zC rfl (fun hf=> ?_) (fun hf=> ?_)
   ·
    have hg:=Ms.form_zero.1 hf
    refine za<|r_u rfl rfl (zh 2 ty25 rfl rfl (.take (.take .nil)))<|zea rfl rfl (.c rfl .n) ce39 (zOc (pv:=pv) (nv:=nv) (cv:=cv) (V:=V) (pf:=pf) (nf:=nf) (cf:=cf) (F:=F) (hnv:=by assumption) (hnf:=by assumption) (hg:=by first|rfl|assumption|omega)) (.c (j:=2) rfl (.c (j:=3) rfl .n)) ?_
    rintro ⟨p25,c26,V27,p38,c39,P210,cd11⟩ hO2
    dsimp only [List.append_eq,List.nil_append,List.cons_append]
    replace hO2:Ms.OriR V F cd11 V27 P210:=hO2
    refine r_pv rfl rfl (zb rfl)<|r_pv rfl rfl (zV rfl rfl)<|r_pv rfl rfl (zV rfl rfl)<|zt 0 rfl rfl rfl rfl rfl sz25 rfl (.take (.take .nil)) .z<|r_pv rfl rfl (zd rfl)<|zg ?_
    exact zha (cd11,p25,c26,V27,p38,c39,P210) (show Ms.OriS V F cd11 V27 P210 from by exact ⟨fun h=>absurd hf h,fun _=>hO2⟩) ((.of rfl):SubM _ _) (ho:=((.e (i:=0) rfl (by first|rfl|(congr 1;omega)|simp_all) (.of [0,0] rfl)):PickO _ _ _)) ((.of [0,1,2,3,4,5] rfl):SelR _ _ _)
   ·
    refine zu<|zab (rI3 .i64)<|zab (rI3 .i64) ?_
    exact zha (Ms.form V F,none,0,[],none,0,[]) (show Ms.OriS V F (Ms.form V F) ([]) ([]) from by exact ⟨fun _=>⟨rfl,rfl,rfl⟩,fun h=>absurd h hf⟩) ((.of rfl):SubM _ _) (ho:=((.e (i:=0) rfl (by first|rfl|(congr 1;omega)|simp_all) (.of [0,0] rfl)):PickO _ _ _)) ((.of [0,0,2,3,4,5] rfl):SelR _ _ _)
  ·
   rintro ⟨cq,p8,c8,V8,p9,c9,P8⟩ hO3
   replace hO3:Ms.OriS V F cq V8 P8:=hO3
   try dsimp only
   obtain ⟨hu1,hu2,hu3⟩:=Ms.OriS.uniq hO1 hO3
   have e12:cd=cq:=by exact hu1
   subst e12
   have e13:V2=V8:=by exact hu2
   subst e13
   have e14:P2=P8:=by exact hu3
   subst e14
   refine ze<|ze<|za<|r_pv rfl rfl (zb rfl)<|r_pv rfl rfl (zPa rfl rfl)<|zg<|zc<|zC rfl (fun hc=> ?_) (fun hc=> ?_)
   ·
    refine ze<|c_nilF (rI3 .i64)<|za<|r_pv rfl rfl (zb rfl)<|r_pv rfl rfl (zb rfl)<|r_pv rfl rfl (zGa rfl rfl) ?_
    rw [show ∀z:Int,decide (z=z)=true from fun z=>decide_eq_true rfl]
    refine r_pv rfl rfl (zb rfl)<|r_u rfl rfl (zh 1 ty25 rfl rfl (.take (.take .nil)))<|r_pv rfl rfl (zI zr25 rfl Try.underlying25 (.c sz22 (.c sz23 .n)) .n .n)<|zW rfl rfl (.c rfl (.c rfl .n)) ce32 (zjd (pv:=pa) (nv:=V2.length) (cv:=ca) (V:=V2) (pf:=pb) (nf:=P2.length) (cf:=cb) (F:=P2) (pv2:=none) (nv2:=0) (cv2:=0) (V2:=[]) (pf2:=none) (nf2:=0) (cf2:=0) (F2:=[]) (hnv:=by first|rfl|assumption|omega) (hnf:=by first|rfl|assumption|omega) (hnv2:=by first|rfl|assumption|omega) (hnf2:=by first|rfl|assumption|omega)) (.c (j:=3) rfl (.c (j:=4) rfl (.c (j:=0) rfl (.c (j:=0) rfl .n)))) ?_
    rw [show (decide (V2=([])∧P2=([])))=true from by exact decide_eq_true (Ms.OriS.bad hO1 hc)]
    refine r_pv rfl rfl (zH rfl rfl)<|r_pv rfl rfl (zd rfl)<|zg<|zc<|zJ<|zj ?_
    exact zB Try.results9 () trivial (zw rfl) rfl (ho:=(.n:PickO _ _ _)) (.n:SelR _ _ _)
   ·
    refine zu<|zc<|ze<|za<|r_pv rfl rfl (zb rfl)<|r_pv rfl rfl (zGa rfl rfl) ?_
    rw [show (decide (cd=0))=true from by exact decide_eq_true (Decidable.not_not.1 hc)]
    refine r_pv rfl rfl (zb rfl)<|r_u rfl rfl (zh 1 ty25 rfl rfl (.take (.take .nil)))<|r_u rfl rfl (zh 0 ty25 rfl rfl (.take (.take .nil)))<|zW rfl rfl (.c rfl (.c rfl .n)) ce32 (zjd (pv:=pa) (nv:=V2.length) (cv:=ca) (V:=V2) (pf:=pb) (nf:=P2.length) (cf:=cb) (F:=P2) (pv2:=p8) (nv2:=(V2.length)) (cv2:=c8) (V2:=V2) (pf2:=p9) (nf2:=(P2.length)) (cf2:=c9) (F2:=P2) (hnv:=by first|rfl|assumption|omega) (hnf:=by first|rfl|assumption|omega) (hnv2:=by first|rfl|assumption|omega) (hnf2:=by first|rfl|assumption|omega)) (.c (j:=2) rfl (.c (j:=3) rfl (.c (j:=0) rfl (.c (j:=1) rfl .n)))) ?_
    rw [show (decide (V2=V2∧P2=P2))=true from by exact decide_eq_true ⟨rfl,rfl⟩]
    refine r_pv rfl rfl (zH rfl rfl)<|r_pv rfl rfl (zb rfl)<|r_u rfl rfl (zh 1 ty25 rfl rfl (.take (.take .nil)))<|zW rfl rfl (.c rfl .n) ce14 (znb (pv:=pa) (nv:=V2.length) (cv:=ca) (V:=V2) (pf:=pb) (nf:=P2.length) (cf:=cb) (F:=P2) (hnv:=by first|rfl|assumption|omega) (hnf:=by first|rfl|assumption|omega)) (.c (j:=2) rfl (.c (j:=3) rfl .n))<|r_pv rfl rfl (zGa rfl rfl) ?_
    rw [show (decide (Ms.check V2 P2=0))=true from by exact decide_eq_true (Ms.OriS.good hO1 (Decidable.not_not.1 hc))]
    refine r_pv rfl rfl (zH rfl rfl)<|r_pv rfl rfl (zd rfl)<|zg<|zc<|zJ ?_
    exact zB Try.results9 () trivial (zw rfl) rfl (ho:=(.n:PickO _ _ _)) (.n:SelR _ _ _)
end Go.Proofs.Ytalfgjpbbongcaa.Sp
