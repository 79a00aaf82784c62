/- Lemmas on the walk and plain lemmas that the claim of this folder uses; each states its own conditions. Lines were printed by a program of ours. -/
import Derived.Test.YtahiajepeodhoaaGreatZ3E
set_option linter.unusedVariables false
set_option linter.unusedSimpArgs false
set_option linter.unusedSectionVars false
open Go.Proofs.Tryz renaming underlying59 → ya, underlying34 → yb, results3 → yc
open Go.Proofs.YtahiajepeodhoaaGreat.Big renaming hq → yd
namespace Go.Proofs.YtahiajepeodhoaaGreat.Sp
open Go
set_option linter.unusedVariables false
set_option maxRecDepth 100000
set_option maxHeartbeats 8000000
theorem zhe {e:Cam.Ln} {u1:Wd} {u2:Wd} {v1:Wd} {v2:Wd} {qx:Rat} {qy:Rat} (hin:Cam.In e) (hx:yd qx≤100) (hy:yd qy≤100):Con Tryz.prog 13 [.agg #[.int .i64 (e.f),.int .i64 (e.cx),.int .i64 (e.cy),.int .i64 (e.r0),.int .i64 (e.r1),.int .i64 (e.r2),.int .i64 (e.p1),.int .i64 (e.p2),.int .i64 (e.fd)],.agg #[u1.b,u1.l,u2.b,u2.l,v1.b,v1.l,v2.b,v2.l]] [] [qF true u1 u2 qx,qF true v1 v2 qy] (Y:=Wd×Wd×Wd×Wd) (fun y=>True) (fun y=> .agg #[y.1.b,y.1.l,y.2.1.b,y.2.1.l,y.2.2.1.b,y.2.2.1.l,y.2.2.2.b,y.2.2.2.l]) (fun y=>[]) (fun y=>[qF true y.1 y.2.1 (Cam.dX e qx qy),qF true y.2.2.1 y.2.2.2 (Cam.dY e qx qy)]):=by
 refine zk Tryz.func13 rfl rfl rfl (fun c=> ?_)
 show RunC _ _ _ _ _ [(0,.agg #[.int .i64 (e.f),.int .i64 (e.cx),.int .i64 (e.cy),.int .i64 (e.r0),.int .i64 (e.r1),.int .i64 (e.r2),.int .i64 (e.p1),.int .i64 (e.p2),.int .i64 (e.fd)]),(1,.agg #[u1.b,u1.l,u2.b,u2.l,v1.b,v1.l,v2.b,v2.l])] [] [qF true u1 u2 qx,qF true v1 v2 qy]
 obtain ⟨hf1,hcx1,hcy1,hr01,hr11,hr21,hp11,hp21,hfd1⟩:=id hin
 have hsq:=Cam.sq_hq hx hy
 have hrq:=Cam.ev_hq hsq (Cam.rl e) (Cam.rl_hq hin)
 have hrl:=Cam.rl_len e
 have hrk:(Cam.rl e).length*(4*100+1+4)≤4*(4*100+1+4):=Nat.mul_le_mul_right _ hrl
 have ht1:=Cam.tq1 hin
 have ht2:=Cam.tq2 hin
 have h2q:yd ((2:Int):Rat)≤3:=by decide
 have h1q:yd ((1:Int):Rat)≤3:=by decide
 have hxx:=Big.hq_mul qx qx
 have hyy:=Big.hq_mul qy qy
 have hxy:=Big.hq_mul qx qy
 refine ze<|za<|zI rfl rfl (zR rfl rfl) (fun b1=> ?_)
 refine zI rfl rfl (zR rfl rfl) (fun b2=> ?_)
 refine zI rfl rfl (zq zr34 rfl) (fun b3=> ?_)
 refine zf<|zd<|ze<|za<|e_ru (zb 1 ty34 rfl rfl (.t8 .nil))<|zm rfl rfl (.c rfl .n) ce20 (znd (u1:=u1) (u2:=u2) (v1:=v1) (v2:=v2) (qx:=qx) (qy:=qy) (hx:=ass) (hy:=ass)) (.c (j:=0) rfl (.c (j:=1) rfl .n)) ?_
 rintro ⟨w34,w45⟩ -
 dsimp only [aq,nq,cq]
 refine zI rfl rfl (zq zr32 rfl) (fun b6=> ?_)
 refine zj 0 rfl rfl rfl rfl rfl sz32 rfl (.t4 .nil) .z<|zf<|zd<|ze<|za<|zm rfl rfl (.c rfl .n) ce39 (zRb (z1:=1) (hz1:=by first|rfl|assumption|omega|decide|(simp;done))) (.n) ?_
 rintro ⟨w37,w48⟩ -
 dsimp only [aq,nq,cq]
 refine zm rfl rfl (.c rfl .n) ce39 (zRb (z1:=2) (hz1:=by first|rfl|assumption|omega|decide|(simp;done))) (.n) ?_
 rintro ⟨w39,w410⟩ -
 dsimp only [aq,nq,cq]
 refine zI rfl rfl (zq zr32 rfl) (fun b11=> ?_)
 refine zI rfl rfl (zq zr32 rfl) (fun b12=> ?_)
 refine zj 1 rfl rfl rfl rfl rfl sz32 rfl (.t4 .nil) (.s .z)<|zj 0 rfl rfl rfl rfl rfl sz32 rfl (.t4 .nil) .z<|zf<|zd<|ze<|zEb (eF w34 w45 (some (Cam.sq qx qy))) (fun g h=>qF_e (Holds.get 2 rfl h))<|zX (OW:=[]) (O:=[boxA b12 32 (cw [w39,w410]),boxA b11 32 (cw [w37,w48]),boxA b6 32 (cw [w34,w45]),boxA b3 34 (cw [wz,wz,wz,wz]),boxA b2 34 (cw [u1,u2,v1,v2]),boxA b1 27 [.int .i64 (e.f),.int .i64 (e.cx),.int .i64 (e.cy),.int .i64 (e.r0),.int .i64 (e.r1),.int .i64 (e.r2),.int .i64 (e.p1),.int .i64 (e.p2),.int .i64 (e.fd)]]) 5 mixed (.then .ret) kr<|e_u 0 rfl rfl (zb 5 ty27 rfl rfl (.t8 (.take .nil)))<|e_u 2 rfl rfl (zb 2 ty32 rfl rfl (.t4 .nil))<|zU (m':=[(22,.agg (cw [w34,w45]).toArray),(20,.agg #[.int .i64 (e.f),.int .i64 (e.cx),.int .i64 (e.cy),.int .i64 (e.r0),.int .i64 (e.r1),.int .i64 (e.r2),.int .i64 (e.p1),.int .i64 (e.p2),.int .i64 (e.fd)]),(7,.pointer (some ⟨b12,0,none⟩)),(6,.pointer (some ⟨b11,0,none⟩)),(5,.pointer (some ⟨b6,0,none⟩)),(4,.pointer (some ⟨b3,0,none⟩)),(3,.pointer (some ⟨b2,0,none⟩)),(2,.pointer (some ⟨b1,0,none⟩))]) (R':=[eF w34 w45 (some (Cam.sq qx qy)),qF true w39 w410 ((2:Int):Rat),qF true w37 w48 ((1:Int):Rat),qF true w34 w45 (Cam.sq qx qy),qF true u1 u2 qx,qF true v1 v2 qy]) (mR rfl) (List.Perm.refl _) (List.Perm.refl _) ((.of [0,1,2,3,4,5] rfl):SelR _ _ _)<|a_start<|a_step 1 rfl (X:=Option Addr×Nat) (fun x=> .slice (x.1) ((Cam.rl e).length) (x.2)) (fun x=>[]) (fun x=>[slF rQ (x.1) (x.2) (Cam.rl e)]) [] kr rfl kr kr kr (fun _=> ?_) ?_
 ·
  refine zU (m':=[(20,.agg #[.int .i64 (e.f),.int .i64 (e.cx),.int .i64 (e.cy),.int .i64 (e.r0),.int .i64 (e.r1),.int .i64 (e.r2),.int .i64 (e.p1),.int .i64 (e.p2),.int .i64 (e.fd)])]) (R':=[]) ((.c rfl .n):SubM _ _) (List.Perm.refl _) (List.Perm.refl _) sN<|e_one 0 (zp rfl rfl rfl rfl (.c rfl .n) ce41 (zCe (e:=e) (hin:=ass)) (.n) ?_)
  rintro ⟨u1_1,u1_2⟩ -
  dsimp only [aq,nq,cq]
  refine zE kr ?_
  exact zS (u1_1,u1_2) trivial ((.c rfl .n):SubM _ _) (ho:=oN) (s0 rfl)
 refine a_step 3 rfl (X:=Wd×Wd) (fun x=> .agg #[x.1.b,x.1.l,x.2.b,x.2.l]) (fun x=>[]) (fun x=>[qF true x.1 x.2 (Po.ev ((some (Cam.sq qx qy)).getD 0) (Po.vals ((Cam.rl e).map some)))]) [0] kr rfl kr kr kr (fun _=> ?_) ?_
 ·
  rintro ⟨g1_0,g1_1⟩
  refine zU (m':=[(21,.slice g1_0 ((Cam.rl e).length) g1_1),(22,.agg (cw [w34,w45]).toArray)]) (R':=[slF rQ g1_0 g1_1 (Cam.rl e),eF w34 w45 (some (Cam.sq qx qy)),qF true w34 w45 (Cam.sq qx qy)]) ((.c rfl (.c rfl .n)):SubM _ _) (List.Perm.refl _) (List.Perm.refl _) ((.of [0,1,4] rfl):SelR _ _ _) ?_
  first|refine zGa (addQE 0 rfl) ?_|refine zqb (addQE 0 rfl) ?_
  refine e_one 0 (zp rfl rfl rfl rfl (.c rfl (.c rfl .n)) ce40 (zYf (p1:=g1_0) (n1:=(Cam.rl e).length) (c1:=g1_1) (l1:=((Cam.rl e).map some)) (u1:=w34) (v1:=w45) (x1:=(some (Cam.sq qx qy))) (hn1:=by exact List.length_map _) (hm1:=om) (hx:=by show yd (Cam.sq qx qy)≤_;omega) (hb1:=by intro i;have h9:=Cam.rl_hq hin i;rw [Po.msome];omega) (hs:=by intro i;rw [Po.vals_some];exact Nat.le_trans (Cam.rl_drop hin hsq i) dd)) (.c (j:=0) rfl (.c (j:=2) rfl .n)) ?_)
  rintro ⟨u3_1,u3_2⟩ -
  dsimp only [aq,nq,cq]
  refine zE kr ?_
  exact zS (u3_1,u3_2) trivial ((.c rfl .n):SubM _ _) (ho:=oN) (s0 rfl)
 refine a_step 4 rfl (X:=Nat) (fun x=> .pointer (some ⟨x,0,none⟩)) (fun x=>[boxA x 32 [.bool false,.slice none 0 0,.bool false,.slice none 0 0]]) (fun x=>[]) [] kr rfl kr kr kr (fun _=> ?_) ?_
 ·
  refine zU (m':=[]) (R':=[]) (.n:SubM _ _) (List.Perm.refl _) (List.Perm.refl _) sN<|e_one 0 (zEa rfl rfl rfl rfl (zq zr32 rfl) (fun u4_1 _=> ?_))
  refine zE kr ?_
  exact zS u4_1 trivial ((.c rfl .n):SubM _ _) (ho:=(o0 rfl)) sN
 refine a_fin (k':=1) (L':=(lb 6 31)) kr kr kr kr kr kr kr ?_
 rintro g4_0 ⟨g3_0,g3_1⟩ _
 refine zU (m':=[(8,.pointer (some ⟨g4_0,0,none⟩)),(23,.agg (cw [g3_0,g3_1]).toArray),(22,.agg (cw [w34,w45]).toArray),(20,.agg #[.int .i64 (e.f),.int .i64 (e.cx),.int .i64 (e.cy),.int .i64 (e.r0),.int .i64 (e.r1),.int .i64 (e.r2),.int .i64 (e.p1),.int .i64 (e.p2),.int .i64 (e.fd)]),(7,.pointer (some ⟨b12,0,none⟩)),(6,.pointer (some ⟨b11,0,none⟩)),(5,.pointer (some ⟨b6,0,none⟩)),(4,.pointer (some ⟨b3,0,none⟩)),(3,.pointer (some ⟨b2,0,none⟩)),(2,.pointer (some ⟨b1,0,none⟩))]) (OW':=[boxA g4_0 32 (cw [wz,wz])]) (R':=[qF true g3_0 g3_1 (Po.ev ((some (Cam.sq qx qy)).getD 0) (Po.vals ((Cam.rl e).map some))),eF w34 w45 (some (Cam.sq qx qy)),qF true w39 w410 ((2:Int):Rat),qF true w37 w48 ((1:Int):Rat),qF true w34 w45 (Cam.sq qx qy),qF true u1 u2 qx,qF true v1 v2 qy]) (mR rfl) (List.Perm.refl _) (List.Perm.refl _) ((.of [0,2,3,4,5,6,7] rfl):SelR _ _ _)<|e_one 5 (zt kr rfl rfl rfl rfl rfl sz32 rfl (.t4 .nil) ?_)
 refine zE kr<|zd<|ze ?_
 have e13:(Po.ev ((some (Cam.sq qx qy)).getD 0) (Po.vals ((Cam.rl e).map some)):Rat)=Po.ev (Cam.sq qx qy) (Cam.rl e):=by rw [Po.vals_some];rfl
 rw [e13]
 refine zX (OW:=[]) (O:=[boxA g4_0 32 (cw [g3_0,g3_1]),boxA b12 32 (cw [w39,w410]),boxA b11 32 (cw [w37,w48]),boxA b6 32 (cw [w34,w45]),boxA b3 34 (cw [wz,wz,wz,wz]),boxA b2 34 (cw [u1,u2,v1,v2]),boxA b1 27 [.int .i64 (e.f),.int .i64 (e.cx),.int .i64 (e.cy),.int .i64 (e.r0),.int .i64 (e.r1),.int .i64 (e.r2),.int .i64 (e.p1),.int .i64 (e.p2),.int .i64 (e.fd)]]) 10 mixed (.then .ret) kr<|e_pv 0 rfl rfl (zg Tryz.underlying27 rfl sz25 rfl rfl)<|e_pv 1 rfl rfl (zT (i:=0) Tryz.underlying25 sz3 rfl rfl dd rfl)<|e_u 2 rfl rfl (zh 6 ty3 rfl rfl rfl)<|e_pv 4 rfl rfl (zg Tryz.underlying27 rfl sz25 rfl rfl)<|e_pv 5 rfl rfl (zT (i:=1) Tryz.underlying25 sz3 rfl rfl dd rfl)<|e_u 6 rfl rfl (zh 6 ty3 rfl rfl rfl)<|zU (m':=[(30,.int .i64 (e.p2)),(26,.int .i64 (e.p1)),(8,.pointer (some ⟨g4_0,0,none⟩)),(7,.pointer (some ⟨b12,0,none⟩)),(6,.pointer (some ⟨b11,0,none⟩)),(5,.pointer (some ⟨b6,0,none⟩)),(4,.pointer (some ⟨b3,0,none⟩)),(3,.pointer (some ⟨b2,0,none⟩))]) (R':=[qF true g3_0 g3_1 (Po.ev (Cam.sq qx qy) (Cam.rl e)),eF w34 w45 (some (Cam.sq qx qy)),qF true w39 w410 ((2:Int):Rat),qF true w37 w48 ((1:Int):Rat),qF true w34 w45 (Cam.sq qx qy),qF true u1 u2 qx,qF true v1 v2 qy]) (mR rfl) (List.Perm.refl _) (List.Perm.refl _) ((.of [0,1,2,3,4,5,6] rfl):SelR _ _ _)<|a_start<|a_step 3 rfl (X:=Wd×Wd) (fun x=> .agg #[x.1.b,x.1.l,x.2.b,x.2.l]) (fun x=>[]) (fun x=>[qF true x.1 x.2 (Rat.divInt e.p1 0x100000)]) [] kr rfl kr kr kr (fun _=> ?_) ?_
 ·
  refine zU (m':=[(26,.int .i64 (e.p1))]) (R':=[]) ((.c rfl .n):SubM _ _) (List.Perm.refl _) (List.Perm.refl _) sN<|e_one 0 (zp rfl rfl rfl rfl (.c rfl .n) ce42 (zYb (z1:=e.p1) (hz1:=by first|rfl|assumption|omega|decide|(simp;done))) (.n) ?_)
  rintro ⟨u3_1r2,u3_2r2⟩ -
  dsimp only [aq,nq,cq]
  refine zE kr ?_
  exact zS (u3_1r2,u3_2r2) trivial ((.c rfl .n):SubM _ _) (ho:=oN) (s0 rfl)
 refine a_step 7 rfl (X:=Wd×Wd) (fun x=> .agg #[x.1.b,x.1.l,x.2.b,x.2.l]) (fun x=>[]) (fun x=>[qF true x.1 x.2 (Rat.divInt e.p2 0x100000)]) [] kr rfl kr kr kr (fun _=> ?_) ?_
 ·
  refine zU (m':=[(30,.int .i64 (e.p2))]) (R':=[]) ((.c rfl .n):SubM _ _) (List.Perm.refl _) (List.Perm.refl _) sN<|e_one 0 (zp rfl rfl rfl rfl (.c rfl .n) ce42 (zYb (z1:=e.p2) (hz1:=by first|rfl|assumption|omega|decide|(simp;done))) (.n) ?_)
  rintro ⟨u7_1r2,u7_2r2⟩ -
  dsimp only [aq,nq,cq]
  refine zE kr ?_
  exact zS (u7_1r2,u7_2r2) trivial ((.c rfl .n):SubM _ _) (ho:=oN) (s0 rfl)
 refine a_step 8 rfl (X:=Nat) (fun x=> .pointer (some ⟨x,0,none⟩)) (fun x=>[boxA x 32 [.bool false,.slice none 0 0,.bool false,.slice none 0 0]]) (fun x=>[]) [] kr rfl kr kr kr (fun _=> ?_) ?_
 ·
  refine zU (m':=[]) (R':=[]) (.n:SubM _ _) (List.Perm.refl _) (List.Perm.refl _) sN<|e_one 0 (zEa rfl rfl rfl rfl (zq zr32 rfl) (fun u8_1r2 _=> ?_))
  refine zE kr ?_
  exact zS u8_1r2 trivial ((.c rfl .n):SubM _ _) (ho:=(o0 rfl)) sN
 refine a_step 9 rfl (X:=Nat) (fun x=> .pointer (some ⟨x,0,none⟩)) (fun x=>[boxA x 32 [.bool false,.slice none 0 0,.bool false,.slice none 0 0]]) (fun x=>[]) [] kr rfl kr kr kr (fun _=> ?_) ?_
 ·
  refine zU (m':=[]) (R':=[]) (.n:SubM _ _) (List.Perm.refl _) (List.Perm.refl _) sN<|e_one 0 (zEa rfl rfl rfl rfl (zq zr32 rfl) (fun u9_1r2 _=> ?_))
  refine zE kr ?_
  exact zS u9_1r2 trivial ((.c rfl .n):SubM _ _) (ho:=(o0 rfl)) sN
 refine a_fin (k':=2) (L':=(lb 12 1023)) kr kr kr kr kr kr kr ?_
 rintro g9_0r2 g8_0r2 ⟨g7_0r2,g7_1r2⟩ ⟨g3_0r2,g3_1r2⟩
 refine zU (m':=[(10,.pointer (some ⟨g9_0r2,0,none⟩)),(9,.pointer (some ⟨g8_0r2,0,none⟩)),(31,.agg (cw [g7_0r2,g7_1r2]).toArray),(27,.agg (cw [g3_0r2,g3_1r2]).toArray),(30,.int .i64 (e.p2)),(26,.int .i64 (e.p1)),(8,.pointer (some ⟨g4_0,0,none⟩)),(7,.pointer (some ⟨b12,0,none⟩)),(6,.pointer (some ⟨b11,0,none⟩)),(5,.pointer (some ⟨b6,0,none⟩)),(4,.pointer (some ⟨b3,0,none⟩)),(3,.pointer (some ⟨b2,0,none⟩))]) (OW':=[boxA g9_0r2 32 (cw [wz,wz]),boxA g8_0r2 32 (cw [wz,wz])]) (R':=[qF true g7_0r2 g7_1r2 (Rat.divInt e.p2 0x100000),qF true g3_0r2 g3_1r2 (Rat.divInt e.p1 0x100000),qF true g3_0 g3_1 (Po.ev (Cam.sq qx qy) (Cam.rl e)),eF w34 w45 (some (Cam.sq qx qy)),qF true w39 w410 ((2:Int):Rat),qF true w37 w48 ((1:Int):Rat),qF true w34 w45 (Cam.sq qx qy),qF true u1 u2 qx,qF true v1 v2 qy]) (mR rfl) (List.Perm.refl _) (List.Perm.refl _) ((.of [0,1,2,3,4,5,6,7,8] rfl):SelR _ _ _)<|zta (zY (i:=1) rfl)<|e_one 10 (zt kr rfl rfl rfl rfl rfl sz32 rfl (.t4 .nil) ?_)
 refine zta (zY (i:=1) rfl)<|e_one 11 (zt kr rfl rfl rfl rfl rfl sz32 rfl (.t4 .nil) ?_)
 refine zE kr<|zd<|ze ?_
 have e14:Rat.divInt e.p1 0x100000=Cam.tP1 e:=by rfl
 rw [e14]
 have e15:Rat.divInt e.p2 0x100000=Cam.tP2 e:=by rfl
 rw [e15]
 refine zX (OW:=[]) (O:=[boxA g9_0r2 32 (cw [g7_0r2,g7_1r2]),boxA g8_0r2 32 (cw [g3_0r2,g3_1r2]),boxA g4_0 32 (cw [g3_0,g3_1]),boxA b12 32 (cw [w39,w410]),boxA b11 32 (cw [w37,w48]),boxA b6 32 (cw [w34,w45]),boxA b3 34 (cw [wz,wz,wz,wz]),boxA b2 34 (cw [u1,u2,v1,v2]),boxA b1 27 [.int .i64 (e.f),.int .i64 (e.cx),.int .i64 (e.cy),.int .i64 (e.r0),.int .i64 (e.r1),.int .i64 (e.r2),.int .i64 (e.p1),.int .i64 (e.p2),.int .i64 (e.fd)]]) 6 mixed (.then .ret) kr<|e_pv 0 rfl rfl (zg yb rfl sz32 rfl rfl)<|e_u 1 rfl rfl (zb 7 ty32 rfl rfl (.t4 .nil))<|e_pv 2 rfl rfl (zg yb rfl sz32 rfl rfl)<|e_u 3 rfl rfl (zb 7 ty32 rfl rfl (.s4 (.t4 .nil)))<|zU (m':=[(35,.agg (cw [v1,v2]).toArray),(33,.agg (cw [u1,u2]).toArray),(10,.pointer (some ⟨g9_0r2,0,none⟩)),(9,.pointer (some ⟨g8_0r2,0,none⟩)),(8,.pointer (some ⟨g4_0,0,none⟩)),(7,.pointer (some ⟨b12,0,none⟩)),(6,.pointer (some ⟨b11,0,none⟩)),(5,.pointer (some ⟨b6,0,none⟩)),(4,.pointer (some ⟨b3,0,none⟩))]) (R':=[qF true g7_0r2 g7_1r2 (Cam.tP2 e),qF true g3_0r2 g3_1r2 (Cam.tP1 e),qF true g3_0 g3_1 (Po.ev (Cam.sq qx qy) (Cam.rl e)),eF w34 w45 (some (Cam.sq qx qy)),qF true w39 w410 ((2:Int):Rat),qF true w37 w48 ((1:Int):Rat),qF true w34 w45 (Cam.sq qx qy),qF true u1 u2 qx,qF true v1 v2 qy]) (mR rfl) (List.Perm.refl _) (List.Perm.refl _) ((.of [0,1,2,3,4,5,6,7,8] rfl):SelR _ _ _)<|a_start<|a_step 4 rfl (X:=Nat) (fun x=> .pointer (some ⟨x,0,none⟩)) (fun x=>[boxA x 32 [.bool false,.slice none 0 0,.bool false,.slice none 0 0]]) (fun x=>[]) [] kr rfl kr kr kr (fun _=> ?_) ?_
 ·
  refine zU (m':=[]) (R':=[]) (.n:SubM _ _) (List.Perm.refl _) (List.Perm.refl _) sN<|e_one 0 (zEa rfl rfl rfl rfl (zq zr32 rfl) (fun u4_1r3 _=> ?_))
  refine zE kr ?_
  exact zS u4_1r3 trivial ((.c rfl .n):SubM _ _) (ho:=(o0 rfl)) sN
 refine a_step 5 rfl (X:=Nat) (fun x=> .pointer (some ⟨x,0,none⟩)) (fun x=>[boxA x 32 [.bool false,.slice none 0 0,.bool false,.slice none 0 0]]) (fun x=>[]) [] kr rfl kr kr kr (fun _=> ?_) ?_
 ·
  refine zU (m':=[]) (R':=[]) (.n:SubM _ _) (List.Perm.refl _) (List.Perm.refl _) sN<|e_one 0 (zEa rfl rfl rfl rfl (zq zr32 rfl) (fun u5_1r3 _=> ?_))
  refine zE kr ?_
  exact zS u5_1r3 trivial ((.c rfl .n):SubM _ _) (ho:=(o0 rfl)) sN
 refine a_fin (k':=2) (L':=(lb 8 63)) kr kr kr kr kr kr kr ?_
 rintro g5_0r3 g4_0r3
 refine zU (m':=[(12,.pointer (some ⟨g5_0r3,0,none⟩)),(11,.pointer (some ⟨g4_0r3,0,none⟩)),(35,.agg (cw [v1,v2]).toArray),(33,.agg (cw [u1,u2]).toArray),(10,.pointer (some ⟨g9_0r2,0,none⟩)),(9,.pointer (some ⟨g8_0r2,0,none⟩)),(8,.pointer (some ⟨g4_0,0,none⟩)),(7,.pointer (some ⟨b12,0,none⟩)),(6,.pointer (some ⟨b11,0,none⟩)),(5,.pointer (some ⟨b6,0,none⟩)),(4,.pointer (some ⟨b3,0,none⟩))]) (OW':=[boxA g5_0r3 32 (cw [wz,wz]),boxA g4_0r3 32 (cw [wz,wz])]) (R':=[qF true g7_0r2 g7_1r2 (Cam.tP2 e),qF true g3_0r2 g3_1r2 (Cam.tP1 e),qF true g3_0 g3_1 (Po.ev (Cam.sq qx qy) (Cam.rl e)),eF w34 w45 (some (Cam.sq qx qy)),qF true w39 w410 ((2:Int):Rat),qF true w37 w48 ((1:Int):Rat),qF true w34 w45 (Cam.sq qx qy),qF true u1 u2 qx,qF true v1 v2 qy]) (mR rfl) (List.Perm.refl _) (List.Perm.refl _) ((.of [0,1,2,3,4,5,6,7,8] rfl):SelR _ _ _)<|zta (zY (i:=1) rfl)<|e_one 6 (zt kr rfl rfl rfl rfl rfl sz32 rfl (.t4 .nil) ?_)
 refine zta (zY (i:=1) rfl)<|e_one 7 (zt kr rfl rfl rfl rfl rfl sz32 rfl (.t4 .nil) ?_)
 refine zE kr<|zd<|ze<|zX (OW:=[]) (O:=[boxA g5_0r3 32 (cw [v1,v2]),boxA g4_0r3 32 (cw [u1,u2]),boxA g9_0r2 32 (cw [g7_0r2,g7_1r2]),boxA g8_0r2 32 (cw [g3_0r2,g3_1r2]),boxA g4_0 32 (cw [g3_0,g3_1]),boxA b12 32 (cw [w39,w410]),boxA b11 32 (cw [w37,w48]),boxA b6 32 (cw [w34,w45]),boxA b3 34 (cw [wz,wz,wz,wz]),boxA b2 34 (cw [u1,u2,v1,v2]),boxA b1 27 [.int .i64 (e.f),.int .i64 (e.cx),.int .i64 (e.cy),.int .i64 (e.r0),.int .i64 (e.r1),.int .i64 (e.r2),.int .i64 (e.p1),.int .i64 (e.p2),.int .i64 (e.fd)]]) 12 mixed (.then .ret) kr<|e_u 0 rfl rfl (zb 1 ty32 rfl rfl (.t4 .nil))<|e_u 1 rfl rfl (zb 1 ty32 rfl rfl (.t4 .nil))<|e_u 3 rfl rfl (zb 0 ty32 rfl rfl (.t4 .nil))<|e_u 4 rfl rfl (zb 0 ty32 rfl rfl (.t4 .nil))<|e_u 6 rfl rfl (zb 1 ty32 rfl rfl (.t4 .nil))<|e_u 7 rfl rfl (zb 0 ty32 rfl rfl (.t4 .nil))<|zU (m':=[(43,.agg (cw [v1,v2]).toArray),(42,.agg (cw [u1,u2]).toArray),(40,.agg (cw [v1,v2]).toArray),(39,.agg (cw [v1,v2]).toArray),(37,.agg (cw [u1,u2]).toArray),(36,.agg (cw [u1,u2]).toArray),(12,.pointer (some ⟨g5_0r3,0,none⟩)),(11,.pointer (some ⟨g4_0r3,0,none⟩)),(10,.pointer (some ⟨g9_0r2,0,none⟩)),(9,.pointer (some ⟨g8_0r2,0,none⟩)),(8,.pointer (some ⟨g4_0,0,none⟩)),(7,.pointer (some ⟨b12,0,none⟩)),(6,.pointer (some ⟨b11,0,none⟩)),(5,.pointer (some ⟨b6,0,none⟩)),(4,.pointer (some ⟨b3,0,none⟩))]) (R':=[qF true g7_0r2 g7_1r2 (Cam.tP2 e),qF true g3_0r2 g3_1r2 (Cam.tP1 e),qF true g3_0 g3_1 (Po.ev (Cam.sq qx qy) (Cam.rl e)),eF w34 w45 (some (Cam.sq qx qy)),qF true w39 w410 ((2:Int):Rat),qF true w37 w48 ((1:Int):Rat),qF true w34 w45 (Cam.sq qx qy),qF true u1 u2 qx,qF true v1 v2 qy]) (mR rfl) (List.Perm.refl _) (List.Perm.refl _) ((.of [0,1,2,3,4,5,6,7,8] rfl):SelR _ _ _)<|a_start<|a_step 2 rfl (X:=Wd×Wd) (fun x=> .agg #[x.1.b,x.1.l,x.2.b,x.2.l]) (fun x=>[]) (fun x=>[qF true x.1 x.2 (qx*qx)]) [] kr rfl kr kr kr (fun _=> ?_) ?_
 ·
  refine zU (m':=[(37,.agg (cw [u1,u2]).toArray),(36,.agg (cw [u1,u2]).toArray)]) (R':=[qF true u1 u2 qx]) ((.c rfl (.c rfl .n)):SubM _ _) (List.Perm.refl _) (List.Perm.refl _) ((.c (j:=7) rfl .n):SelR _ _ _)<|e_one 0 (zp rfl rfl rfl rfl (.c rfl (.c rfl .n)) ce16 (zjb (k1:=true) (u1:=u1) (v1:=u2) (q1:=qx) (k2:=true) (u2:=u1) (v2:=u2) (q2:=qx) (hl:=by first|rfl|assumption|omega|decide|(simp;done))) (.c (j:=0) rfl (.c (j:=0) rfl .n)) ?_)
  rintro ⟨u2_1r4,u2_2r4⟩ -
  dsimp only [aq,nq,cq]
  refine zE kr ?_
  exact zS (u2_1r4,u2_2r4) trivial ((.c rfl .n):SubM _ _) (ho:=oN) (s0 rfl)
 refine a_step 5 rfl (X:=Wd×Wd) (fun x=> .agg #[x.1.b,x.1.l,x.2.b,x.2.l]) (fun x=>[]) (fun x=>[qF true x.1 x.2 (qy*qy)]) [] kr rfl kr kr kr (fun _=> ?_) ?_
 ·
  refine zU (m':=[(40,.agg (cw [v1,v2]).toArray),(39,.agg (cw [v1,v2]).toArray)]) (R':=[qF true v1 v2 qy]) ((.c rfl (.c rfl .n)):SubM _ _) (List.Perm.refl _) (List.Perm.refl _) ((.c (j:=8) rfl .n):SelR _ _ _)<|e_one 0 (zp rfl rfl rfl rfl (.c rfl (.c rfl .n)) ce16 (zjb (k1:=true) (u1:=v1) (v1:=v2) (q1:=qy) (k2:=true) (u2:=v1) (v2:=v2) (q2:=qy) (hl:=by first|rfl|assumption|omega|decide|(simp;done))) (.c (j:=0) rfl (.c (j:=0) rfl .n)) ?_)
  rintro ⟨u5_1r4,u5_2r4⟩ -
  dsimp only [aq,nq,cq]
  refine zE kr ?_
  exact zS (u5_1r4,u5_2r4) trivial ((.c rfl .n):SubM _ _) (ho:=oN) (s0 rfl)
 refine a_step 8 rfl (X:=Wd×Wd) (fun x=> .agg #[x.1.b,x.1.l,x.2.b,x.2.l]) (fun x=>[]) (fun x=>[qF true x.1 x.2 (qx*qy)]) [] kr rfl kr kr kr (fun _=> ?_) ?_
 ·
  refine zU (m':=[(43,.agg (cw [v1,v2]).toArray),(42,.agg (cw [u1,u2]).toArray)]) (R':=[qF true u1 u2 qx,qF true v1 v2 qy]) ((.c rfl (.c rfl .n)):SubM _ _) (List.Perm.refl _) (List.Perm.refl _) ((.of [7,8] rfl):SelR _ _ _)<|e_one 0 (zp rfl rfl rfl rfl (.c rfl (.c rfl .n)) ce16 (zjb (k1:=true) (u1:=u1) (v1:=u2) (q1:=qx) (k2:=true) (u2:=v1) (v2:=v2) (q2:=qy) (hl:=by first|rfl|assumption|omega|decide|(simp;done))) (.c (j:=0) rfl (.c (j:=1) rfl .n)) ?_)
  rintro ⟨u8_1r4,u8_2r4⟩ -
  dsimp only [aq,nq,cq]
  refine zE kr ?_
  exact zS (u8_1r4,u8_2r4) trivial ((.c rfl .n):SubM _ _) (ho:=oN) (s0 rfl)
 refine a_step 9 rfl (X:=Nat) (fun x=> .pointer (some ⟨x,0,none⟩)) (fun x=>[boxA x 32 [.bool false,.slice none 0 0,.bool false,.slice none 0 0]]) (fun x=>[]) [] kr rfl kr kr kr (fun _=> ?_) ?_
 ·
  refine zU (m':=[]) (R':=[]) (.n:SubM _ _) (List.Perm.refl _) (List.Perm.refl _) sN<|e_one 0 (zEa rfl rfl rfl rfl (zq zr32 rfl) (fun u9_1r4 _=> ?_))
  refine zE kr ?_
  exact zS u9_1r4 trivial ((.c rfl .n):SubM _ _) (ho:=(o0 rfl)) sN
 refine a_step 10 rfl (X:=Nat) (fun x=> .pointer (some ⟨x,0,none⟩)) (fun x=>[boxA x 32 [.bool false,.slice none 0 0,.bool false,.slice none 0 0]]) (fun x=>[]) [] kr rfl kr kr kr (fun _=> ?_) ?_
 ·
  refine zU (m':=[]) (R':=[]) (.n:SubM _ _) (List.Perm.refl _) (List.Perm.refl _) sN<|e_one 0 (zEa rfl rfl rfl rfl (zq zr32 rfl) (fun u10_1r4 _=> ?_))
  refine zE kr ?_
  exact zS u10_1r4 trivial ((.c rfl .n):SubM _ _) (ho:=(o0 rfl)) sN
 refine a_step 11 rfl (X:=Nat) (fun x=> .pointer (some ⟨x,0,none⟩)) (fun x=>[boxA x 32 [.bool false,.slice none 0 0,.bool false,.slice none 0 0]]) (fun x=>[]) [] kr rfl kr kr kr (fun _=> ?_) ?_
 ·
  refine zU (m':=[]) (R':=[]) (.n:SubM _ _) (List.Perm.refl _) (List.Perm.refl _) sN<|e_one 0 (zEa rfl rfl rfl rfl (zq zr32 rfl) (fun u11_1r4 _=> ?_))
  refine zE kr ?_
  exact zS u11_1r4 trivial ((.c rfl .n):SubM _ _) (ho:=(o0 rfl)) sN
 refine a_fin (k':=3) (L':=(lb 15 4095)) kr kr kr kr kr kr kr ?_
 rintro g11_0r4 g10_0r4 g9_0r4 ⟨g8_0r4,g8_1r4⟩ ⟨g5_0r4,g5_1r4⟩ ⟨g2_0r4,g2_1r4⟩
 refine zU (m':=[(15,.pointer (some ⟨g11_0r4,0,none⟩)),(14,.pointer (some ⟨g10_0r4,0,none⟩)),(13,.pointer (some ⟨g9_0r4,0,none⟩)),(44,.agg (cw [g8_0r4,g8_1r4]).toArray),(41,.agg (cw [g5_0r4,g5_1r4]).toArray),(38,.agg (cw [g2_0r4,g2_1r4]).toArray),(43,.agg (cw [v1,v2]).toArray),(42,.agg (cw [u1,u2]).toArray),(40,.agg (cw [v1,v2]).toArray),(39,.agg (cw [v1,v2]).toArray),(37,.agg (cw [u1,u2]).toArray),(36,.agg (cw [u1,u2]).toArray),(12,.pointer (some ⟨g5_0r3,0,none⟩)),(11,.pointer (some ⟨g4_0r3,0,none⟩)),(10,.pointer (some ⟨g9_0r2,0,none⟩)),(9,.pointer (some ⟨g8_0r2,0,none⟩)),(8,.pointer (some ⟨g4_0,0,none⟩)),(7,.pointer (some ⟨b12,0,none⟩)),(6,.pointer (some ⟨b11,0,none⟩)),(5,.pointer (some ⟨b6,0,none⟩)),(4,.pointer (some ⟨b3,0,none⟩))]) (OW':=[boxA g11_0r4 32 (cw [wz,wz]),boxA g10_0r4 32 (cw [wz,wz]),boxA g9_0r4 32 (cw [wz,wz])]) (R':=[qF true g8_0r4 g8_1r4 (qx*qy),qF true g5_0r4 g5_1r4 (qy*qy),qF true g2_0r4 g2_1r4 (qx*qx),qF true g7_0r2 g7_1r2 (Cam.tP2 e),qF true g3_0r2 g3_1r2 (Cam.tP1 e),qF true g3_0 g3_1 (Po.ev (Cam.sq qx qy) (Cam.rl e)),eF w34 w45 (some (Cam.sq qx qy)),qF true w39 w410 ((2:Int):Rat),qF true w37 w48 ((1:Int):Rat),qF true w34 w45 (Cam.sq qx qy),qF true u1 u2 qx,qF true v1 v2 qy]) (mR rfl) (List.Perm.refl _) (List.Perm.refl _) ((.of [0,1,2,3,4,5,6,7,8,9,10,11] rfl):SelR _ _ _)<|zta (zY (i:=2) rfl)<|e_one 12 (zt kr rfl rfl rfl rfl rfl sz32 rfl (.t4 .nil) ?_)
 refine zta (zY (i:=2) rfl)<|e_one 13 (zt kr rfl rfl rfl rfl rfl sz32 rfl (.t4 .nil) ?_)
 refine zta (zY (i:=2) rfl)<|e_one 14 (zt kr rfl rfl rfl rfl rfl sz32 rfl (.t4 .nil) ?_)
 refine zE kr<|zd<|ze<|zsa (.c (i:=11) rfl (.c (i:=0) rfl (.c (i:=0) rfl (.c (i:=0) rfl (.c (i:=0) rfl (.c (i:=0) rfl (.c (i:=0) rfl (.c (i:=0) rfl (.c (i:=0) rfl (.c (i:=0) rfl (.c (i:=0) rfl (.c (i:=0) rfl .n))))))))))))<|zX (OW:=[boxA b3 34 (cw [wz,wz,wz,wz])]) (O:=[boxA g11_0r4 32 (cw [g8_0r4,g8_1r4]),boxA g10_0r4 32 (cw [g5_0r4,g5_1r4]),boxA g9_0r4 32 (cw [g2_0r4,g2_1r4]),boxA g5_0r3 32 (cw [v1,v2]),boxA g4_0r3 32 (cw [u1,u2]),boxA g9_0r2 32 (cw [g7_0r2,g7_1r2]),boxA g8_0r2 32 (cw [g3_0r2,g3_1r2]),boxA g4_0 32 (cw [g3_0,g3_1]),boxA b12 32 (cw [w39,w410]),boxA b11 32 (cw [w37,w48]),boxA b6 32 (cw [w34,w45])]) 37 mixed (.then .ret) kr<|e_uw 0 rfl rfl (zb 10 ty32 rfl rfl (.t4 .nil))<|e_uw 1 rfl rfl (zb 5 ty32 rfl rfl (.t4 .nil))<|e_uw 2 rfl rfl (zb 8 ty32 rfl rfl (.t4 .nil))<|e_pv 3 rfl rfl (zza zr59 rfl ya sz32 (.c rfl (.c rfl (.c rfl .n))) (.c rfl rfl rfl (.t4 .nil) (.c rfl rfl rfl (.s4 (.t4 .nil)) (.c rfl rfl rfl (.s8 (.t4 .nil)) .n))))<|e_uw 4 rfl rfl (zb 9 ty32 rfl rfl (.t4 .nil))<|e_uw 5 rfl rfl (zb 7 ty32 rfl rfl (.t4 .nil))<|e_uw 6 rfl rfl (zb 1 ty32 rfl rfl (.t4 .nil))<|e_pv 7 rfl rfl (zza zr59 rfl ya sz32 (.c rfl (.c rfl (.c rfl .n))) (.c rfl rfl rfl (.t4 .nil) (.c rfl rfl rfl (.s4 (.t4 .nil)) (.c rfl rfl rfl (.s8 (.t4 .nil)) .n))))<|e_uw 8 rfl rfl (zb 10 ty32 rfl rfl (.t4 .nil))<|e_uw 9 rfl rfl (zb 6 ty32 rfl rfl (.t4 .nil))<|e_uw 10 rfl rfl (zb 11 ty32 rfl rfl (.t4 .nil))<|e_pv 11 rfl rfl (zza zr59 rfl ya sz32 (.c rfl (.c rfl (.c rfl .n))) (.c rfl rfl rfl (.t4 .nil) (.c rfl rfl rfl (.s4 (.t4 .nil)) (.c rfl rfl rfl (.s8 (.t4 .nil)) .n))))<|e_uw 12 rfl rfl (zb 9 ty32 rfl rfl (.t4 .nil))<|e_uw 13 rfl rfl (zb 6 ty32 rfl rfl (.t4 .nil))<|e_uw 14 rfl rfl (zb 3 ty32 rfl rfl (.t4 .nil))<|e_pv 15 rfl rfl (zza zr59 rfl ya sz32 (.c rfl (.c rfl (.c rfl .n))) (.c rfl rfl rfl (.t4 .nil) (.c rfl rfl rfl (.s4 (.t4 .nil)) (.c rfl rfl rfl (.s8 (.t4 .nil)) .n))))<|e_uw 18 rfl rfl (zb 10 ty32 rfl rfl (.t4 .nil))<|e_uw 19 rfl rfl (zb 4 ty32 rfl rfl (.t4 .nil))<|e_uw 20 rfl rfl (zb 8 ty32 rfl rfl (.t4 .nil))<|e_pv 21 rfl rfl (zza zr59 rfl ya sz32 (.c rfl (.c rfl (.c rfl .n))) (.c rfl rfl rfl (.t4 .nil) (.c rfl rfl rfl (.s4 (.t4 .nil)) (.c rfl rfl rfl (.s8 (.t4 .nil)) .n))))<|e_uw 22 rfl rfl (zb 10 ty32 rfl rfl (.t4 .nil))<|e_uw 23 rfl rfl (zb 7 ty32 rfl rfl (.t4 .nil))<|e_uw 24 rfl rfl (zb 11 ty32 rfl rfl (.t4 .nil))<|e_pv 25 rfl rfl (zza zr59 rfl ya sz32 (.c rfl (.c rfl (.c rfl .n))) (.c rfl rfl rfl (.t4 .nil) (.c rfl rfl rfl (.s4 (.t4 .nil)) (.c rfl rfl rfl (.s8 (.t4 .nil)) .n)))) ?_
 refine e_uw 26 rfl rfl (zb 9 ty32 rfl rfl (.t4 .nil))<|e_uw 27 rfl rfl (zb 7 ty32 rfl rfl (.t4 .nil))<|e_uw 28 rfl rfl (zb 2 ty32 rfl rfl (.t4 .nil))<|e_pv 29 rfl rfl (zza zr59 rfl ya sz32 (.c rfl (.c rfl (.c rfl .n))) (.c rfl rfl rfl (.t4 .nil) (.c rfl rfl rfl (.s4 (.t4 .nil)) (.c rfl rfl rfl (.s8 (.t4 .nil)) .n))))<|e_uw 30 rfl rfl (zb 9 ty32 rfl rfl (.t4 .nil))<|e_uw 31 rfl rfl (zb 6 ty32 rfl rfl (.t4 .nil))<|e_uw 32 rfl rfl (zb 1 ty32 rfl rfl (.t4 .nil))<|e_pv 33 rfl rfl (zza zr59 rfl ya sz32 (.c rfl (.c rfl (.c rfl .n))) (.c rfl rfl rfl (.t4 .nil) (.c rfl rfl rfl (.s4 (.t4 .nil)) (.c rfl rfl rfl (.s8 (.t4 .nil)) .n))))<|zU (m':=[(78,.agg (cw [w39,w410,g7_0r2,g7_1r2,g8_0r4,g8_1r4]).toArray),(74,.agg (cw [w39,w410,g3_0r2,g3_1r2,g5_0r4,g5_1r4]).toArray),(70,.agg (cw [w37,w48,g3_0r2,g3_1r2,w34,w45]).toArray),(66,.agg (cw [w37,w48,v1,v2,g3_0,g3_1]).toArray),(60,.agg (cw [w39,w410,g7_0r2,g7_1r2,g2_0r4,g2_1r4]).toArray),(56,.agg (cw [w37,w48,g7_0r2,g7_1r2,w34,w45]).toArray),(52,.agg (cw [w39,w410,g3_0r2,g3_1r2,g8_0r4,g8_1r4]).toArray),(48,.agg (cw [w37,w48,u1,u2,g3_0,g3_1]).toArray),(4,.pointer (some ⟨b3,0,none⟩))]) (R':=[qF true g8_0r4 g8_1r4 (qx*qy),qF true g5_0r4 g5_1r4 (qy*qy),qF true g2_0r4 g2_1r4 (qx*qx),qF true g7_0r2 g7_1r2 (Cam.tP2 e),qF true g3_0r2 g3_1r2 (Cam.tP1 e),qF true g3_0 g3_1 (Po.ev (Cam.sq qx qy) (Cam.rl e)),eF w34 w45 (some (Cam.sq qx qy)),qF true w39 w410 ((2:Int):Rat),qF true w37 w48 ((1:Int):Rat),qF true w34 w45 (Cam.sq qx qy),qF true u1 u2 qx,qF true v1 v2 qy]) (mR rfl) (List.Perm.refl _) (List.Perm.refl _) ((.of [0,1,2,3,4,5,6,7,8,9,10,11] rfl):SelR _ _ _)<|a_start<|a_step 16 rfl (X:=Nat) (fun x=> .slice (some ⟨x,0,none⟩) 4 4) (fun x=>[]) (fun x=>[slF rT3 (some ⟨x,0,none⟩) 4 ([(((1:Int):Rat),qx,(Po.ev (Cam.sq qx qy) (Cam.rl e))),(((2:Int):Rat),(Cam.tP1 e),(qx*qy)),(((1:Int):Rat),(Cam.tP2 e),(Cam.sq qx qy)),(((2:Int):Rat),(Cam.tP2 e),(qx*qx))])]) [] kr rfl kr kr kr (fun _=> ?_) ?_
 ·
  refine zU (m':=[(60,.agg (cw [w39,w410,g7_0r2,g7_1r2,g2_0r4,g2_1r4]).toArray),(56,.agg (cw [w37,w48,g7_0r2,g7_1r2,w34,w45]).toArray),(52,.agg (cw [w39,w410,g3_0r2,g3_1r2,g8_0r4,g8_1r4]).toArray),(48,.agg (cw [w37,w48,u1,u2,g3_0,g3_1]).toArray)]) (R':=[qF true g8_0r4 g8_1r4 (qx*qy),qF true g2_0r4 g2_1r4 (qx*qx),qF true g7_0r2 g7_1r2 (Cam.tP2 e),qF true g3_0r2 g3_1r2 (Cam.tP1 e),qF true g3_0 g3_1 (Po.ev (Cam.sq qx qy) (Cam.rl e)),eF w34 w45 (some (Cam.sq qx qy)),qF true w39 w410 ((2:Int):Rat),qF true w37 w48 ((1:Int):Rat),qF true w34 w45 (Cam.sq qx qy),qF true u1 u2 qx]) (mR rfl) (List.Perm.refl _) (List.Perm.refl _) ((.of [0,2,3,4,5,6,7,8,9,10] rfl):SelR _ _ _)<|e_one 0 (zEa rfl rfl rfl rfl (zy (r:=rT3) (k:=4) Tryz.underlying69 inf59 rfl dd dd dd (.c (x:=(((1:Int):Rat),qx,(Po.ev (Cam.sq qx qy) (Cam.rl e)))) (cs:=[w37.b,w37.l,w48.b,w48.l,u1.b,u1.l,u2.b,u2.l,g3_0.b,g3_0.l,g3_1.b,g3_1.l]) (w37,w48,u1,u2,g3_0,g3_1) rfl rfl rfl (fun g hr=>⟨Holds.get 7 rfl hr,Holds.get 9 rfl hr,Holds.get 4 rfl hr⟩) (.c (x:=(((2:Int):Rat),(Cam.tP1 e),(qx*qy))) (cs:=[w39.b,w39.l,w410.b,w410.l,g3_0r2.b,g3_0r2.l,g3_1r2.b,g3_1r2.l,g8_0r4.b,g8_0r4.l,g8_1r4.b,g8_1r4.l]) (w39,w410,g3_0r2,g3_1r2,g8_0r4,g8_1r4) rfl rfl rfl (fun g hr=>⟨Holds.get 6 rfl hr,Holds.get 3 rfl hr,Holds.get 0 rfl hr⟩) (.c (x:=(((1:Int):Rat),(Cam.tP2 e),(Cam.sq qx qy))) (cs:=[w37.b,w37.l,w48.b,w48.l,g7_0r2.b,g7_0r2.l,g7_1r2.b,g7_1r2.l,w34.b,w34.l,w45.b,w45.l]) (w37,w48,g7_0r2,g7_1r2,w34,w45) rfl rfl rfl (fun g hr=>⟨Holds.get 7 rfl hr,Holds.get 2 rfl hr,Holds.get 8 rfl hr⟩) (.c (x:=(((2:Int):Rat),(Cam.tP2 e),(qx*qx))) (cs:=[w39.b,w39.l,w410.b,w410.l,g7_0r2.b,g7_0r2.l,g7_1r2.b,g7_1r2.l,g2_0r4.b,g2_0r4.l,g2_1r4.b,g2_1r4.l]) (w39,w410,g7_0r2,g7_1r2,g2_0r4,g2_1r4) rfl rfl rfl (fun g hr=>⟨Holds.get 6 rfl hr,Holds.get 2 rfl hr,Holds.get 1 rfl hr⟩) .n))))) (fun u16_1r5 _=> ?_))
  refine zka 0 rfl .z<|zE kr ?_
  exact zS u16_1r5 trivial ((.c rfl .n):SubM _ _) (ho:=oN) (s0 rfl)
 refine a_step 17 rfl (X:=Wd×Wd) (fun x=> .agg #[x.1.b,x.1.l,x.2.b,x.2.l]) (fun x=>[]) (fun x=>[qF true x.1 x.2 (Cam.tri ([(((1:Int):Rat),qx,(Po.ev (Cam.sq qx qy) (Cam.rl e))),(((2:Int):Rat),(Cam.tP1 e),(qx*qy)),(((1:Int):Rat),(Cam.tP2 e),(Cam.sq qx qy)),(((2:Int):Rat),(Cam.tP2 e),(qx*qx))]))]) [0] kr rfl kr kr kr (fun _=> ?_) ?_
 ·
  rintro g16_0r5
  refine zU (m':=[(61,.slice (some ⟨g16_0r5,0,none⟩) 4 4)]) (R':=[slF rT3 (some ⟨g16_0r5,0,none⟩) 4 ([(((1:Int):Rat),qx,(Po.ev (Cam.sq qx qy) (Cam.rl e))),(((2:Int):Rat),(Cam.tP1 e),(qx*qy)),(((1:Int):Rat),(Cam.tP2 e),(Cam.sq qx qy)),(((2:Int):Rat),(Cam.tP2 e),(qx*qx))])]) ((.c rfl .n):SubM _ _) (List.Perm.refl _) (List.Perm.refl _) (s0 rfl)<|e_one 0 (zp rfl rfl rfl rfl (.c rfl .n) ce43 (zRe (p:=some ⟨g16_0r5,0,none⟩) (n:=4) (cap:=4) (l:=[(((1:Int):Rat),qx,(Po.ev (Cam.sq qx qy) (Cam.rl e))),(((2:Int):Rat),(Cam.tP1 e),(qx*qy)),(((1:Int):Rat),(Cam.tP2 e),(Cam.sq qx qy)),(((2:Int):Rat),(Cam.tP2 e),(qx*qx))]) (hn:=by first|rfl|assumption|omega|decide|(simp;done)) (hn9:=by first|rfl|assumption|omega|decide|(simp;done)) (hl:=by exact Cam.t3A_cons om om om (Cam.t3A_cons om om om (Cam.t3A_cons om om om (Cam.t3A_cons om om om (Cam.t3A_nil dd)))))) (.c (j:=0) rfl .n) ?_)
  rintro ⟨u17_1r5,u17_2r5⟩ -
  dsimp only [aq,nq,cq]
  refine zE kr ?_
  exact zS (u17_1r5,u17_2r5) trivial ((.c rfl .n):SubM _ _) (ho:=oN) (s0 rfl)
 refine a_step 34 rfl (X:=Nat) (fun x=> .slice (some ⟨x,0,none⟩) 4 4) (fun x=>[]) (fun x=>[slF rT3 (some ⟨x,0,none⟩) 4 ([(((1:Int):Rat),qy,(Po.ev (Cam.sq qx qy) (Cam.rl e))),(((1:Int):Rat),(Cam.tP1 e),(Cam.sq qx qy)),(((2:Int):Rat),(Cam.tP1 e),(qy*qy)),(((2:Int):Rat),(Cam.tP2 e),(qx*qy))])]) [] kr rfl kr kr kr (fun _=> ?_) ?_
 ·
  refine zU (m':=[(78,.agg (cw [w39,w410,g7_0r2,g7_1r2,g8_0r4,g8_1r4]).toArray),(74,.agg (cw [w39,w410,g3_0r2,g3_1r2,g5_0r4,g5_1r4]).toArray),(70,.agg (cw [w37,w48,g3_0r2,g3_1r2,w34,w45]).toArray),(66,.agg (cw [w37,w48,v1,v2,g3_0,g3_1]).toArray)]) (R':=[qF true g8_0r4 g8_1r4 (qx*qy),qF true g5_0r4 g5_1r4 (qy*qy),qF true g7_0r2 g7_1r2 (Cam.tP2 e),qF true g3_0r2 g3_1r2 (Cam.tP1 e),qF true g3_0 g3_1 (Po.ev (Cam.sq qx qy) (Cam.rl e)),eF w34 w45 (some (Cam.sq qx qy)),qF true w39 w410 ((2:Int):Rat),qF true w37 w48 ((1:Int):Rat),qF true w34 w45 (Cam.sq qx qy),qF true v1 v2 qy]) (mR rfl) (List.Perm.refl _) (List.Perm.refl _) ((.of [0,1,3,4,5,6,7,8,9,11] rfl):SelR _ _ _)<|e_one 0 (zEa rfl rfl rfl rfl (zy (r:=rT3) (k:=4) Tryz.underlying69 inf59 rfl dd dd dd (.c (x:=(((1:Int):Rat),qy,(Po.ev (Cam.sq qx qy) (Cam.rl e)))) (cs:=[w37.b,w37.l,w48.b,w48.l,v1.b,v1.l,v2.b,v2.l,g3_0.b,g3_0.l,g3_1.b,g3_1.l]) (w37,w48,v1,v2,g3_0,g3_1) rfl rfl rfl (fun g hr=>⟨Holds.get 7 rfl hr,Holds.get 9 rfl hr,Holds.get 4 rfl hr⟩) (.c (x:=(((1:Int):Rat),(Cam.tP1 e),(Cam.sq qx qy))) (cs:=[w37.b,w37.l,w48.b,w48.l,g3_0r2.b,g3_0r2.l,g3_1r2.b,g3_1r2.l,w34.b,w34.l,w45.b,w45.l]) (w37,w48,g3_0r2,g3_1r2,w34,w45) rfl rfl rfl (fun g hr=>⟨Holds.get 7 rfl hr,Holds.get 3 rfl hr,Holds.get 8 rfl hr⟩) (.c (x:=(((2:Int):Rat),(Cam.tP1 e),(qy*qy))) (cs:=[w39.b,w39.l,w410.b,w410.l,g3_0r2.b,g3_0r2.l,g3_1r2.b,g3_1r2.l,g5_0r4.b,g5_0r4.l,g5_1r4.b,g5_1r4.l]) (w39,w410,g3_0r2,g3_1r2,g5_0r4,g5_1r4) rfl rfl rfl (fun g hr=>⟨Holds.get 6 rfl hr,Holds.get 3 rfl hr,Holds.get 1 rfl hr⟩) (.c (x:=(((2:Int):Rat),(Cam.tP2 e),(qx*qy))) (cs:=[w39.b,w39.l,w410.b,w410.l,g7_0r2.b,g7_0r2.l,g7_1r2.b,g7_1r2.l,g8_0r4.b,g8_0r4.l,g8_1r4.b,g8_1r4.l]) (w39,w410,g7_0r2,g7_1r2,g8_0r4,g8_1r4) rfl rfl rfl (fun g hr=>⟨Holds.get 6 rfl hr,Holds.get 2 rfl hr,Holds.get 0 rfl hr⟩) .n))))) (fun u34_1r5 _=> ?_))
  refine zka 0 rfl .z<|zE kr ?_
  exact zS u34_1r5 trivial ((.c rfl .n):SubM _ _) (ho:=oN) (s0 rfl)
 refine a_step 35 rfl (X:=Wd×Wd) (fun x=> .agg #[x.1.b,x.1.l,x.2.b,x.2.l]) (fun x=>[]) (fun x=>[qF true x.1 x.2 (Cam.tri ([(((1:Int):Rat),qy,(Po.ev (Cam.sq qx qy) (Cam.rl e))),(((1:Int):Rat),(Cam.tP1 e),(Cam.sq qx qy)),(((2:Int):Rat),(Cam.tP1 e),(qy*qy)),(((2:Int):Rat),(Cam.tP2 e),(qx*qy))]))]) [0] kr rfl kr kr kr (fun _=> ?_) ?_
 ·
  rintro g34_0r5
  refine zU (m':=[(79,.slice (some ⟨g34_0r5,0,none⟩) 4 4)]) (R':=[slF rT3 (some ⟨g34_0r5,0,none⟩) 4 ([(((1:Int):Rat),qy,(Po.ev (Cam.sq qx qy) (Cam.rl e))),(((1:Int):Rat),(Cam.tP1 e),(Cam.sq qx qy)),(((2:Int):Rat),(Cam.tP1 e),(qy*qy)),(((2:Int):Rat),(Cam.tP2 e),(qx*qy))])]) ((.c rfl .n):SubM _ _) (List.Perm.refl _) (List.Perm.refl _) (s0 rfl)<|e_one 0 (zp rfl rfl rfl rfl (.c rfl .n) ce43 (zRe (p:=some ⟨g34_0r5,0,none⟩) (n:=4) (cap:=4) (l:=[(((1:Int):Rat),qy,(Po.ev (Cam.sq qx qy) (Cam.rl e))),(((1:Int):Rat),(Cam.tP1 e),(Cam.sq qx qy)),(((2:Int):Rat),(Cam.tP1 e),(qy*qy)),(((2:Int):Rat),(Cam.tP2 e),(qx*qy))]) (hn:=by first|rfl|assumption|omega|decide|(simp;done)) (hn9:=by first|rfl|assumption|omega|decide|(simp;done)) (hl:=by exact Cam.t3A_cons om om om (Cam.t3A_cons om om om (Cam.t3A_cons om om om (Cam.t3A_cons om om om (Cam.t3A_nil dd)))))) (.c (j:=0) rfl .n) ?_)
  rintro ⟨u35_1r5,u35_2r5⟩ -
  dsimp only [aq,nq,cq]
  refine zE kr ?_
  exact zS (u35_1r5,u35_2r5) trivial ((.c rfl .n):SubM _ _) (ho:=oN) (s0 rfl)
 refine a_step 36 rfl (X:=Wd×Wd×Wd×Wd) (fun x=> .agg #[x.2.2.1.b,x.2.2.1.l,x.2.2.2.b,x.2.2.2.l,x.1.b,x.1.l,x.2.1.b,x.2.1.l]) (fun x=>[]) (fun x=>[qF true x.1 x.2.1 (Cam.tri ([(((1:Int):Rat),qy,(Po.ev (Cam.sq qx qy) (Cam.rl e))),(((1:Int):Rat),(Cam.tP1 e),(Cam.sq qx qy)),(((2:Int):Rat),(Cam.tP1 e),(qy*qy)),(((2:Int):Rat),(Cam.tP2 e),(qx*qy))])),qF true x.2.2.1 x.2.2.2 (Cam.tri ([(((1:Int):Rat),qx,(Po.ev (Cam.sq qx qy) (Cam.rl e))),(((2:Int):Rat),(Cam.tP1 e),(qx*qy)),(((1:Int):Rat),(Cam.tP2 e),(Cam.sq qx qy)),(((2:Int):Rat),(Cam.tP2 e),(qx*qx))]))]) [0,2] kr rfl kr kr kr (fun _=> ?_) ?_
 ·
  rintro ⟨g35_0r5,g35_1r5⟩
  rintro ⟨g17_0r5,g17_1r5⟩
  refine zU (m':=[(80,.agg (cw [g35_0r5,g35_1r5]).toArray),(62,.agg (cw [g17_0r5,g17_1r5]).toArray)]) (R':=[qF true g35_0r5 g35_1r5 (Cam.tri ([(((1:Int):Rat),qy,(Po.ev (Cam.sq qx qy) (Cam.rl e))),(((1:Int):Rat),(Cam.tP1 e),(Cam.sq qx qy)),(((2:Int):Rat),(Cam.tP1 e),(qy*qy)),(((2:Int):Rat),(Cam.tP2 e),(qx*qy))])),qF true g17_0r5 g17_1r5 (Cam.tri ([(((1:Int):Rat),qx,(Po.ev (Cam.sq qx qy) (Cam.rl e))),(((2:Int):Rat),(Cam.tP1 e),(qx*qy)),(((1:Int):Rat),(Cam.tP2 e),(Cam.sq qx qy)),(((2:Int):Rat),(Cam.tP2 e),(qx*qx))]))]) ((.c rfl (.c rfl .n)):SubM _ _) (List.Perm.refl _) (List.Perm.refl _) ((.of [0,1] rfl):SelR _ _ _)<|e_pv 0 rfl rfl (zO zr34 rfl yb (.c sz32 (.c sz32 .n)) (.c rfl (.c rfl .n)) (.c rfl rfl rfl (.t4 .nil) (.c rfl rfl rfl (.s4 (.t4 .nil)) .n)))<|zE kr ?_
  exact zS (g35_0r5,g35_1r5,g17_0r5,g17_1r5) trivial ((.c rfl .n):SubM _ _) (ho:=oN) ((.of [0,1] rfl):SelR _ _ _)
 refine a_fin (k':=1) (L':=(lb 38 137438953471)) kr kr kr kr kr kr kr ?_
 rintro ⟨g36_0r5,g36_1r5,g36_2r5,g36_3r5⟩ _ _ _ _
 refine zU (m':=[(81,.agg (cw [g36_2r5,g36_3r5,g36_0r5,g36_1r5]).toArray),(78,.agg (cw [w39,w410,g7_0r2,g7_1r2,g8_0r4,g8_1r4]).toArray),(74,.agg (cw [w39,w410,g3_0r2,g3_1r2,g5_0r4,g5_1r4]).toArray),(70,.agg (cw [w37,w48,g3_0r2,g3_1r2,w34,w45]).toArray),(66,.agg (cw [w37,w48,v1,v2,g3_0,g3_1]).toArray),(60,.agg (cw [w39,w410,g7_0r2,g7_1r2,g2_0r4,g2_1r4]).toArray),(56,.agg (cw [w37,w48,g7_0r2,g7_1r2,w34,w45]).toArray),(52,.agg (cw [w39,w410,g3_0r2,g3_1r2,g8_0r4,g8_1r4]).toArray),(48,.agg (cw [w37,w48,u1,u2,g3_0,g3_1]).toArray),(4,.pointer (some ⟨b3,0,none⟩))]) (OW':=[boxA b3 34 (cw [wz,wz,wz,wz])]) (R':=[qF true g36_0r5 g36_1r5 (Cam.tri ([(((1:Int):Rat),qy,(Po.ev (Cam.sq qx qy) (Cam.rl e))),(((1:Int):Rat),(Cam.tP1 e),(Cam.sq qx qy)),(((2:Int):Rat),(Cam.tP1 e),(qy*qy)),(((2:Int):Rat),(Cam.tP2 e),(qx*qy))])),qF true g36_2r5 g36_3r5 (Cam.tri ([(((1:Int):Rat),qx,(Po.ev (Cam.sq qx qy) (Cam.rl e))),(((2:Int):Rat),(Cam.tP1 e),(qx*qy)),(((1:Int):Rat),(Cam.tP2 e),(Cam.sq qx qy)),(((2:Int):Rat),(Cam.tP2 e),(qx*qx))])),qF true g8_0r4 g8_1r4 (qx*qy),qF true g5_0r4 g5_1r4 (qy*qy),qF true g2_0r4 g2_1r4 (qx*qx),qF true g7_0r2 g7_1r2 (Cam.tP2 e),qF true g3_0r2 g3_1r2 (Cam.tP1 e),qF true g3_0 g3_1 (Po.ev (Cam.sq qx qy) (Cam.rl e)),eF w34 w45 (some (Cam.sq qx qy)),qF true w39 w410 ((2:Int):Rat),qF true w37 w48 ((1:Int):Rat),qF true w34 w45 (Cam.sq qx qy),qF true u1 u2 qx,qF true v1 v2 qy]) (mR rfl) (List.Perm.refl _) (List.Perm.refl _) ((.of [0,1,6,7,8,9,10,11,12,13,14,15,16,17] rfl):SelR _ _ _)<|e_one 37 (zt kr rfl rfl rfl rfl rfl sz34 rfl (.t8 .nil) ?_)
 refine zE kr<|zd<|zC ?_
 exact zu Tryz.results13 (g36_2r5,g36_3r5,g36_0r5,g36_1r5) trivial (zo 0 ty34 rfl rfl (.t8 .nil)) rfl (ho:=oN) ((.e (j:=1) rfl (by rw [Cam.dX_tri]) (.e (j:=0) rfl (by rw [Cam.dY_tri]) .n)):SelR _ _ _)
end Go.Proofs.YtahiajepeodhoaaGreat.Sp
namespace Go.Proofs.YtahiajepeodhoaaGreat.Sp
open Go
set_option linter.unusedVariables false
set_option maxRecDepth 100000
set_option maxHeartbeats 8000000
theorem zie {e:Cam.Ln} {u1:Wd} {u2:Wd} {v1:Wd} {v2:Wd} {xo:Option Rat} {yo:Option Rat} (hin:Cam.In e) (hok:Cam.ok e) (hx:yd (xo.getD 0)≤100) (hy:yd (yo.getD 0)≤100) (hx1:xo.isSome=true) (hy1:yo.isSome=true):Con Tryz.prog 10 [.agg #[.int .i64 (e.f),.int .i64 (e.cx),.int .i64 (e.cy),.int .i64 (e.r0),.int .i64 (e.r1),.int .i64 (e.r2),.int .i64 (e.p1),.int .i64 (e.p2),.int .i64 (e.fd)],.agg #[u1.b,u1.l,u2.b,u2.l,v1.b,v1.l,v2.b,v2.l]] [] [eF u1 u2 xo,eF v1 v2 yo] (Y:=Unit) (fun y=>True) (fun y=> .bool (decide (Cam.ins e (xo.getD 0) (yo.getD 0)))) (fun y=>[]) (fun y=>[]):=by
 refine zk Tryz.func10 rfl rfl rfl (fun c=> ?_)
 show RunC _ _ _ _ _ [(0,.agg #[.int .i64 (e.f),.int .i64 (e.cx),.int .i64 (e.cy),.int .i64 (e.r0),.int .i64 (e.r1),.int .i64 (e.r2),.int .i64 (e.p1),.int .i64 (e.p2),.int .i64 (e.fd)]),(1,.agg #[u1.b,u1.l,u2.b,u2.l,v1.b,v1.l,v2.b,v2.l])] [] [eF u1 u2 xo,eF v1 v2 yo]
 have hlq:=Cam.lim_hq hin hok
 have hsq:=Cam.sq_hq hx hy
 refine ze<|za<|zI rfl rfl (zR rfl rfl) (fun b1=> ?_)
 refine zI rfl rfl (zR rfl rfl) (fun b2=> ?_)
 refine e_p (zc rfl)<|zf<|zd<|ze<|zEb (qF xo.isSome u1 u2 (xo.getD 0)) (eF_weak 0 rfl)<|zEb (qF yo.isSome v1 v2 (yo.getD 0)) (eF_weak 2 rfl) ?_
 have e3:xo.isSome=true:=by exact hx1
 rw [e3]
 have e4:yo.isSome=true:=by exact hy1
 rw [e4]
 refine zX (OW:=[]) (O:=[boxA b2 34 (cw [u1,u2,v1,v2]),boxA b1 27 [.int .i64 (e.f),.int .i64 (e.cx),.int .i64 (e.cy),.int .i64 (e.r0),.int .i64 (e.r1),.int .i64 (e.r2),.int .i64 (e.p1),.int .i64 (e.p2),.int .i64 (e.fd)]]) 100000 mixed (.then .ret) kr<|e_u 0 rfl rfl (zb 0 ty34 rfl rfl (.t8 .nil))<|e_u 2 rfl rfl (zb 1 ty27 rfl rfl (.t8 (.take .nil)))<|e_one 1 (zp rfl rfl rfl rfl (.c rfl .n) ce20 (znd (u1:=u1) (u2:=u2) (v1:=v1) (v2:=v2) (qx:=(xo.getD 0)) (qy:=(yo.getD 0)) (hx:=ass) (hy:=ass)) (.c (j:=1) rfl (.c (j:=0) rfl .n)) ?_)
 rintro ⟨w35,w46⟩ -
 dsimp only [aq,nq,cq]
 refine e_one 3 (zp rfl rfl rfl rfl (.c rfl .n) ce37 (zef (e:=e) (hin:=ass) (hok:=ass)) (.n) ?_)
 rintro ⟨w37,w48⟩ -
 dsimp only [aq,nq,cq]
 refine e_one 4 (zhb rfl rfl rfl rfl (.c rfl (.c rfl .n)) ce21 (zBc (k1:=true) (u1:=w35) (v1:=w46) (q1:=(Cam.sq (xo.getD 0) (yo.getD 0))) (k2:=true) (u2:=w37) (v2:=w48) (q2:=(Cam.lim e)) (hl:=cbo)) (.c (j:=1) rfl (.c (j:=0) rfl .n)) ?_)
 refine e_pv 5 rfl rfl (zyb rfl rfl)<|e_pv 6 rfl rfl (zc rfl)<|zE kr<|zd<|zC ?_
 exact zu Tryz.results10 () trivial (zn rfl) (by exact congrArg Value.bool (decide_eq_decide.2 Cam.le_iff.symm)) (ho:=oN) sN
theorem zDc {e:Cam.Ln} {u1:Wd} {u2:Wd} {v1:Wd} {v2:Wd} {xo:Option Rat} {yo:Option Rat} (hin:Cam.In e):Con Tryz.prog 3 [.agg #[.int .i64 (e.f),.int .i64 (e.cx),.int .i64 (e.cy),.int .i64 (e.r0),.int .i64 (e.r1),.int .i64 (e.r2),.int .i64 (e.p1),.int .i64 (e.p2),.int .i64 (e.fd)],.agg #[u1.b,u1.l,u2.b,u2.l,v1.b,v1.l,v2.b,v2.l]] [] [eF u1 u2 xo,eF v1 v2 yo] (Y:=Unit) (fun y=>True) (fun y=> .bool true) (fun y=>[]) (fun y=>[]):=by
 refine zk Tryz.func3 rfl rfl rfl (fun c=> ?_)
 show RunC _ _ _ _ _ [(0,.agg #[.int .i64 (e.f),.int .i64 (e.cx),.int .i64 (e.cy),.int .i64 (e.r0),.int .i64 (e.r1),.int .i64 (e.r2),.int .i64 (e.p1),.int .i64 (e.p2),.int .i64 (e.fd)]),(1,.agg #[u1.b,u1.l,u2.b,u2.l,v1.b,v1.l,v2.b,v2.l])] [] [eF u1 u2 xo,eF v1 v2 yo]
 obtain ⟨hf1,hcx1,hcy1,hr01,hr11,hr21,hp11,hp21,hfd1⟩:=id hin
 refine ze<|za<|zI rfl rfl (zR rfl rfl) (fun b1=> ?_)
 refine zI rfl rfl (zR rfl rfl) (fun b2=> ?_)
 refine e_p (zc rfl)<|zf<|zd<|ze<|ze<|za<|zK rfl rfl (.n) ce6 (zWf) (.n)<|e_p (zkb rfl)<|zf<|zd<|zgb rfl rfl<|zA<|zd<|ze<|ze<|za<|e_ru (zb 0 ty34 rfl rfl (.t8 .nil))<|zua rfl rfl (zy (r:=rEE) (k:=1) Tryz.underlying56 inf34 rfl dd dd dd (.c (x:=(xo,yo)) (cs:=[u1.b,u1.l,u2.b,u2.l,v1.b,v1.l,v2.b,v2.l]) (u1,u2,v1,v2) rfl rfl rfl (fun g hr=>⟨Holds.get 0 rfl hr,Holds.get 1 rfl hr⟩) .n)) (fun b3 _=> ?_)
 refine zea 0 rfl .z<|zm rfl rfl (.c rfl .n) ce7 (zhf (p:=some ⟨b3,0,none⟩) (n:=1) (cap:=1) (l:=[(xo,yo)]) (hn:=by first|rfl|assumption|omega|(simp;done)|decide) (hn9:=by first|rfl|assumption|omega|(simp;done)|decide)) (.c (j:=0) rfl .n) ?_
 rintro b94 hsh
 dsimp only [aq,nq,cq]
 replace hsh:(b94=true→∀i,i<1→(yd ((([(xo,yo)]).getD i ((none:Option Rat),(none:Option Rat))).1.getD 0)≤100∧yd ((([(xo,yo)]).getD i ((none:Option Rat),(none:Option Rat))).2.getD 0)≤100)):=hsh
 refine e_p (zkb rfl)<|zf<|zd<|zYa rfl (fun h13=> ?_) (fun h13=> ?_)
 ·
  refine ze<|za<|e_p (zc rfl)<|zf<|zd<|zC<|zl ?_
  exact zu yc () trivial (zn rfl) rfl (ho:=oN) sN
 ·
  obtain ⟨hx,hy⟩:=hsh (by simpa using h13) 0 dd
  have hx:yd (xo.getD 0)≤100:=hx
  have hy:yd (yo.getD 0)≤100:=hy
  refine zA<|zd<|ze<|za<|e_ru (zb 2 ty27 rfl rfl (.t8 (.take .nil)))<|e_ru (zb 1 ty34 rfl rfl (.t8 .nil))<|zm rfl rfl (.c rfl (.c rfl .n)) ce8 (zZb (e:=e) (u1:=u1) (u2:=u2) (v1:=v1) (v2:=v2) (xo:=xo) (yo:=yo) (hin:=ass) (hx:=by first|rfl|assumption|omega|(simp;done)|decide) (hy:=by first|rfl|assumption|omega|(simp;done)|decide)) (.c (j:=1) rfl (.c (j:=2) rfl .n)) ?_
  rintro ⟨w35,w46,w57,w68⟩ hd
  dsimp only [aq,nq,cq]
  replace hd:(¬(Cam.pc e [(xo,yo)]=0∧Cam.ins e (xo.getD 0) (yo.getD 0))→w35=wz∧w46=wz∧w57=wz∧w68=wz):=hd
  refine e_mv rfl<|e_p (zr rfl rfl)<|e_p (zr rfl rfl)<|zI rfl rfl (zq zr34 rfl) (fun b9=> ?_)
  refine zj 0 rfl rfl rfl rfl rfl sz34 rfl (.t8 .nil) .z<|e_p (zc rfl)<|zf<|zd<|ze<|za<|e_ru (zb 3 ty27 rfl rfl (.t8 (.take .nil)))<|e_ru (zb 2 ty34 rfl rfl (.t8 .nil))<|zua rfl rfl (zy (r:=rEE) (k:=1) Tryz.underlying56 inf34 rfl dd dd dd (.c (x:=(xo,yo)) (cs:=[u1.b,u1.l,u2.b,u2.l,v1.b,v1.l,v2.b,v2.l]) (u1,u2,v1,v2) rfl rfl rfl (fun g hr=>⟨Holds.get 3 rfl hr,Holds.get 4 rfl hr⟩) .n)) (fun b10 _=> ?_)
  refine zea 0 rfl .z<|zK rfl rfl (.c rfl (.c rfl .n)) ce9 (zQf (e:=e) (p:=some ⟨b10,0,none⟩) (n:=1) (cap:=1) (l:=[(xo,yo)]) (hin:=ass) (hn:=by first|rfl|assumption|omega|(simp;done)|decide) (hn9:=by first|rfl|assumption|omega|(simp;done)|decide)) (.c (j:=0) rfl .n)<|e_p (zc rfl)<|zf<|zd<|ze<|zLa (X:=Unit) (fun x=>True) (fun x=>[(31,.bool (decide (Cam.pc e [(xo,yo)]=0∧¬Cam.ins e (xo.getD 0) (yo.getD 0)))),(7,.int .i64 (Cam.pc e ([(xo,yo)]))),(6,.int .i64 (if (Cam.pc e [(xo,yo)]=0) then (if Cam.ins e (xo.getD 0) (yo.getD 0) then 0 else 15) else Cam.pc e [(xo,yo)])),(5,.pointer (some ⟨b9,0,none⟩)),(4,.bool false),(3,.pointer (some ⟨b2,0,none⟩)),(2,.pointer (some ⟨b1,0,none⟩))]) (fun x=>[boxA b9 34 (cw [w35,w46,w57,w68]),boxA b2 34 (cw [u1,u2,v1,v2]),boxA b1 27 [.int .i64 (e.f),.int .i64 (e.cx),.int .i64 (e.cy),.int .i64 (e.r0),.int .i64 (e.r1),.int .i64 (e.r2),.int .i64 (e.p1),.int .i64 (e.p2),.int .i64 (e.fd)]]) (fun x=>[slF rEE (some ⟨b10,0,none⟩) 1 ([(xo,yo)]),qF (decide (Cam.pc e [(xo,yo)]=0∧Cam.ins e (xo.getD 0) (yo.getD 0))) w35 w46 (if (Cam.pc e [(xo,yo)]=0∧Cam.ins e (xo.getD 0) (yo.getD 0)) then (Cam.dX e (xo.getD 0) (yo.getD 0)) else 0),qF (decide (Cam.pc e [(xo,yo)]=0∧Cam.ins e (xo.getD 0) (yo.getD 0))) w57 w68 (if (Cam.pc e [(xo,yo)]=0∧Cam.ins e (xo.getD 0) (yo.getD 0)) then (Cam.dY e (xo.getD 0) (yo.getD 0)) else 0),slF rEE (some ⟨b3,0,none⟩) 1 ([(xo,yo)]),eF u1 u2 xo,eF v1 v2 yo]) ?_ ?_
  ·
   refine za<|e_mv rfl<|e_p (zpa rfl rfl)<|zha rfl rfl (zia rfl) (fun h26=> ?_) (fun h26=> ?_)
   ·
    refine e_ru (zb 4 ty27 rfl rfl (.t8 (.take .nil)))<|e_ru (zb 3 ty34 rfl rfl (.t8 .nil))<|zK rfl rfl (.c rfl (.c rfl .n)) ce10 (zie (e:=e) (u1:=u1) (u2:=u2) (v1:=v1) (v2:=v2) (xo:=xo) (yo:=yo) (hin:=ass) (hok:=by exact (Cam.pc_0 h26).1) (hx:=by first|rfl|assumption|omega|(simp;done)|decide) (hy:=by first|rfl|assumption|omega|(simp;done)|decide) (hx1:=by exact (Cam.pc_0 h26).2.1) (hy1:=by exact (Cam.pc_0 h26).2.2)) (.c (j:=4) rfl (.c (j:=5) rfl .n))<|e_p (zJa rfl)<|e_p (zD rfl rfl)<|zf ?_
    exact zS () tt9 ((.e rfl (congrArg Value.bool cbu) (.of rfl)):SubM _ _) (ho:=((.of [1,2,2] rfl):PickO _ _ _)) ((.of [0,1,2,3,4,5] rfl):SelR _ _ _)
   ·
    refine e_no<|e_no<|e_no<|e_no<|e_p (zD rfl rfl)<|zf ?_
    exact zS () tt9 ((.e rfl (congrArg Value.bool cbu) (.of rfl)):SubM _ _) (ho:=((.of [1,2,2] rfl):PickO _ _ _)) ((.of [0,1,2,3,4,5] rfl):SelR _ _ _)
  ·
   rintro ⟨⟩ -
   try dsimp only [cw]
   refine zG rfl (fun h31=> ?_) (fun h31=> ?_)
   ·
    refine za<|e_p (zc rfl)<|zf<|zd<|ze<|ze<|za<|e_mv rfl<|e_p (zub rfl rfl)<|zf<|zd<|zfb rfl rfl<|zLa (X:=Unit) (fun x=>True) (fun x=>[(4,.bool true),(6,.int .i64 (if (Cam.pc e [(xo,yo)]=0) then (if Cam.ins e (xo.getD 0) (yo.getD 0) then 0 else 15) else Cam.pc e [(xo,yo)])),(5,.pointer (some ⟨b9,0,none⟩)),(3,.pointer (some ⟨b2,0,none⟩)),(2,.pointer (some ⟨b1,0,none⟩))]) (fun x=>[boxA b9 34 (cw [w35,w46,w57,w68]),boxA b2 34 (cw [u1,u2,v1,v2]),boxA b1 27 [.int .i64 (e.f),.int .i64 (e.cx),.int .i64 (e.cy),.int .i64 (e.r0),.int .i64 (e.r1),.int .i64 (e.r2),.int .i64 (e.p1),.int .i64 (e.p2),.int .i64 (e.fd)]]) (fun x=>[slF rEE (some ⟨b10,0,none⟩) 1 ([(xo,yo)]),qF (decide (Cam.pc e [(xo,yo)]=0∧Cam.ins e (xo.getD 0) (yo.getD 0))) w35 w46 (if (Cam.pc e [(xo,yo)]=0∧Cam.ins e (xo.getD 0) (yo.getD 0)) then (Cam.dX e (xo.getD 0) (yo.getD 0)) else 0),qF (decide (Cam.pc e [(xo,yo)]=0∧Cam.ins e (xo.getD 0) (yo.getD 0))) w57 w68 (if (Cam.pc e [(xo,yo)]=0∧Cam.ins e (xo.getD 0) (yo.getD 0)) then (Cam.dY e (xo.getD 0) (yo.getD 0)) else 0),slF rEE (some ⟨b3,0,none⟩) 1 ([(xo,yo)]),eF u1 u2 xo,eF v1 v2 yo]) ?_ ?_
    ·
     refine za<|e_mv rfl<|e_mv rfl<|e_p (zpa rfl rfl) ?_
     rw [show (decide (((if (Cam.pc e [(xo,yo)]=0) then (if Cam.ins e (xo.getD 0) (yo.getD 0) then 0 else 15) else Cam.pc e [(xo,yo)]):Int)=15))=true from by exact decide_eq_true (by first|exact if_neg h33|(rw [if_pos h31.1,if_neg h31.2]))]
     refine e_mv rfl<|e_ru (zb 0 ty34 rfl rfl (.t8 .nil))<|zK rfl rfl (.c rfl .n) ce11 (zfe (u1:=w35) (u2:=w46) (v1:=w57) (v2:=w68)) (.n) ?_
     rw [show (decide (Wd.zz w35 w46∧Wd.zz w57 w68))=true from by exact decide_eq_true (by obtain ⟨e1,e2,e3,e4⟩:=hd (by first|exact (fun k=>h33 k.1)|exact (fun k=>h31.2 k.2));rw [e1,e2,e3,e4];exact ⟨Wd.zz_wz,Wd.zz_wz⟩)]
     refine e_p (zD rfl rfl)<|e_p (zc rfl)<|zf ?_
     exact zS () tt9 (mR rfl) (ho:=((.of [0,0,0] rfl):PickO _ _ _)) ((.of [0,1,2,3,4,5] rfl):SelR _ _ _)
    ·
     rintro ⟨⟩ -
     try dsimp only [cw]
     refine zC<|zl ?_
     exact zu yc () trivial (zn rfl) rfl (ho:=oN) sN
   ·
    refine zA<|zd<|ze<|ze<|za<|e_mv rfl<|e_p (zub rfl rfl)<|zf<|zd<|zG rfl (fun h33=> ?_) (fun h33=> ?_)
    ·
     refine zLa (X:=Unit) (fun x=>True) (fun x=>[(4,.bool true),(6,.int .i64 (if (Cam.pc e [(xo,yo)]=0) then (if Cam.ins e (xo.getD 0) (yo.getD 0) then 0 else 15) else Cam.pc e [(xo,yo)])),(5,.pointer (some ⟨b9,0,none⟩)),(3,.pointer (some ⟨b2,0,none⟩)),(2,.pointer (some ⟨b1,0,none⟩))]) (fun x=>[boxA b9 34 (cw [w35,w46,w57,w68]),boxA b2 34 (cw [u1,u2,v1,v2]),boxA b1 27 [.int .i64 (e.f),.int .i64 (e.cx),.int .i64 (e.cy),.int .i64 (e.r0),.int .i64 (e.r1),.int .i64 (e.r2),.int .i64 (e.p1),.int .i64 (e.p2),.int .i64 (e.fd)]]) (fun x=>[slF rEE (some ⟨b10,0,none⟩) 1 ([(xo,yo)]),qF (decide (Cam.pc e [(xo,yo)]=0∧Cam.ins e (xo.getD 0) (yo.getD 0))) w35 w46 (if (Cam.pc e [(xo,yo)]=0∧Cam.ins e (xo.getD 0) (yo.getD 0)) then (Cam.dX e (xo.getD 0) (yo.getD 0)) else 0),qF (decide (Cam.pc e [(xo,yo)]=0∧Cam.ins e (xo.getD 0) (yo.getD 0))) w57 w68 (if (Cam.pc e [(xo,yo)]=0∧Cam.ins e (xo.getD 0) (yo.getD 0)) then (Cam.dY e (xo.getD 0) (yo.getD 0)) else 0),slF rEE (some ⟨b3,0,none⟩) 1 ([(xo,yo)]),eF u1 u2 xo,eF v1 v2 yo]) ?_ ?_
     ·
      refine za<|e_mv rfl<|e_mv rfl<|e_p (zpa rfl rfl) ?_
      rw [show (decide (((if (Cam.pc e [(xo,yo)]=0) then (if Cam.ins e (xo.getD 0) (yo.getD 0) then 0 else 15) else Cam.pc e [(xo,yo)]):Int)=(Cam.pc e ([(xo,yo)]))))=true from by exact decide_eq_true (by first|exact if_neg h33|(rw [if_pos h31.1,if_neg h31.2]))]
      refine e_mv rfl<|e_ru (zb 0 ty34 rfl rfl (.t8 .nil))<|zK rfl rfl (.c rfl .n) ce11 (zfe (u1:=w35) (u2:=w46) (v1:=w57) (v2:=w68)) (.n) ?_
      rw [show (decide (Wd.zz w35 w46∧Wd.zz w57 w68))=true from by exact decide_eq_true (by obtain ⟨e1,e2,e3,e4⟩:=hd (by first|exact (fun k=>h33 k.1)|exact (fun k=>h31.2 k.2));rw [e1,e2,e3,e4];exact ⟨Wd.zz_wz,Wd.zz_wz⟩)]
      refine e_p (zD rfl rfl)<|e_p (zc rfl)<|zf ?_
      exact zS () tt9 (mR rfl) (ho:=((.of [0,0,0] rfl):PickO _ _ _)) ((.of [0,1,2,3,4,5] rfl):SelR _ _ _)
     ·
      rintro ⟨⟩ -
      try dsimp only [cw]
      refine zC<|zl ?_
      exact zu yc () trivial (zn rfl) rfl (ho:=oN) sN
    ·
     have hz:Cam.pc e [(xo,yo)]=0:=Decidable.not_not.1 h33
     obtain ⟨hok,hx1,hy1⟩:=Cam.pc_0 hz
     have hx1:xo.isSome=true:=hx1
     have hy1:yo.isSome=true:=hy1
     refine zEb (qF xo.isSome u1 u2 (xo.getD 0)) (eF_weak 4 rfl)<|zEb (qF yo.isSome v1 v2 (yo.getD 0)) (eF_weak 6 rfl) ?_
     have e11:xo.isSome=true:=by exact hx1
     rw [e11]
     have e12:yo.isSome=true:=by exact hy1
     rw [e12]
     have hii:Cam.ins e (xo.getD 0) (yo.getD 0):=Decidable.byContradiction (fun k=>h31 ⟨hz,k⟩)
     have e13:(decide (Cam.pc e [(xo,yo)]=0∧Cam.ins e (xo.getD 0) (yo.getD 0)):Bool)=true:=by exact decide_eq_true ⟨hz,hii⟩
     rw [e13]
     have e14:(if (Cam.pc e [(xo,yo)]=0∧Cam.ins e (xo.getD 0) (yo.getD 0)) then (Cam.dX e (xo.getD 0) (yo.getD 0)) else 0:Rat)=(Cam.dX e (xo.getD 0) (yo.getD 0)):=by exact if_pos ⟨hz,hii⟩
     rw [e14]
     have e15:(if (Cam.pc e [(xo,yo)]=0∧Cam.ins e (xo.getD 0) (yo.getD 0)) then (Cam.dY e (xo.getD 0) (yo.getD 0)) else 0:Rat)=(Cam.dY e (xo.getD 0) (yo.getD 0)):=by exact if_pos ⟨hz,hii⟩
     rw [e15]
     refine zA<|zd<|zLa (X:=Unit) (fun x=>True) (fun x=>[(4,.bool true)]) (fun x=>[boxA b9 34 (cw [w35,w46,w57,w68]),boxA b2 34 (cw [u1,u2,v1,v2]),boxA b1 27 [.int .i64 (e.f),.int .i64 (e.cx),.int .i64 (e.cy),.int .i64 (e.r0),.int .i64 (e.r1),.int .i64 (e.r2),.int .i64 (e.p1),.int .i64 (e.p2),.int .i64 (e.fd)]]) (fun x=>[qF true v1 v2 (yo.getD 0),qF true u1 u2 (xo.getD 0),slF rEE (some ⟨b10,0,none⟩) 1 ([(xo,yo)]),qF true w35 w46 (Cam.dX e (xo.getD 0) (yo.getD 0)),qF true w57 w68 (Cam.dY e (xo.getD 0) (yo.getD 0)),slF rEE (some ⟨b3,0,none⟩) 1 ([(xo,yo)]),eF u1 u2 xo,eF v1 v2 yo]) ?_ ?_
     ·
      refine zX (OW:=[]) (O:=[boxA b9 34 (cw [w35,w46,w57,w68]),boxA b2 34 (cw [u1,u2,v1,v2]),boxA b1 27 [.int .i64 (e.f),.int .i64 (e.cx),.int .i64 (e.cy),.int .i64 (e.r0),.int .i64 (e.r1),.int .i64 (e.r2),.int .i64 (e.p1),.int .i64 (e.p2),.int .i64 (e.fd)]]) 100000 mixed (.then .ret) kr<|e_dm 0 rfl rfl rfl<|e_pv 1 rfl rfl (zpa rfl rfl) ?_
      rw [show (decide (((if (Cam.pc e [(xo,yo)]=0) then (if Cam.ins e (xo.getD 0) (yo.getD 0) then 0 else 15) else Cam.pc e [(xo,yo)]):Int)=0))=true from by exact decide_eq_true (by rw [if_pos hz,if_pos hii])]
      refine e_dm 2 rfl rfl rfl<|e_u 3 rfl rfl (zb 0 ty34 rfl rfl (.t8 .nil))<|e_u 4 rfl rfl (zb 2 ty27 rfl rfl (.t8 (.take .nil)))<|e_u 5 rfl rfl (zb 1 ty34 rfl rfl (.t8 .nil))<|e_one 6 (zp rfl rfl rfl rfl (.c rfl (.c rfl .n)) ce13 (zhe (e:=e) (u1:=u1) (u2:=u2) (v1:=v1) (v2:=v2) (qx:=(xo.getD 0)) (qy:=(yo.getD 0)) (hin:=ass) (hx:=by first|rfl|assumption|omega|(simp;done)|decide) (hy:=by first|rfl|assumption|omega|(simp;done)|decide)) (.c (j:=1) rfl (.c (j:=0) rfl .n)) ?_)
      rintro ⟨w316,w417,w518,w619⟩ -
      dsimp only [aq,nq,cq]
      refine e_one 7 (zhb rfl rfl rfl rfl (.c rfl (.c rfl .n)) ce12 (zTf (u1:=w35) (u2:=w46) (v1:=w57) (v2:=w68) (qx:=(Cam.dX e (xo.getD 0) (yo.getD 0))) (qy:=(Cam.dY e (xo.getD 0) (yo.getD 0))) (z1:=w316) (z2:=w417) (z3:=w518) (z4:=w619) (rx:=(Cam.dX e (xo.getD 0) (yo.getD 0))) (ry:=(Cam.dY e (xo.getD 0) (yo.getD 0))) (hl:=by have h9:=Cam.dX_hq hin hx hy;exact ⟨h9,h9⟩)) (.c (j:=5) rfl (.c (j:=6) rfl (.c (j:=0) rfl (.c (j:=1) rfl .n)))) ?_)
      rw [show (decide ((Cam.dX e (xo.getD 0) (yo.getD 0))=(Cam.dX e (xo.getD 0) (yo.getD 0))∧(Cam.dY e (xo.getD 0) (yo.getD 0))=(Cam.dY e (xo.getD 0) (yo.getD 0))))=true from by exact decide_eq_true ⟨rfl,rfl⟩]
      refine e_pv 8 rfl rfl (zD rfl rfl)<|e_pv 9 rfl rfl (zc rfl)<|zE kr ?_
      exact zS () tt9 ((.c rfl .n):SubM _ _) (ho:=((.of [0,0,0] rfl):PickO _ _ _)) ((.of [2,3,4,5,6,7,8,9] rfl):SelR _ _ _)
     ·
      rintro ⟨⟩ -
      try dsimp only [cw]
      refine zC ?_
      exact zu yc () trivial (zn rfl) rfl (ho:=oN) sN
end Go.Proofs.YtahiajepeodhoaaGreat.Sp
namespace Go.Proofs.YtahiajepeodhoaaGreat.Sp
open Go
set_option linter.unusedVariables false
theorem eF_of {g:Hp} {s t:Bool} {p1 p2:Option Addr} {c1 c2:Nat} {la lb:List Int} (ha:Sl (rI .u32) g p1 c1 la) (hb:Sl (rI .u32) g p2 c2 lb) (k1:la.length≤1099511627776) (k2:lb.length≤1099511627776):
    (eF ⟨s,p1,la.length,c1⟩ ⟨t,p2,lb.length,c2⟩ (qo ((s,la),(t,lb)))).on g:=⟨((s,la),(t,lb)),⟨rfl,rfl,k1,ha⟩,⟨rfl,rfl,k2,hb⟩,rfl⟩
theorem mz_raw1 {x:(Bool×List Int)×(Bool×List Int)} {n:Nat} (h:(fun z:(Bool×List Int)×(Bool×List Int)=>(fun z:Bool×List Int=>(fun _:Bool=>1) z.1+mzL (fun _:Int=>1) z.2) z.1+(fun z:Bool×List Int=>(fun _:Bool=>1) z.1+mzL (fun _:Int=>1) z.2) z.2) x≤n):x.1.2.length≤n∧x.2.2.length≤n:=by
  have q1:=mzL_len (mz:=fun _:Int=>1) (l:=x.1.2) (fun _=>Nat.le_refl 1)
  have q2:=mzL_len (mz:=fun _:Int=>1) (l:=x.2.2) (fun _=>Nat.le_refl 1)
  simp only at h
  omega
end Go.Proofs.YtahiajepeodhoaaGreat.Sp
