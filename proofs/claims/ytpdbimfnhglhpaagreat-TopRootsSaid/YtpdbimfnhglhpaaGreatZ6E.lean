/- Lemmas that the claim of this folder uses; each states its own conditions. Lines were printed by a program of ours. -/
import Derived.Test.YtpdbimfnhglhpaaGreatZ6D
set_option linter.unusedVariables false
set_option linter.unusedSimpArgs false
set_option linter.unusedSectionVars false
open Go.Value renaming int → yaf, pointer → yah
open Go.IntKind renaming i64 → yag
open Nat renaming zero_le → yT, le_trans → yV, mul_le_mul_right → yab, le_refl → yad
open List renaming length_append → yU, eraseIdx → yW, replicate → yX, take_of_length_le → yY, range → yZ, length_take → yac, set → yae
open Rat renaming divInt → yaa
open Go.Proofs.Tryz renaming underlying60 → ya, underlying62 → yb, underlying80 → yc, underlying84 → yd, underlying46 → ye, underlying82 → yf, underlying78 → yg, underlying3 → yi, underlying106 → yj, underlying148 → yk, underlying32 → ym, underlying199 → yn, underlying192 → yp, prog → yt, underlying250 → yv, underlying144 → yw, underlying210 → yz, underlying87 → yB, underlying59 → yC, underlying30 → yD, func86 → yK
namespace Go.Proofs.YtpdbimfnhglhpaaGreat
open Ro renaming dd → yh, QQ → yl, QK → yo, jN → ys, s5 → yu, ZM → yE, V1 → yG, Ko → yH, tl → yI, s0 → yN, col → yS
open Mx renaming mk → yq, ints → yx, oz → yy, e → yF, ja → yJ, bd → yO, el → yQ, Wz → yR
open Big renaming hq → yr, zd → yM
open Rd renaming c0 → yA
open Td renaming dl → yL, un → yP
namespace Sp
open Go
set_option maxRecDepth 100000
set_option maxHeartbeats 8000000
variable {A B M:List (List Rat)} {K N bA cA cB n9 nA nB:Nat} {pA pB:Option Addr} {w1:Wd}
theorem zdl {hs:HP}    {nj:Nat} {b:Nat} (hSm:Mx.Sm hs M K N) (hK:K≤64) (hN:N≤70) (hnN:nj≤N) (hb0:yO M b) (hH:Mx.H b nj≤100000000):jI yt 144 [.slice pA K cA,Vi nj] [rowA 62 rV pA cA (oh hs N),vp 32 rQ hs M] [] (Y:=HP×(List (List Rat))×(List Nat)×(Option Addr)×Nat) (fun y=>Mx.Sm y.1 y.2.1 K N∧Mx.Rd N K M y.2.1 nj y.2.2.1∧yO y.2.1 (Mx.H b nj)) (fun y=> .slice (y.2.2.2.1) (y.2.2.1.length) (y.2.2.2.2)) (fun y=>[rowA 62 rV pA cA (oh y.1 N),vp 32 rQ (y.1) (y.2.1),rowA 3 (rI .i64) (y.2.2.2.1) (y.2.2.2.2) (yx y.2.2.1)]) (fun y=>[]):=by
 refine zg Tryz.func144 rfl rfl (fun c=> ?_)
 refine Zj 3 (rI .i64)<|jS 1 rfl<|jn 1 rfl<|k12 2 rfl<|zk<|z5 (X:=Nat×HP×(List (List Rat))×(List Nat)×(Option Addr)×Nat) (fun x=>x.1≤nj∧Mx.Sm x.2.1 x.2.2.1 K N∧Mx.Rd N K M x.2.2.1 x.1 x.2.2.2.1∧yO x.2.2.1 (Mx.H b x.1)) (fun x=>[(5,.slice (x.2.2.2.2.1) (x.2.2.2.1.length) (x.2.2.2.2.2)),(13,Vi x.1)]) [12,4,0] (fun x=>[rowA 3 (rI .i64) (x.2.2.2.2.1) (x.2.2.2.2.2) (yx x.2.2.2.1),rowA 62 rV pA cA (oh x.2.1 N),vp 32 rQ (x.2.1) (x.2.2.1)]) (fun x=>[]) [] (fun x=>nj - x.1) (0,hs,M,([]:List Nat),none,0) (by exact ⟨yT _,hSm,Mx.Rd.start hSm.l hSm.r,hb0⟩) (.e rfl vA (.e rfl vA .n)) ((.e (i:=0) rfl vA (.of [0,0] rfl)):zJ _ _ _) sN ?_
 rintro ⟨j,a1,M1,ps,pP,cP⟩ hI
 dsimp only at hI
 obtain ⟨hj,a2,hRd,hbd⟩:=hI
 have hpj:=hRd.plj
 have hpk:=hRd.plk
 have hil:=Mx.Qb ps
 refine jg 1 rfl<|zx rfl (fun h1=> ?_) (fun h1=> ?_)
 have hH6:6*Mx.H b j+4≤100000000:=yV (Mx.zhS b (show j+1≤nj by omega)) hH
 refine vY<|zk<|jS 2 rfl<|jD 3 rfl<|jn 2 rfl<|zk<|z5 (X:=Nat) (fun x=>ps.length≤x∧x≤K∧∀i,ps.length≤i→i<x→yF M1 i j=0) (fun x=>[(8,Vi x)]) [7,6,5,13,12,4,0] (fun x=>[rowA 3 (rI .i64) pP cP (yx ps),rowA 62 rV pA cA (oh a1 N),vp 32 rQ a1 M1]) (fun x=>[]) [] (fun x=>K - x) ps.length (by exact ⟨yad _,hpk,fun i h1 h2=>by omega⟩) (.of rfl) ((.of [0,0,0] rfl):zJ _ _ _) sN ?_
 rintro k c4
 obtain ⟨c5,hk2,b8⟩:=c4
 refine qe<|ji (X:=Unit) (fun x=>True) (fun x=>[(33,.bool (decide ((((k:Nat):Int)<((K:Nat):Int))∧(Big.Zv (yF M1 k j)=0)))),(8,Vi k),(7,Vi ps.length),(6,Vi j),(5,.slice pP (ps.length) cP),(13,Vi j),(12,Vi nj),(4,.slice none 0 0),(0,.slice pA K cA)]) (fun x=>[rowA 3 (rI .i64) pP cP (yx ps),rowA 62 rV pA cA (oh a1 N),vp 32 rQ a1 M1]) (fun x=>[]) ?_ ?_
 refine vM 4 rfl<|q8 (qU rfl) (fun h2=> ?_) (fun h2=> ?_)
 refine kS 2 rfl<|zw (qQ 1 k rfl ya vC rfl (by first|rfl|assumption|omega|exact Mx.Qb _|(rw [Z0];first|exact a2.h|exact a3.h)) rfl rfl om)<|vX (qi (x0:=((rp a1 k),N,(rc a1 k))) (v:= .slice (rp a1 k) N (rc a1 k)) 1 k rfl vF rfl rfl (Q2 (a2.hk om)) rfl) (fun _ f1=> ?_)
 refine qJ rfl<|zw (jJ 2 k j rfl (a2.hk om) (a2.mk' om) (a2.row om) yb qk rfl rfl rfl om)<|vX (Qc (x0:=(yF M1 k j)) 2 k j rfl (a2.hk om) (a2.mk' om) qp rfl rfl (gD (d:=(0:Rat)) (by rw [a2.row om];omega))) ?_
 rintro ⟨w4,w5⟩ -
 refine vd VK<|qg (qS rfl) zP Vt (qX 0 rfl)<|qY 2 rfl ?_
 exact qL () Qn ((.e rfl (congrArg Value.bool JS) (.of rfl))) ((.of [0,0,0] rfl):zJ _ _ _) sN
 refine qY 10 rfl ?_
 exact qL () Qn ((.e rfl (congrArg Value.bool JS) (.of rfl))) ((.of [0,0,0] rfl):zJ _ _ _) sN
 rintro ⟨⟩ -
 refine zx rfl (fun b5=> ?_) (fun b5=> ?_)
 refine kk6<|zk<|vM 1 rfl<|zE (qj rfl rfl)<|qY 1 rfl<|zG<|zW (k+1) (by exact ⟨Oo,Oo,fun i h1 h2=>by rcases Nat.lt_or_ge i k with h|h;exact b8 i h1 h;rw [show i=k by omega];exact Rat.num_eq_zero.1 (Big.ZX.1 b5.2)⟩) om (mR rfl) ((.of [0,0,0] rfl):zJ _ _ _) sN
 refine z7<|ze<|ze<|zn<|zi<|qe<|k12 4 rfl<|zx rfl (fun c6=> ?_) (fun c6=> ?_)
 refine z7<|ze<|zn<|zi<|zv<|zE (qj rfl rfl)<|qY 1 rfl<|zW ((j+1),a1,M1,ps,pP,cP) (by exact ⟨Oo,a2,hRd.skip (fun i h1 h2=>b8 i h1 om),hbd.up (by show _≤6*Mx.H b j+4;omega)⟩) om (mR rfl) ((.of [0,0,0] rfl):zJ _ _ _) sN
 have hkK:k<K:=Oo
 have hpv:yF M1 k j≠0:=fun z=>b5 ⟨Oo,Big.ZX.2 (Rat.num_eq_zero.2 z)⟩
 refine zhz (φ:=fun y:Nat×Nat=>pA=some ⟨y.1,y.2,none⟩) (fun w mm=>mm.rowSome 1 rfl (fun h=>by have h8:=a2.h;have h9:=Z0 a1 N;rw [h] at h9;have h7:(0:Nat)=a1.length:=h9;omega)) ?_
 rintro ⟨bq,oq⟩ hpq
 dsimp only at hpq
 rw [hpq]
 refine vY<|vk (.c (i:=1) rfl (.c (i:=0) rfl (.c (i:=0) rfl .n)))<|Vk 13<|zQ 0 rfl rfl<|zQ 1 rfl rfl<|zQ 2 rfl rfl<|zQ 3 rfl rfl<|zQ 4 rfl rfl<|zQ 5 rfl rfl<|zC 6 rfl (zZ (j:=k) ya vC rfl rfl rfl om)<|QM 7 rfl (qi (x0:=((rp a1 k),N,(rc a1 k))) (v:= .slice (rp a1 k) N (rc a1 k)) 0 k rfl vF rfl rfl (Q2 (a2.hk om)) rfl) (fun _ f2=> ?_)
 refine zQ 8 rfl rfl<|zQ 9 rfl rfl<|zC 10 rfl (zZ (j:=ps.length) ya vC rfl rfl rfl om)<|QM 11 rfl (qi (x0:=((rp a1 ps.length),N,(rc a1 ps.length))) (v:= .slice (rp a1 ps.length) N (rc a1 ps.length)) 0 (ps.length) rfl vF rfl rfl (Q2 (a2.hk om)) rfl) (fun _ f3=> ?_)
 refine zC 12 rfl (zZ (j:=ps.length) ya vC rfl rfl rfl om) ?_
 refine zt 13 (VH (A':=fun _=>rowA 62 rV (some ⟨bq,oq,none⟩) cA ((oh a1 N).set (ps.length) ((rp a1 k),N,(rc a1 k)))) kr rfl (qh (j:=ps.length) (x0:=((rp a1 k),N,(rc a1 k))) (γ0:=()) rfl rfl (by first|omega|(rw [Z0,a2.h];omega)|(rw [List.length_set,Z0,a2.h];omega)) rfl rfl vC (fun _ _=>by trivial)) (hw':=rfl) (hd:=rfl) (fun _ _=> ?_))
 refine zC 14 rfl (zZ (j:=k) ya vC rfl rfl rfl om) ?_
 refine zt 15 (VH (A':=fun _=>rowA 62 rV (some ⟨bq,oq,none⟩) cA (((oh a1 N).set (ps.length) ((rp a1 k),N,(rc a1 k))).set k ((rp a1 ps.length),N,(rc a1 ps.length)))) kr rfl (qh (j:=k) (x0:=((rp a1 ps.length),N,(rc a1 ps.length))) (γ0:=()) rfl rfl (by first|omega|(rw [Z0,a2.h];omega)|(rw [List.length_set,Z0,a2.h];omega)) rfl rfl vC (fun _ _=>by trivial)) (hw':=rfl) (hd:=rfl) (fun _ _=> ?_))
 refine zU kr<|zi<|qe ?_
 rw [← hpq]
 have e8:((((oh a1 N).set (ps.length) ((rp a1 k),N,(rc a1 k))).set k ((rp a1 ps.length),N,(rc a1 ps.length))):List (Option Addr×Nat×Nat))=(oh (sw a1 ps.length k) N):=by exact zua _ _ _ _
 rw [e8]
 refine JO (fun w mm=>mm.rmSwap (j:=ps.length) (k:=k) 2 rfl (a2.hk om) (a2.hk om) a2.hl) ?_
 try dsimp only [yW]
 have e8_:(M1.set ps.length (M1.getD k [])).set k (M1.getD ps.length [])=Mx.swp M1 ps.length k:=rfl
 rw [e8_]
 obtain ⟨a0,b9⟩:∃z:HP,z=(sw a1 ps.length k):=⟨_,rfl⟩
 rw [← b9]
 obtain ⟨M2,b1⟩:∃z:List (List Rat),z=(Mx.swp M1 ps.length k):=⟨_,rfl⟩
 rw [← b1]
 have a3:Mx.Sm a0 M2 K N:=by rw [b9,b1];exact a2.swp om om
 have b6:yO M2 (Mx.H b j):=by rw [b1];exact hbd.swp (a2.mk' om) (a2.mk' om)
 have c7:yF M2 ps.length j≠0:=by rw [b1,Mx.zpG (a2.mk' om) (a2.mk' om)];exact hpv
 have hbq:=b6 ps.length j
 have h1q:yr ((1:Int):Rat)=1:=Big.zeC
 refine V4 10 (.then (.block (.then (.then (.block (.then .ret)))))) (OW:=[]) (O:=[vp 32 rQ a0 M2,rowA 62 rV pA cA (oh a0 N),rowA 3 (rI .i64) pP cP (yx ps)])<|zQ 1 rfl rfl ?_
 refine zQ 2 rfl rfl ?_
 refine vE 3 rfl (qQ 1 (ps.length) rfl ya vC rfl (by first|rfl|assumption|omega|exact Mx.Qb _|(rw [Z0];first|exact a2.h|exact a3.h)) rfl rfl om) ?_
 refine jc 4 rfl (qi (x0:=((rp a0 ps.length),N,(rc a0 ps.length))) (v:= .slice (rp a0 ps.length) N (rc a0 ps.length)) 1 (ps.length) rfl vF rfl rfl (Q2 (a3.hk om)) rfl) (fun _ f4=> ?_)
 refine zQ 5 rfl rfl<|vE 6 rfl (jJ 0 (ps.length) j rfl (a3.hk om) (a3.mk' om) (a3.row om) yb qk rfl rfl rfl om)<|jc 7 rfl (Qc (x0:=(yF M2 ps.length j)) 0 (ps.length) j rfl (a3.hk om) (a3.mk' om) qp rfl rfl (gD (d:=(0:Rat)) (by rw [a3.row om];omega))) ?_
 rintro ⟨a8,a9⟩ -
 refine vi VK<|jP (m':=[(61,.agg (cw [a8,a9]).toArray),(7,Vi ps.length),(6,Vi j),(5,.slice pP (ps.length) cP),(13,Vi j),(12,Vi nj),(4,.slice none 0 0),(0,.slice pA K cA)]) (R':=[qF true a8 a9 (yF M2 ps.length j)]) (mR rfl) (List.Perm.refl _) (List.Perm.refl _) (s0 rfl)<|zeG<|Jc 0 rfl (fun x=> .agg #[x.1.b,x.1.l,x.2.b,x.2.l]) (fun x=>[]) (fun x=>[qF true x.1 x.2 ((1:Int):Rat)]) [] kr kr kr kr (fun _=> ?_) (X:=Wd×Wd) ?_
 refine jP (m':=[]) (R':=[]) .n (List.Perm.refl _) (List.Perm.refl _) sN<|zt 0 (zp rfl (qS rfl) zP (j4 zL) (.n) ?_)
 rintro ⟨c8,c9⟩ -
 refine zU kr ?_
 exact qL (c8,c9) trivial ((.c rfl .n)) oN (s0 rfl)
 refine Jc 8 rfl (fun x=> .agg #[x.1.b,x.1.l,x.2.b,x.2.l]) (fun x=>[]) (fun x=>[qF true x.1 x.2 (((1:Int):Rat) / (yF M2 ps.length j))]) [0] kr kr kr kr (fun _=> ?_) (X:=Wd×Wd) ?_
 rintro ⟨c1,c2⟩
 refine jP (m':=[(54,.agg (cw [c1,c2]).toArray),(61,.agg (cw [a8,a9]).toArray)]) (R':=[qF true c1 c2 ((1:Int):Rat),qF true a8 a9 (yF M2 ps.length j)]) ((.c rfl (.c rfl .n))) (List.Perm.refl _) (List.Perm.refl _) ((.of [0,1] rfl))<|zt 0 (zp rfl (q7 rfl rfl) zP (zfy zL zL) (vj 0 1 rfl rfl) ?_)
 rintro ⟨d0,d1⟩ -
 refine zU kr ?_
 exact qL (d0,d1) trivial ((.c rfl .n)) oN (s0 rfl)
 refine Jc 9 rfl (fun x=>Vp x) (fun x=>[zK x 32 [.bool false,.slice none 0 0,.bool false,.slice none 0 0]]) (fun x=>[]) [] kr kr kr kr (fun _=> ?_) (X:=Nat) ?_
 refine jP (m':=[]) (R':=[]) .n (List.Perm.refl _) (List.Perm.refl _) sN<|zt 0 (V5 rfl (zo vh rfl) (fun d4 _=> ?_))
 refine zU kr ?_
 exact qL d4 trivial ((.c rfl .n)) (o0 rfl) sN
 refine zmE (k':=1) (L':=(lb 11 1023)) kr kr kr kr kr kr kr ?_
 rintro a6 ⟨a4,a5⟩ _
 refine jP (m':=[(9,Vp a6),(62,.agg (cw [a4,a5]).toArray),(61,.agg (cw [a8,a9]).toArray),(7,Vi ps.length),(6,Vi j),(5,.slice pP (ps.length) cP),(13,Vi j),(12,Vi nj),(4,.slice none 0 0),(0,.slice pA K cA)]) (OW':=[zK a6 32 (cw [wz,wz])]) (R':=[qF true a4 a5 (((1:Int):Rat) / (yF M2 ps.length j)),qF true a8 a9 (yF M2 ps.length j)]) (mR rfl) (List.Perm.refl _) (List.Perm.refl _) ((.of [0,2] rfl))<|zt 10 (zH rfl rfl rfl rfl qk (.t4 .nil) ?_)
 refine zU kr<|zi<|qe<|qe ?_
 obtain ⟨xk,hxk⟩:∃z:Rat,z=(((1:Int):Rat) / (yF M2 ps.length j)):=⟨_,rfl⟩
 rw [← hxk]
 have hxq:yr xk≤Mx.H b j+1:=by rw [hxk];exact Mx.zmL c7 hbq
 refine k22 2 rfl<|zk<|Qr (X:=Nat) (fun x:Nat=>j≤x∧x≤N) (fun x=>[(10,yaf yag ((x:Nat):Int)),(9,yah (some ⟨a6,0,none⟩)),(7,yaf yag ((ps.length:Nat):Int)),(6,yaf yag ((j:Nat):Int)),(5,.slice pP (ps.length) cP),(13,yaf yag ((j:Nat):Int)),(12,yaf yag ((nj:Nat):Int)),(4,.slice none 0 0),(0,.slice pA K cA)]) (fun x=>[zK a6 32 (cw [a4,a5]),vp 32 rQ a0 (M2.set ps.length (Mx.sc (M2.getD ps.length []) xk j x)),rowA 62 rV pA cA (oh a0 N),rowA 3 (rI .i64) pP cP (yx ps)]) (fun x=>[qF true a4 a5 xk]) (fun x:Nat=>N - x) j (show j≤j∧j≤N from by exact ⟨yad _,Oo⟩) (mR rfl) (ho:=((.c (i:=0) rfl (.e (i:=0) rfl (by first|rfl|(rw [Mx.zkY (a3.mk' om)])) (.of [0,0] rfl))):zJ _ _ _)) (s0 rfl) ?_
 rintro t hT
 obtain ⟨ht0,htN⟩:=hT
 have hSmt:Mx.Sm a0 (M2.set ps.length (Mx.sc (M2.getD ps.length []) xk j t)) K N:=a3.setSc om
 refine qe<|jK 3 rfl<|zw (qQ 2 (ps.length) rfl ya vC rfl (by first|rfl|assumption|omega|exact Mx.Qb _|(rw [Z0];first|exact a2.h|exact a3.h)) rfl rfl om)<|vX (qi (x0:=((rp a0 ps.length),N,(rc a0 ps.length))) (v:= .slice (rp a0 ps.length) N (rc a0 ps.length)) 2 (ps.length) rfl vF rfl rfl (Q2 (hSmt.hk om)) rfl) (fun _ f5=> ?_)
 refine vZ 2 rfl<|zx rfl (fun d5=> ?_) (fun d5=> ?_)
 refine qN<|zi<|qe<|zk<|vk (.c (i:=1) rfl (.c (i:=0) rfl (.c (i:=0) rfl (.c (i:=0) rfl .n))))<|V4 15 (.block (.then (.then (.block (.then (.block (.then (.then (.block (.then .ret)))))))))) (OW:=[vp 32 rQ a0 (M2.set ps.length (Mx.sc (M2.getD ps.length []) xk j t))]) (O:=[zK a6 32 (cw [a4,a5]),rowA 62 rV pA cA (oh a0 N),rowA 3 (rI .i64) pP cP (yx ps)])<|zQ 0 rfl rfl ?_
 refine zQ 1 rfl rfl ?_
 refine qy 2 rfl (qQ 2 (ps.length) rfl ya vC rfl (by first|rfl|assumption|omega|exact Mx.Qb _|(rw [Z0];first|exact a2.h|exact a3.h)) rfl rfl om) ?_
 refine QM 3 rfl (qi (x0:=((rp a0 ps.length),N,(rc a0 ps.length))) (v:= .slice (rp a0 ps.length) N (rc a0 ps.length)) 2 (ps.length) rfl vF rfl rfl (Q2 (hSmt.hk om)) rfl) (fun _ f6=> ?_)
 refine zQ 4 rfl rfl ?_
 refine qy 5 rfl (za 1 qp rfl rfl (.t4 .nil)) ?_
 refine zQ 6 rfl rfl ?_
 refine zQ 7 rfl rfl ?_
 refine qy 8 rfl (qQ 2 (ps.length) rfl ya vC rfl (by first|rfl|assumption|omega|exact Mx.Qb _|(rw [Z0];first|exact a2.h|exact a3.h)) rfl rfl om) ?_
 refine QM 9 rfl (qi (x0:=((rp a0 ps.length),N,(rc a0 ps.length))) (v:= .slice (rp a0 ps.length) N (rc a0 ps.length)) 2 (ps.length) rfl vF rfl rfl (Q2 (hSmt.hk om)) rfl) (fun _ f7=> ?_)
 refine zQ 10 rfl rfl<|qy 11 rfl (jJ 0 (ps.length) t rfl (hSmt.hk om) (hSmt.mk' om) (hSmt.row om) yb qk rfl rfl rfl om)<|QM 12 rfl (Qc (x0:=(yF (M2.set ps.length (Mx.sc (M2.getD ps.length []) xk j t)) ps.length t)) 0 (ps.length) t rfl (hSmt.hk om) (hSmt.mk' om) qp rfl rfl (gD (d:=(0:Rat)) (by rw [hSmt.row om];omega))) ?_
 rintro ⟨w17,w18⟩ -
 refine vi VK ?_
 have d6:yF (M2.set ps.length (Mx.sc (M2.getD ps.length []) xk j t)) ps.length t=yF M2 ps.length t:=by exact Mx.zkX (a3.mk' om) (by rw [a3.row om];omega) (yad _)
 rw [d6]
 have hbt:=b6 ps.length t
 refine zt 13 (zp rfl (q7 rfl rfl) zP (Jj zL) (vj 1 0 rfl rfl) ?_)
 rintro ⟨d7,d8⟩ -
 refine qy 14 rfl (jJ 0 (ps.length) t rfl (hSmt.hk om) (hSmt.mk' om) (hSmt.row om) yb qk rfl rfl rfl om)<|zt 15 (VH (A':=fun _=>vp 32 rQ a0 ((M2.set ps.length (Mx.sc (M2.getD ps.length []) xk j t)).set (ps.length) (((M2.set ps.length (Mx.sc (M2.getD ps.length []) xk j t)).getD (ps.length) []).set t (xk*(yF M2 ps.length t))))) kr rfl (Jv (r:=rQ) (k:=ps.length) (j:=t) (x0:=(xk*(yF M2 ps.length t))) (γ0:=(d7,d8)) (hSmt.hk om) (hSmt.mk' om) rfl rfl (by rw [hSmt.row om];omega) rfl rfl qk (fun g hr=>Holds.get 0 rfl hr)) (hw':=rfl) (hd:=rfl) (fun _ _=> ?_))
 refine zU kr<|zG<|zi<|zv<|qJ rfl<|zE (qm (z:=(((t+1):Nat):Int)) rfl rfl (Q9 om))<|zE (zT rfl)<|jq<|zW (t+1) (show j≤(t+1)∧(t+1)≤N from by exact ⟨Oo,Oo⟩) (by show N - (t+1)<N - t;omega) (mR rfl) (ho:=((.c (i:=1) rfl (.e (i:=0) rfl (by first|rfl|(rw [Mx.zt8 (a3.mk' om) om (by rw [a3.row om];omega)])) (.of [0,0] rfl))):zJ _ _ _)) ((.c (j:=2) rfl .n):q9 _ _ _)
 refine z7<|ze<|ze<|zn<|zi<|qe<|qe ?_
 have d9:(M2.set ps.length (Mx.sc (M2.getD ps.length []) xk j t))=(M2.set ps.length (Mx.sc (M2.getD ps.length []) xk j N)):=by rw [show t=N by omega]
 rw [d9]
 obtain ⟨M3,b4⟩:∃z:List (List Rat),z=(M2.set ps.length (Mx.sc (M2.getD ps.length []) xk j N)):=⟨_,rfl⟩
 rw [← b4]
 have a7:Mx.Sm a0 M3 K N:=by rw [b4];exact a3.setSc om
 have b7:yO M3 (2*Mx.H b j+1):=by rw [b4];exact b6.sc (a3.mk' om) hxq
 refine zv<|qJ rfl<|zE (vL ya rfl)<|qJ rfl<|jq<|zi<|zk<|Qr (X:=Nat) (fun x:Nat=>x≤K) (fun x=>[(90,yaf yag ((x:Nat):Int)),(89,yaf yag ((K:Nat):Int)),(7,yaf yag ((ps.length:Nat):Int)),(6,yaf yag ((j:Nat):Int)),(5,.slice pP (ps.length) cP),(13,yaf yag ((j:Nat):Int)),(12,yaf yag ((nj:Nat):Int)),(4,.slice none 0 0),(0,.slice pA K cA)]) (fun x=>[zK a6 32 (cw [a4,a5]),vp 32 rQ a0 (yQ M3 ps.length j x),rowA 62 rV pA cA (oh a0 N),rowA 3 (rI .i64) pP cP (yx ps)]) (fun x=>[qF true a4 a5 xk]) (fun x:Nat=>K - x) 0 (show 0≤K from by exact yT _) ((.e rfl vA (.of rfl)):vQ _ _) (ho:=((.c (i:=0) rfl (.e (i:=0) rfl (by first|rfl|(rw [Mx.zt6])) (.of [0,0] rfl))):zJ _ _ _)) (s0 rfl) ?_
 rintro i hE
 have hSme:Mx.Sm a0 (yQ M3 ps.length j i) K N:=a7.el
 refine jg 1 rfl<|zx rfl (fun e0=> ?_) (fun e0=> ?_)
 refine vY<|zk<|k12 2 rfl<|ji (X:=Unit) (fun x=>True) (fun x=>[(106,.bool (decide ((((i:Nat):Int)≠((ps.length:Nat):Int))∧(Big.Zv (yF (yQ M3 ps.length j i) i j)≠0)))),(11,Vi i),(90,Vi i),(89,Vi K),(7,Vi ps.length),(6,Vi j),(5,.slice pP (ps.length) cP),(13,Vi j),(12,Vi nj),(4,.slice none 0 0),(0,.slice pA K cA)]) (fun x=>[zK a6 32 (cw [a4,a5]),vp 32 rQ a0 (yQ M3 ps.length j i),rowA 62 rV pA cA (oh a0 N),rowA 3 (rI .i64) pP cP (yx ps)]) (fun x=>[qF true a4 a5 xk]) ?_ ?_
 refine vM 3 rfl<|q8 (qU rfl) (fun e3=> ?_) (fun e3=> ?_)
 refine qJ rfl<|qJ rfl<|zw (qQ 2 i rfl ya vC rfl (by first|rfl|assumption|omega|exact Mx.Qb _|(rw [Z0];first|exact a2.h|exact a3.h)) rfl rfl om)<|vX (qi (x0:=((rp a0 i),N,(rc a0 i))) (v:= .slice (rp a0 i) N (rc a0 i)) 2 i rfl vF rfl rfl (Q2 (hSme.hk om)) rfl) (fun _ f8=> ?_)
 refine qJ rfl<|zw (jJ 1 i j rfl (hSme.hk om) (hSme.mk' om) (hSme.row om) yb qk rfl rfl rfl om)<|vX (Qc (x0:=(yF (yQ M3 ps.length j i) i j)) 1 i j rfl (hSme.hk om) (hSme.mk' om) qp rfl rfl (gD (d:=(0:Rat)) (by rw [hSme.row om];omega))) ?_
 rintro ⟨w26,w27⟩ -
 refine vd VK<|qg (qS rfl) zP Vt (qX 0 rfl)<|qY 2 rfl ?_
 exact qL () Qn ((.e rfl (congrArg Value.bool JS) (.of rfl))) ((.of [0,0,0,0] rfl):zJ _ _ _) ((.c (j:=1) rfl .n))
 refine qY 10 rfl ?_
 exact qL () Qn ((.e rfl (congrArg Value.bool JS) (.of rfl))) ((.of [0,0,0,0] rfl):zJ _ _ _) (s0 rfl)
 rintro ⟨⟩ -
 refine zx rfl (fun c3=> ?_) (fun c3=> ?_)
 refine vk (.c (i:=1) rfl (.c (i:=0) rfl (.c (i:=0) rfl (.c (i:=0) rfl .n))))<|V4 16 (.block (.then (.then (.block (.then (.block (.then (.then (.block (.then .ret)))))))))) (OW:=[vp 32 rQ a0 (yQ M3 ps.length j i)]) (O:=[zK a6 32 (cw [a4,a5]),rowA 62 rV pA cA (oh a0 N),rowA 3 (rI .i64) pP cP (yx ps)])<|zQ 0 rfl rfl ?_
 refine zQ 1 rfl rfl ?_
 refine qy 2 rfl (qQ 2 i rfl ya vC rfl (by first|rfl|assumption|omega|exact Mx.Qb _|(rw [Z0];first|exact a2.h|exact a3.h)) rfl rfl om) ?_
 refine QM 3 rfl (qi (x0:=((rp a0 i),N,(rc a0 i))) (v:= .slice (rp a0 i) N (rc a0 i)) 2 i rfl vF rfl rfl (Q2 (hSme.hk om)) rfl) (fun _ f9=> ?_)
 refine zQ 4 rfl rfl ?_
 refine zQ 5 rfl rfl ?_
 refine qy 6 rfl (qQ 2 (ps.length) rfl ya vC rfl (by first|rfl|assumption|omega|exact Mx.Qb _|(rw [Z0];first|exact a2.h|exact a3.h)) rfl rfl om) ?_
 refine QM 7 rfl (qi (x0:=((rp a0 ps.length),N,(rc a0 ps.length))) (v:= .slice (rp a0 ps.length) N (rc a0 ps.length)) 2 (ps.length) rfl vF rfl rfl (Q2 (hSme.hk om)) rfl) (fun _ g0=> ?_)
 refine zQ 8 rfl rfl ?_
 refine zQ 9 rfl rfl ?_
 refine qy 10 rfl (qQ 2 i rfl ya vC rfl (by first|rfl|assumption|omega|exact Mx.Qb _|(rw [Z0];first|exact a2.h|exact a3.h)) rfl rfl om) ?_
 refine QM 11 rfl (qi (x0:=((rp a0 i),N,(rc a0 i))) (v:= .slice (rp a0 i) N (rc a0 i)) 2 i rfl vF rfl rfl (Q2 (hSme.hk om)) rfl) (fun _ g1=> ?_)
 refine zQ 12 rfl rfl<|qy 13 rfl (jJ 0 i j rfl (hSme.hk om) (hSme.mk' om) (hSme.row om) yb qk rfl rfl rfl om)<|QM 14 rfl (Qc (x0:=(yF (yQ M3 ps.length j i) i j)) 0 i j rfl (hSme.hk om) (hSme.mk' om) qp rfl rfl (gD (d:=(0:Rat)) (by rw [hSme.row om];omega))) ?_
 rintro ⟨e4,e5⟩ -
 refine vi VK ?_
 have e6:yF (yQ M3 ps.length j i) i j=yF M3 i j:=by exact Mx.zt9 (a7.mk' om)
 rw [e6]
 have hbi:=b7 i j
 have hb4:yO (yQ M3 ps.length j i) 100000000:=b7.el.up om
 refine zQ 15 rfl rfl<|zt 16 (zjm (first:=[]) (cap:=[]) (A':=fun y=>vp 32 rQ a0 ((yQ M3 ps.length j i).set i (Mx.sb ((yQ M3 ps.length j i).getD i []) ((yQ M3 ps.length j i).getD ps.length []) (yF M3 i j) j N))) kr rfl rfl rfl rfl (.c rfl (.c rfl (.c rfl (.c rfl .n)))) zP (zfz (hs:=a0) (M:=(yQ M3 ps.length j i)) (K:=K) (N:=N) (ii:=i) (rr:=ps.length) (u1:=e4) (v1:=e5) (xk:=(yF M3 i j)) (j0:=j) (hSm:=zL) (hii:=zL) (hrr:=zL) (hne:=zL) (hj0:=zL) (hN:=qB) (hx:=zL) (hb:=zL)) (.c (j:=0) rfl .n) ?_)
 rintro ⟨⟩ -
 dsimp only [aq,nq,cq]
 refine zU kr<|zG<|zi<|zv<|zE (qm (z:=(((i+1):Nat):Int)) rfl rfl (Q9 om))<|qJ rfl<|jq<|zW (i+1) (show (i+1)≤K from by show i+1≤K;omega) (by show K - (i+1)<K - i;omega) (mR rfl) (ho:=((.c (i:=1) rfl (.e (i:=0) rfl (by first|rfl|(rw [Mx.zu9 (a7.mk' om) (a7.mk' om) om (a7.row om)])) (.of [0,0] rfl))):zJ _ _ _)) ((.c (j:=1) rfl .n):q9 _ _ _)
 refine qN<|zG<|zi<|zv<|zE (qm (z:=(((i+1):Nat):Int)) rfl rfl (Q9 om))<|qJ rfl<|jq<|zW (i+1) (show (i+1)≤K from by show i+1≤K;omega) (by show K - (i+1)<K - i;omega) (mR rfl) (ho:=((.c (i:=0) rfl (.e (i:=0) rfl (by first|rfl|(rw [Mx.zuR (a7.mk' om) (by rcases Nat.decEq i ps.length with h|h;exact Or.inr (Rat.num_eq_zero.1 (Big.ZX.1 (Decidable.byContradiction fun z=>c3 ⟨Oo,z⟩)));exact Or.inl h)])) (.of [0,0] rfl))):zJ _ _ _)) (s0 rfl)
 refine z7<|ze<|ze<|zn<|zi<|vM 2 rfl<|qZ (z6 (enc:=fun z:Int=>[yaf yag z]) (ok:=Vb .i64) (h1:=fun _=>rfl) (h2:=fun _=>rfl) (k:=1) ye Ky rfl dd dd dd (.c (x:=((j:Nat):Int)) rfl rfl (fun _ _=>by exact zu.2 om) .n)) (fun b35 _=> ?_)
 refine qt 0 rfl .z<|vO 4 rfl (qT 0 rfl ye Ky dd rfl rfl zL rfl zL om om) (fun _=>(.s (.s (.s (.s .z))))) ?_
 rintro ⟨e7,e9⟩ -
 refine qY 1 rfl<|zG<|zi<|zv<|zE (qj rfl rfl)<|qY 1 rfl ?_
 have hstep:=hRd.step' c5 hkK om hpv b1 hxk b4
 have f0:(yQ M3 ps.length j i)=(yQ M3 ps.length j K):=by rw [show i=K by omega]
 rw [f0]
 refine zW ((j+1),a0,(yQ M3 ps.length j K),(ps++[j]),e7,e9) (by dsimp only;exact ⟨Oo,a7.el,hstep,b7.el.up (by show _≤6*Mx.H b j+4;omega)⟩) (by dsimp only;omega) ((.e rfl vA (.of rfl)):vQ _ _) (ho:=((.e (i:=4) rfl (by first|rfl|(rw [Mx.ztu])) (.of [3,2] rfl)):zJ _ _ _)) sN
 refine z7<|ze<|ze<|zn<|zi<|Zn 2 rfl ?_
 have ejn:j=nj:=Oo
 subst ejn
 exact zq rfl (a1,M1,ps,pP,cP) (⟨a2,hRd,hbd⟩) (zj rfl) rfl ((.of [1,1,0] rfl):zJ _ _ _) sN
theorem ziN (hn64:n9≤64) (hnA:A.length=nA) (hnB:B.length=nB) (hA0:(A.getD 0 []).length=n9) (hAB:nB=nA) (hA1:1≤nA∧nA≤64) (hB0:N=n9+(B.getD 0 []).length) (hN:N≤70) (hAr:∀i,i<nA→(A.getD i []).length=n9) (hBr:∀i,i<nA→N=n9+(B.getD i []).length):jI yt 143 [.slice pA nA cA,.slice pB nB cB] [] [zI (rS rQ) pA cA A,zI (rS rQ) pB cB B] (Y:=(Option Addr)×Nat×HP) (fun y=>y.2.2.length=nA) (fun y=> .slice (y.1) nA (y.2.1)) (fun y=>[rowA 62 rV (y.1) (y.2.1) (oh y.2.2 N),vp 32 rQ (y.2.2) (yq nA N (fun ii jj=>Mx.eB A B n9 ii jj))]) (fun y=>[]):=by
 refine zg Tryz.func143 rfl rfl (fun c=> ?_)
 refine zN 0 rfl (fun hL0=> ?_)
 refine zN 1 rfl (fun hL1=> ?_)
 refine vg<|zB (zX rfl rfl) (fun b1=> ?_)
 refine zB (zX rfl rfl) (fun b2=> ?_)
 refine jn 1 rfl<|vU 1 rfl (.s .z)<|vU 0 rfl .z<|Jo 100000<|vE 0 rfl (zf (j:=0) 1 Qx rfl rfl rfl rfl)<|zC 1 rfl (vL ya rfl)<|vE 2 rfl (zf (j:=0) 1 Qx rfl rfl rfl rfl)<|jc 3 rfl (zM (x0:=(A.getD 0 [])) 2 0 rfl ya vC rfl J0 rfl rfl (gD (d:=[]) om)) ?_
 rintro ⟨b3,o4,p5,c6⟩ -
 refine vE 4 rfl (zf (j:=0) 0 vF rfl rfl rfl rfl)<|zC 5 rfl (vL yb rfl)<|vE 6 rfl (zf (j:=0) 2 Qx rfl rfl rfl rfl)<|jc 7 rfl (zM (x0:=(B.getD 0 [])) 5 0 rfl ya vC rfl J0 rfl rfl (gD (d:=[]) om)) ?_
 rintro ⟨b7,o8,p9,c10⟩ -
 refine vE 8 rfl (zf (j:=0) 0 vF rfl rfl rfl rfl)<|zC 9 rfl (vL yb rfl)<|zC 10 rfl (qm (z:=(((((A.getD 0 []).length)+((B.getD 0 []).length)):Nat):Int)) rfl rfl (Q9 om)) ?_
 have a0:((((((A.getD 0 []).length)+((B.getD 0 []).length)):Nat):Int):Int)=((N:Nat):Int):=Oo
 rw [a0]
 refine zC 11 rfl (v6 .n (.c rfl (.c rfl .n)))<|zt 12 (zp rfl (ag3 rfl rfl rfl) zP (ziL (n9:=n9) zL qB qB qB qB qB zL qB qB qB) (sg4 5 6 4 7 rfl rfl rfl rfl) ?_)
 rintro ⟨a1,a2,a3⟩ hsl
 refine zC 13 rfl (zT rfl)<|zU kr<|zi<|vv ?_
 exact zq rfl (a1,a2,a3) hsl (zj rfl) rfl ((.of [0,0] rfl):zJ _ _ _) sN
theorem zqV {p:Option Addr} {n:Nat} {cap:Nat} {bq:Nat} {pL:Option Addr} {nL:Nat} {cL:Nat} {LL:List (List Int)} (hnL:LL.length=nL) (hL1:1≤nL) (heq:n=(LL.getD 0 []).length):CA 135 [.slice p n cap,Vp bq] [j8 bq 0 [.slice pL nL cL],zI (rS (rI .i64)) pL cL LL] (.bool false):=by
 refine zg Tryz.func135 rfl rfl (fun c=> ?_)
 refine zN 1 rfl (fun hL1=> ?_)
 refine jS 1 rfl<|kS 2 rfl<|zw (zf (j:=0) 0 zaf rfl rfl rfl rfl)<|vX (zM (x0:=(LL.getD 0 [])) 1 0 rfl yj zhB rfl zL rfl rfl (gD (d:=[]) om)) ?_
 rintro ⟨b1,o2,p3,c4⟩ -
 refine zw (zf (j:=0) 0 zhA rfl rfl rfl rfl)<|zE (vL ye rfl)<|zE (zhs rfl rfl) ?_
 rw [show (decide (((n:Nat):Int)≠(((LL.getD 0 []).length:Nat):Int)))=false from by exact decide_eq_false om]
 refine Zp 1 rfl ?_
 exact zq rfl () trivial (zj rfl) rfl oN sN
theorem ziO {bq:Nat} {pL:Option Addr} {nL:Nat} {cL:Nat} {LL:List (List Int)} (hnL:LL.length=nL) (hL1:1≤nL) (hU:∀i,i<nL→(LL.getD i []).length=(LL.getD 0 []).length):CA 212 [.slice pL nL cL,.func (.func 135) #[] #[Vp bq]] [j8 bq 0 [.slice pL nL cL],zI (rS (rI .i64)) pL cL LL] (.int .i64 (-1)):=by
 refine zg Tryz.func212 rfl rfl (fun c=> ?_)
 refine zN 1 rfl (fun hL1=> ?_)
 refine jg 1 rfl<|k12 3 rfl<|zk<|z5 (X:=Nat) (fun x=>x≤nL) (fun x=>[(8,Vi x)]) [7,0,1] (fun x=>[]) (fun x=>[]) [0,1] (fun x=>nL - x) 0 (by exact yT _) (.e rfl vA .n) oN sN ?_
 rintro i hI
 refine jg 1 rfl<|zx rfl (fun h1=> ?_) (fun h1=> ?_)
 refine vY<|zk<|jS 2 rfl<|kS 3 rfl<|vX (zM (x0:=(LL.getD i [])) 1 i rfl yj zhB rfl zL rfl rfl (gD (d:=[]) om)) ?_
 rintro ⟨b2,o3,p4,c5⟩ -
 dsimp only [aq,nq,cq]
 refine zw (zf (j:=0) 0 zhA rfl rfl rfl rfl)<|ZP rfl (.c rfl .n) zP (zqV qB qB (by first|rfl|assumption|omega|exact hU _ om)) (.c (j:=2) rfl (.c (j:=3) rfl .n)) (first:=[]) (cap:=[Vp bq]) ?_
 rintro ⟨⟩ -
 refine Vc<|qW rfl<|qN<|zG<|zi<|zv<|zE (qj rfl rfl)<|qY 1 rfl<|zW (i+1) (by show i+1≤nL;omega) om (mR rfl) oN ((.of [2,3] rfl))
 refine z7<|ze<|ze<|zn<|zi<|Zn 1 rfl ?_
 exact zq rfl () trivial (zj rfl) rfl oN sN
theorem ziP {bq:Nat} {pL:Option Addr} {nL:Nat} {cL:Nat} {LL:List (List Int)} (hnL:LL.length=nL) (hL1:1≤nL) (hU:∀i,i<nL→(LL.getD i []).length=(LL.getD 0 []).length):CA 134 [.slice pL nL cL,.func (.func 135) #[] #[Vp bq]] [j8 bq 0 [.slice pL nL cL],zI (rS (rI .i64)) pL cL LL] (.bool false):=by
 refine zg Tryz.func134 rfl rfl (fun c=> ?_)
 refine zN 1 rfl (fun hL1=> ?_)
 refine jS 1 rfl<|kS 2 rfl<|qg (q7 rfl rfl) zP (ziO qB qB qB) (vj 0 1 rfl rfl)<|Zp 2 rfl ?_
 exact zq rfl () trivial (zj rfl) (congrArg Value.bool (decide_eq_false (show ¬(0:Int)≤ -1 by decide)).symm) oN sN
theorem zqW {pL:Option Addr} {nL:Nat} {cL:Nat} {LL:List (List Int)} {N:Nat} (hnL:LL.length=nL) (hL1:1≤nL) (hU:∀i,i<nL→(LL.getD i []).length=(LL.getD 0 []).length) (hK:nL≤64) (hL0:(LL.getD 0 []).length=N) (hN:1≤N∧N≤64):CB 51 [.slice pL nL cL] [zI (rS (rI .i64)) pL cL LL] (Y:=(Option Addr)×Nat) (fun y=> .tuple #[.slice (y.1) nL (y.2),.int .i64 0]) (fun y=>[zI (rS rQ) (y.1) (y.2) (yq nL N (fun ii jj=>Mx.eI LL ii jj))]):=by
 refine zg Tryz.func51 rfl rfl (fun c=> ?_)
 refine zN 0 rfl (fun hL0=> ?_)
 refine vg<|zB (zX rfl rfl) (fun b1=> ?_)
 refine zE (zT rfl)<|zE (zT rfl)<|ZI<|vg<|zw (zc 0 zaf rfl rfl rfl)<|zE (vL yj rfl)<|zE (zhq rfl rfl) ?_
 rw [show (decide (((nL:Nat):Int)<1))=false from by exact decide_eq_false om]
 refine qJ rfl<|zw (zc 0 zaf rfl rfl rfl)<|zE (vL yj rfl)<|zE (zhr rfl rfl) ?_
 rw [show (decide (64<((nL:Nat):Int)))=false from by exact decide_eq_false om]
 refine kS 2 rfl<|zw (zc 0 zaf rfl rfl rfl)<|vX (zM (x0:=(LL.getD 0 [])) 0 0 rfl yj zhB rfl zL rfl rfl (gD (d:=[]) om)) ?_
 rintro ⟨b2,o3,p4,c5⟩ -
 refine zw (zf (j:=0) 0 zhA rfl rfl rfl rfl)<|zE (vL ye rfl)<|zE (zhq rfl rfl) ?_
 rw [show (decide ((((LL.getD 0 []).length:Nat):Int)<1))=false from by exact decide_eq_false om]
 refine kS 2 rfl<|zw (zc 0 zaf rfl rfl rfl)<|vX (zM (x0:=(LL.getD 0 [])) 2 0 rfl yj zhB rfl zL rfl rfl (gD (d:=[]) om)) ?_
 rintro ⟨b6,o7,p8,c9⟩ -
 refine zw (zf (j:=0) 0 zhA rfl rfl rfl rfl)<|zE (vL ye rfl)<|kS 1 rfl ?_
 rw [show (decide (64<(((LL.getD 0 []).length:Nat):Int)))=false from by exact decide_eq_false om]
 refine vZ 1 rfl<|qW rfl<|vY<|qe<|vU 0 rfl .z<|zv<|zw (zf (j:=0) 0 zaf rfl rfl rfl rfl)<|zE (v6 .n (.c rfl .n))<|qg (q7 rfl rfl) zP (ziP qB qB qB) (vj 0 5 rfl rfl)<|Vc<|qW rfl<|vY<|Jo 100000<|vE 0 rfl (zf (j:=0) 0 zaf rfl rfl rfl rfl)<|zC 1 rfl (vL yj rfl)<|vE 2 rfl (zf (j:=0) 0 zaf rfl rfl rfl rfl)<|jc 3 rfl (zM (x0:=(LL.getD 0 [])) 5 0 rfl yj zhB rfl zL rfl rfl (gD (d:=[]) om)) ?_
 rintro ⟨b10,o11,p12,c13⟩ -
 refine vE 4 rfl (zf (j:=0) 0 zhA rfl rfl rfl rfl)<|zC 5 rfl (vL ye rfl) ?_
 have a1:((((LL.getD 0 []).length:Nat):Int):Int)=((N:Nat):Int):=Oo
 rw [a1]
 refine zC 6 rfl (v6 .n (.c rfl .n)) ?_
 refine zt 7 (zp rfl (.c rfl (.c rfl (.c rfl .n))) zP (ziK qB (by first|rfl|assumption|omega|(intro i hi;rw [hU i hi];assumption)) qB (by first|rfl|assumption|omega|(intro i hi;rw [hU i hi];assumption)) (by first|rfl|assumption|omega|(intro i hi;rw [hU i hi];assumption))) (vj 2 7 rfl rfl) ?_)
 rintro ⟨a2,a3,a4⟩ a0
 refine zC 8 rfl (zT rfl)<|zC 9 rfl (zT rfl)<|zU kr<|zi<|vv<|ZH (fun w mm=>mm.rmFreeze 0 1 rfl rfl ((Mx.Je nL N _ a0).hl) ((Mx.Je nL N _ a0).rl)) ?_
 try dsimp only [yae]
 exact vD rfl (a2,a3) trivial (zj rfl) (zj rfl) rfl oN (s0 rfl)
theorem zg2 {i0:Nat} {j0:Nat}:CB 87 [Vi i0,Vi j0] [] (Y:=Wd×Wd) (fun y=> .agg #[y.1.b,y.1.l,y.2.b,y.2.l]) (fun y=>[qF true y.1 y.2 (yP i0 j0)]):=by
 refine zg Tryz.func87 rfl rfl (fun c=> ?_)
 refine vg<|zB (zo vh rfl) (fun b1=> ?_)
 refine ZI<|k12 3 rfl<|zx rfl (fun h7=> ?_) (fun h7=> ?_)
 refine vg<|zm (qS rfl) zP (j4 zL) (.n) ?_
 rintro ⟨a0,a1⟩ -
 refine zh 0 rfl rfl rfl rfl qk (.t4 .nil) .z<|Va<|zD ?_
 exact zq rfl (a0,a1) trivial (zy 0 qp rfl rfl (.t4 .nil)) rfl oN ((.e (j:=0) rfl (by rw [show yP i0 j0=((1:Int):Rat) from if_pos om]) .n))
 refine kk8<|zm (qS rfl) zP (j4 zL) (.n) ?_
 rintro ⟨a2,a3⟩ -
 refine zh 0 rfl rfl rfl rfl qk (.t4 .nil) .z<|Va ?_
 exact zq rfl (a2,a3) trivial (zy 0 qp rfl rfl (.t4 .nil)) rfl oN ((.e (j:=0) rfl (by rw [show yP i0 j0=((0:Int):Rat) from if_neg om]) .n))
theorem zlx (hK:K≤64) (hN:N≤70):jI yt 86 [Vi K,Vi N,.func (.func 87) #[] #[]] [] [] (Y:=(Option Addr)×Nat×HP) (fun y=>y.2.2.length=K) (fun y=> .slice (y.1) K (y.2.1)) (fun y=>[rowA 62 rV (y.1) (y.2.1) (oh y.2.2 N),vp 32 rQ (y.2.2) (yq K N (fun ii jj=>yP ii jj))]) (fun y=>[]):=by
 refine zg yK rfl rfl (fun c=> ?_)
 refine jS 1 rfl<|qJ rfl<|qZ (vS (r:=rV) (k:=K) (x0:=(none,0,0)) (γ0:=()) ya Z2 rfl rfl rfl rfl om om rfl (fun g _=>by trivial) dd) (fun b1 _=> ?_)
 refine jn 1 rfl<|qe<|JO (fun w mm=>mm.rmNil 32 rQ) ?_
 have e2:(yX K (none,0,0):List (Option Addr×Nat×Nat))=(yy ([]:HP) N K):=by exact Mx.Jf N K
 rw [e2]
 refine k22 3 rfl<|zk<|z5 (X:=Nat×HP) (fun x=>x.1≤K∧x.2.length=x.1) (fun x=>[(14,Vi x.1)]) [13,7,1,2] (fun x=>[vp 32 rQ (x.2) (yq x.1 N (fun ii jj=>yP ii jj)),rowA 62 rV (Sb b1) K (yy x.2 N K)]) (fun x=>[]) [] (fun x=>K - x.1) (0,([]:HP)) (by exact ⟨yT _,rfl⟩) (.e rfl vA .n) ((.e (i:=0) rfl (by rfl) (.c (i:=0) rfl .n)):zJ _ _ _) sN ?_
 rintro ⟨i,hs⟩ hI
 dsimp only at hI
 try dsimp only
 obtain ⟨hi,hlen⟩:=hI
 refine jg 1 rfl<|zx rfl (fun h3=> ?_) (fun h3=> ?_)
 refine qN<|zi<|qe<|zk<|jS 2 rfl<|kS 3 rfl<|Zy rfl rfl (vS (r:=rE) (k:=N) (x0:=(none:Option Rat)) (γ0:=(wz,wz)) yb jf rfl rfl rfl rfl om om rfl (fun g _=>JT g) dd) (fun b4 _=> ?_)
 refine zE (zZ (j:=i) ya vC rfl rfl rfl om)<|Zz 2 rfl rfl rfl (qh (j:=i) (x0:=(some ⟨b4,0,none⟩,N,N)) (γ0:=()) rfl rfl (by first|omega|(rw [Mx.Q4 om];omega)|(rw [Mx.jW];omega)) rfl rfl vC (fun _ _=>by trivial)) (fun _=>(.s (.s .z))) (fun _ _=> ?_)
 refine ZI ?_
 have e5:(((yy hs N K).set i (Sb b4,N,N)):List (Option Addr×Nat×Nat))=(yy (hs++[((Sb b4:Option Addr),N)]) N K):=by exact Mx.Jg hlen om
 rw [e5]
 have e6:(yX N (none:Option Rat):List (Option Rat))=(yR 0 N (fun jj=>yP i jj)):=by exact Mx.Qo N _
 rw [e6]
 refine vM 2 rfl<|zE (zZ (j:=i) ya vC rfl rfl rfl om)<|vX (qi (x0:=(Sb b4,N,N)) (v:= .slice (Sb b4) N N) 2 i rfl vF rfl rfl (by exact Mx.Z3 (K:=K) om) rfl) (fun _ a4=> ?_)
 refine vZ 2 rfl<|zk<|z5 (X:=Nat) (fun x=>x≤N) (fun x=>[(27,Vi x)]) [26,8,14,13,7,1,2] (fun x=>[rowA 32 rE (Sb b4) N (yR x N (fun jj=>yP i jj)),vp 32 rQ hs (yq i N (fun ii jj=>yP ii jj)),rowA 62 rV (Sb b1) K (yy (hs++[((Sb b4:Option Addr),N)]) N K)]) (fun x=>[]) [] (fun x=>N - x) 0 (by exact yT _) (.e rfl vA .n) ((.of [0,0,0] rfl):zJ _ _ _) sN ?_
 rintro j hJ
 refine jg 1 rfl<|zx rfl (fun h8=> ?_) (fun h8=> ?_)
 refine vY<|zk<|k12 2 rfl<|Vk 10<|zQ 0 rfl rfl<|zQ 1 rfl rfl<|zC 2 rfl (zZ (j:=i) ya vC rfl rfl rfl om)<|QM 3 rfl (qi (x0:=(Sb b4,N,N)) (v:= .slice (Sb b4) N N) 2 i rfl vF rfl rfl (by exact Mx.Z3 (K:=K) om) rfl) (fun _ a5=> ?_)
 refine zQ 4 rfl rfl<|zQ 5 rfl rfl<|zQ 6 rfl rfl<|zQ 7 rfl rfl<|zt 8 (V6 rfl rfl (.c rfl (.c rfl .n)) zP zg2 (.n) (first:=[]) (cap:=[]) ?_)
 rintro ⟨a0,a1⟩ -
 dsimp only [aq,nq,cq]
 refine zC 9 rfl (zZ (j:=j) yb qk rfl rfl rfl om) ?_
 refine zt 10 (VH (A':=fun _=>rowA 32 rE (Sb b4) N ((yR j N (fun jj=>yP i jj)).set j (some (yP i j)))) kr rfl (qh (r:=rE) (j:=j) (x0:=(some (yP i j))) (γ0:=(a0,a1)) rfl rfl (by first|omega|(rw [Mx.Q4 om];omega)|(rw [Mx.jW];omega)) rfl rfl qk (fun g hr=>Kz (Holds.get 0 rfl hr))) (hw':=rfl) (hd:=rfl) (fun _ _=> ?_))
 refine zU kr<|zG<|zi<|zv<|zE (qj rfl rfl)<|qY 1 rfl<|zW (j+1) (show (j+1)≤N from by show j+1≤N;omega) (by show N - (j+1)<N - j;omega) (mR rfl) (ho:=((.e (i:=0) rfl (by first|rfl|(rw [Mx.VL om])) (.of [0,0] rfl)):zJ _ _ _)) sN
 refine z7<|ze<|ze<|zn<|zG<|zi<|zv<|zE (qj rfl rfl)<|qY 1 rfl<|ZH (fun w mm=>mm.rowEQ (l2:=((yZ N).map (fun jj=>yP i jj))) 0 rfl (by rw [show j=N by omega];exact Mx.Jw N _)) ?_
 try dsimp only [yW]
 refine ZH (fun w mm=>mm.rmSnoc 0 0 rfl rfl (by rw [yJ];exact hlen)) ?_
 try dsimp only [yW]
 refine zW ((i+1),(hs++[((Sb b4:Option Addr),N)])) (by dsimp only;exact ⟨Oo,by rw [yU,hlen];rfl⟩) (by dsimp only;omega) (mR rfl) (ho:=((.e (i:=0) rfl (by first|rfl|(rw [Mx.zpJ])) (.c (i:=0) rfl .n)):zJ _ _ _)) sN
 refine z7<|ze<|ze<|zn<|zi<|Zn 2 rfl ?_
 have a2:((yy hs N K):List (Option Addr×Nat×Nat))=(oh hs N):=by exact Mx.WS (hlen.trans om)
 rw [a2]
 have a3:(yq i N (fun ii jj=>yP ii jj))=(yq K N (fun ii jj=>yP ii jj)):=by rw [show i=K by omega]
 rw [a3]
 exact zq rfl (Sb b1,K,hs) (hlen.trans om) (zj rfl) rfl ((.of [1,0] rfl):zJ _ _ _) sN
theorem ziQ {pM:Option Addr} {nM:Nat} {cM:Nat} {M:List (List Rat)} (hnM:M.length=nM) (hM1:1≤nM) (hU:∀i,i<nM→(M.getD i []).length=(M.getD 0 []).length) (hK:nM≤64) (hN:(M.getD 0 []).length=nM):CA 78 [.slice pM nM cM] [zI (rS rQ) pM cM M] (.int .i64 0):=by
 refine zg Tryz.func78 rfl rfl (fun c=> ?_)
 refine zN 0 rfl (fun hL0=> ?_)
 refine jg 1 rfl<|jK 1 rfl<|qg (qS rfl) zP (Kr qB qB qB qB zL) (qX 0 rfl)<|jD 1 rfl<|vZ 2 rfl<|qW rfl<|vY<|jK 3 rfl<|vX (zM (x0:=(M.getD 0 [])) 0 0 rfl ya vC rfl zL rfl rfl (gD (d:=[]) om)) ?_
 rintro ⟨b1,o2,p3,c4⟩ -
 refine zw (zf (j:=0) 0 vF rfl rfl rfl rfl)<|vZ 2 rfl<|zx rfl (fun a0=> ?_) (fun a0=> ?_)
 exact absurd om a0
 refine k85 1 rfl ?_
 exact zq rfl () trivial (zj rfl) rfl oN sN
theorem zfA {i0:Nat} {j0:Nat} {bM:Nat} {pM:Option Addr} {nM:Nat} {cM:Nat} {M:List (List Rat)} {bN:Nat} {n9:Nat} (hnM:M.length=nM) (hrw:∀i,i<nM→(M.getD i []).length=n9+n9) (hn9:n9≤32) (hi0:i0<nM) (hj0:j0<n9):CB 145 [Vi i0,Vi j0,Vp bM,Vp bN] [j8 bM 0 [.slice pM nM cM],zI (rS rQ) pM cM M,j8 bN 0 [Vi n9]] (Y:=Wd×Wd) (fun y=> .agg #[y.1.b,y.1.l,y.2.b,y.2.l]) (fun y=>[qF true y.1 y.2 (Td.eW n9 M i0 j0)]):=by
 refine zg Tryz.func145 rfl rfl (fun c=> ?_)
 refine zN 1 rfl (fun hL1=> ?_)
 refine vg<|zB (zo vh rfl) (fun b1=> ?_)
 refine ZI<|Vk 9<|vE 0 rfl (zf (j:=0) 0 Qx rfl rfl rfl rfl)<|zQ 1 rfl rfl<|jc 2 rfl (zM (x0:=(M.getD i0 [])) 1 i0 rfl ya vC rfl zL rfl rfl (gD (d:=[]) om)) ?_
 rintro ⟨b2,o3,p4,c5⟩ -
 dsimp only [aq,nq,cq]
 refine vE 3 rfl (zf (j:=0) 0 vF rfl rfl rfl rfl) ?_
 refine vE 4 rfl (zf (j:=0) 4 v8 rfl rfl rfl rfl) ?_
 refine zQ 5 rfl rfl ?_
 refine zC 6 rfl (Qj rfl rfl) ?_
 refine jc 7 rfl (zM (x0:=((M.getD i0 []).getD (n9+j0) (0:Rat))) 1 (n9+j0) rfl yb qk rfl (by first|rfl|assumption|omega|exact hrw _ hi0) rfl rfl (gD (d:=(0:Rat)) (by first|omega|(rw [hrw _ hi0];omega)))) ?_
 rintro ⟨b6,o7,w9,a0⟩ -
 refine vi qR<|vE 8 rfl (zA (j:=0) 0 qp rfl rfl rfl (.t4 .nil))<|zt 9 (zH rfl rfl rfl rfl qk (.t4 .nil) ?_)
 refine zU kr<|zi<|vv ?_
 exact zq rfl (w9,a0) trivial (zy 0 qp rfl rfl (.t4 .nil)) rfl oN ((.c (j:=1) rfl .n))
theorem ziR {bM:Nat} {pM:Option Addr} {nM:Nat} {cM:Nat}  {bN:Nat}  (hK:K≤64) (hN:N≤70) (hnM:M.length=nM) (hrw:∀i,i<nM→(M.getD i []).length=n9+n9) (hn9:n9≤32) (hKn:K=nM) (hNn:N=n9):jI yt 86 [Vi K,Vi N,.func (.func 145) #[] #[Vp bM,Vp bN]] [] [j8 bM 0 [.slice pM nM cM],zI (rS rQ) pM cM M,j8 bN 0 [Vi n9]] (Y:=(Option Addr)×Nat×HP) (fun y=>y.2.2.length=K) (fun y=> .slice (y.1) K (y.2.1)) (fun y=>[rowA 62 rV (y.1) (y.2.1) (oh y.2.2 N),vp 32 rQ (y.2.2) (yq K N (fun ii jj=>Td.eW n9 M ii jj))]) (fun y=>[]):=by
 refine zg yK rfl rfl (fun c=> ?_)
 refine zN 1 rfl (fun hL1=> ?_)
 refine jS 1 rfl<|qJ rfl<|qZ (vS (r:=rV) (k:=K) (x0:=(none,0,0)) (γ0:=()) ya Z2 rfl rfl rfl rfl om om rfl (fun g _=>by trivial) dd) (fun b1 _=> ?_)
 refine jn 1 rfl<|qe<|JO (fun w mm=>mm.rmNil 32 rQ) ?_
 have e2:(yX K (none,0,0):List (Option Addr×Nat×Nat))=(yy ([]:HP) N K):=by exact Mx.Jf N K
 rw [e2]
 refine k22 3 rfl<|zk<|z5 (X:=Nat×HP) (fun x=>x.1≤K∧x.2.length=x.1) (fun x=>[(14,Vi x.1)]) [13,7,1,2] (fun x=>[vp 32 rQ (x.2) (yq x.1 N (fun ii jj=>Td.eW n9 M ii jj)),rowA 62 rV (Sb b1) K (yy x.2 N K)]) (fun x=>[]) [0,1,2] (fun x=>K - x.1) (0,([]:HP)) (by exact ⟨yT _,rfl⟩) (.e rfl vA .n) ((.e (i:=0) rfl (by rfl) (.c (i:=0) rfl .n)):zJ _ _ _) sN ?_
 rintro ⟨i,hs⟩ hI
 dsimp only at hI
 try dsimp only
 obtain ⟨hi,hlen⟩:=hI
 refine jg 1 rfl<|zx rfl (fun h3=> ?_) (fun h3=> ?_)
 refine qN<|zi<|qe<|zk<|jS 2 rfl<|kS 3 rfl<|Zy rfl rfl (vS (r:=rE) (k:=N) (x0:=(none:Option Rat)) (γ0:=(wz,wz)) yb jf rfl rfl rfl rfl om om rfl (fun g _=>JT g) dd) (fun b4 _=> ?_)
 refine zE (zZ (j:=i) ya vC rfl rfl rfl om)<|Zz 2 rfl rfl rfl (qh (j:=i) (x0:=(some ⟨b4,0,none⟩,N,N)) (γ0:=()) rfl rfl (by first|omega|(rw [Mx.Q4 om];omega)|(rw [Mx.jW];omega)) rfl rfl vC (fun _ _=>by trivial)) (fun _=>(.s (.s .z))) (fun _ _=> ?_)
 refine ZI ?_
 have e5:(((yy hs N K).set i (Sb b4,N,N)):List (Option Addr×Nat×Nat))=(yy (hs++[((Sb b4:Option Addr),N)]) N K):=by exact Mx.Jg hlen om
 rw [e5]
 have e6:(yX N (none:Option Rat):List (Option Rat))=(yR 0 N (fun jj=>Td.eW n9 M i jj)):=by exact Mx.Qo N _
 rw [e6]
 refine vM 2 rfl<|zE (zZ (j:=i) ya vC rfl rfl rfl om)<|vX (qi (x0:=(Sb b4,N,N)) (v:= .slice (Sb b4) N N) 2 i rfl vF rfl rfl (by exact Mx.Z3 (K:=K) om) rfl) (fun _ a4=> ?_)
 refine vZ 2 rfl<|zk<|z5 (X:=Nat) (fun x=>x≤N) (fun x=>[(27,Vi x)]) [26,8,14,13,7,1,2] (fun x=>[rowA 32 rE (Sb b4) N (yR x N (fun jj=>Td.eW n9 M i jj)),vp 32 rQ hs (yq i N (fun ii jj=>Td.eW n9 M ii jj)),rowA 62 rV (Sb b1) K (yy (hs++[((Sb b4:Option Addr),N)]) N K)]) (fun x=>[]) [0,1,2] (fun x=>N - x) 0 (by exact yT _) (.e rfl vA .n) ((.of [0,0,0] rfl):zJ _ _ _) sN ?_
 rintro j hJ
 refine jg 1 rfl<|zx rfl (fun h8=> ?_) (fun h8=> ?_)
 refine vY<|zk<|k12 2 rfl<|Vk 10<|zQ 0 rfl rfl<|zQ 1 rfl rfl<|zC 2 rfl (zZ (j:=i) ya vC rfl rfl rfl om)<|QM 3 rfl (qi (x0:=(Sb b4,N,N)) (v:= .slice (Sb b4) N N) 2 i rfl vF rfl rfl (by exact Mx.Z3 (K:=K) om) rfl) (fun _ a5=> ?_)
 refine zQ 4 rfl rfl<|zQ 5 rfl rfl<|zQ 6 rfl rfl<|zQ 7 rfl rfl<|zt 8 (V6 rfl rfl (.c rfl (.c rfl .n)) zP (zfA qB qB qB zL zL) (.c (j:=0) rfl (.c (j:=1) rfl (.c (j:=2) rfl .n))) (first:=[]) (cap:=[Vp bM,Vp bN]) ?_)
 rintro ⟨a0,a1⟩ -
 dsimp only [aq,nq,cq]
 refine zC 9 rfl (zZ (j:=j) yb qk rfl rfl rfl om) ?_
 refine zt 10 (VH (A':=fun _=>rowA 32 rE (Sb b4) N ((yR j N (fun jj=>Td.eW n9 M i jj)).set j (some (Td.eW n9 M i j)))) kr rfl (qh (r:=rE) (j:=j) (x0:=(some (Td.eW n9 M i j))) (γ0:=(a0,a1)) rfl rfl (by first|omega|(rw [Mx.Q4 om];omega)|(rw [Mx.jW];omega)) rfl rfl qk (fun g hr=>Kz (Holds.get 0 rfl hr))) (hw':=rfl) (hd:=rfl) (fun _ _=> ?_))
 refine zU kr<|zG<|zi<|zv<|zE (qj rfl rfl)<|qY 1 rfl<|zW (j+1) (show (j+1)≤N from by show j+1≤N;omega) (by show N - (j+1)<N - j;omega) (mR rfl) (ho:=((.e (i:=0) rfl (by first|rfl|(rw [Mx.VL om])) (.of [0,0] rfl)):zJ _ _ _)) ((.of [1,2,3] rfl):q9 _ _ _)
 refine z7<|ze<|ze<|zn<|zG<|zi<|zv<|zE (qj rfl rfl)<|qY 1 rfl<|ZH (fun w mm=>mm.rowEQ (l2:=((yZ N).map (fun jj=>Td.eW n9 M i jj))) 0 rfl (by rw [show j=N by omega];exact Mx.Jw N _)) ?_
 try dsimp only [yW]
 refine ZH (fun w mm=>mm.rmSnoc 0 0 rfl rfl (by rw [yJ];exact hlen)) ?_
 try dsimp only [yW]
 refine zW ((i+1),(hs++[((Sb b4:Option Addr),N)])) (by dsimp only;exact ⟨Oo,by rw [yU,hlen];rfl⟩) (by dsimp only;omega) (mR rfl) (ho:=((.e (i:=0) rfl (by first|rfl|(rw [Mx.zpJ])) (.c (i:=0) rfl .n)):zJ _ _ _)) ((.of [0,1,2] rfl):q9 _ _ _)
 refine z7<|ze<|ze<|zn<|zi<|Zn 2 rfl ?_
 have a2:((yy hs N K):List (Option Addr×Nat×Nat))=(oh hs N):=by exact Mx.WS (hlen.trans om)
 rw [a2]
 have a3:(yq i N (fun ii jj=>Td.eW n9 M ii jj))=(yq K N (fun ii jj=>Td.eW n9 M ii jj)):=by rw [show i=K by omega]
 rw [a3]
 exact zq rfl (Sb b1,K,hs) (hlen.trans om) (zj rfl) rfl ((.of [1,0] rfl):zJ _ _ _) sN
theorem ziS {qa:Int} {qb:Int} {qc:Int} {qd:Int}:CA 249 [.agg #[.int .i64 qa,.int .i64 qb,.int .i64 qc,.int .i64 qd]] [] (.agg #[.int .i64 qa,.int .i64 qb,.int .i64 qc,.int .i64 qd]):=by
 refine zg Tryz.func249 rfl rfl (fun c=> ?_)
 refine vg<|zB (zX rfl rfl) (fun b1=> ?_)
 refine zB (zo zrn rfl) (fun b2=> ?_)
 refine Vj<|zE (zb yc rfl je rfl rfl)<|zw (zc 1 v8 rfl rfl rfl)<|zE (zb yc rfl je rfl rfl)<|zw (zc 1 v8 rfl rfl rfl)<|zE (zb yc rfl je rfl rfl)<|zw (zc 1 v8 rfl rfl rfl)<|zE (zb yc rfl je rfl rfl)<|zw (zc 1 v8 rfl rfl rfl)<|zE (jz zrn rfl yv je (.c rfl (.c rfl (.c rfl (.c rfl .n)))) (.c rfl rfl rfl (.take .nil) (.c rfl rfl rfl (.skip (.take .nil)) (.c rfl rfl rfl (.s2 (.take .nil)) (.c rfl rfl rfl (.s2 (.skip (.take .nil))) .n)))))<|zh 0 rfl rfl rfl rfl zt0 (.t4 .nil) .z<|Va ?_
 exact zq rfl () trivial (zy 0 ztZ rfl rfl (.t4 .nil)) rfl oN sN
theorem zly {qa:Int} {qb:Int} {qc:Int} {qd:Int} (hq0:¬(qa=0∧qb=0∧qc=0∧qd=0)) (hqa:yu qa) (hqb:yu qb) (hqc:yu qc) (hqd:yu qd):CA 200 [.agg #[.int .i64 qa,.int .i64 qb,.int .i64 qc,.int .i64 qd]] [] (.int .i64 0):=by
 refine zg Tryz.func200 rfl rfl (fun c=> ?_)
 unfold yu at hqa hqb hqc hqd
 refine vg<|zB (zX rfl rfl) (fun b1=> ?_)
 refine jn 1 rfl<|vg<|zw (za 0 zae rfl rfl (.t4 .nil))<|zE (qr zkK rfl yc (.c je (.c je (.c je (.c je .n)))) .n .n)<|zE (J3 (p:=qa=0∧qb=0∧qc=0∧qd=0) kr rfl rfl (V7 yc kr (Zm dd v8 rfl rfl (Zl yi) (Zm dd v8 rfl rfl (Zl yi) (Zm dd v8 rfl rfl (Zl yi) (Zm dd v8 rfl rfl (Zl yi) zac))))) (by simp [Bool.decide_and]))<|Vc<|zx rfl (fun h7=> ?_) (fun h7=> ?_)
 exact absurd (by simpa using h7) hq0
 refine vY<|vg<|zw (za 0 zae rfl rfl (.t4 .nil))<|qg (qS rfl) zP ziS (.n)<|vZ 1 rfl<|zk<|zen<|Zd<|jg 1 rfl<|jl rfl<|vY<|zk<|vg<|zE (ZO (i:=0) yv v8 rfl rfl dd rfl)<|vZ 1 rfl<|ji (X:=Unit) (fun x=>True) (fun x=>[(18,.bool (decide ((qa<(-0x100000))∨(0x100000<qa)))),(10,.int .i64 0),(9,.agg #[.int .i64 qa,.int .i64 qb,.int .i64 qc,.int .i64 qd])]) (fun x=>[]) (fun x=>[]) ?_ ?_
 refine vM 2 rfl<|q8 (qU rfl) (fun h2=> ?_) (fun h2=> ?_)
 refine qY 3 rfl ?_
 exact qL () Qn ((.e rfl (congrArg Value.bool JS) (.c rfl (.c rfl .n)))) oN sN
 refine qY 3 rfl ?_
 exact qL () Qn ((.e rfl (congrArg Value.bool JS) (.c rfl (.c rfl .n)))) oN sN
 rintro ⟨⟩ -
 refine zx rfl (fun a0=> ?_) (fun a0=> ?_)
 omega
 refine qN<|zG<|zi<|zv<|zE (qm (z:=1) rfl rfl (Q9 dd))<|qY 1 rfl<|ZF<|Zd<|jg 1 rfl<|jl rfl<|vY<|zk<|vg<|zE (ZO (i:=1) yv v8 rfl rfl dd rfl)<|vZ 1 rfl<|ji (X:=Unit) (fun x=>True) (fun x=>[(18,.bool (decide ((qb<(-0x100000))∨(0x100000<qb)))),(10,.int .i64 1),(9,.agg #[.int .i64 qa,.int .i64 qb,.int .i64 qc,.int .i64 qd])]) (fun x=>[]) (fun x=>[]) ?_ ?_
 refine vM 2 rfl<|q8 (qU rfl) (fun h3=> ?_) (fun h3=> ?_)
 refine qY 3 rfl ?_
 exact qL () Qn ((.e rfl (congrArg Value.bool JS) (.c rfl (.c rfl .n)))) oN sN
 refine qY 3 rfl ?_
 exact qL () Qn ((.e rfl (congrArg Value.bool JS) (.c rfl (.c rfl .n)))) oN sN
 rintro ⟨⟩ -
 refine zx rfl (fun a0=> ?_) (fun a0=> ?_)
 omega
 refine qN<|zG<|zi<|zv<|zE (qm (z:=2) rfl rfl (Q9 dd))<|qY 1 rfl<|ZF<|Zd<|jg 1 rfl<|jl rfl<|vY<|zk<|vg<|zE (ZO (i:=2) yv v8 rfl rfl dd rfl)<|vZ 1 rfl<|ji (X:=Unit) (fun x=>True) (fun x=>[(18,.bool (decide ((qc<(-0x100000))∨(0x100000<qc)))),(10,.int .i64 2),(9,.agg #[.int .i64 qa,.int .i64 qb,.int .i64 qc,.int .i64 qd])]) (fun x=>[]) (fun x=>[]) ?_ ?_
 refine vM 2 rfl<|q8 (qU rfl) (fun h4=> ?_) (fun h4=> ?_)
 refine qY 3 rfl ?_
 exact qL () Qn ((.e rfl (congrArg Value.bool JS) (.c rfl (.c rfl .n)))) oN sN
 refine qY 3 rfl ?_
 exact qL () Qn ((.e rfl (congrArg Value.bool JS) (.c rfl (.c rfl .n)))) oN sN
 rintro ⟨⟩ -
 refine zx rfl (fun a0=> ?_) (fun a0=> ?_)
 omega
 refine qN<|zG<|zi<|zv<|zE (qm (z:=3) rfl rfl (Q9 dd))<|qY 1 rfl<|ZF<|Zd<|jg 1 rfl<|jl rfl<|vY<|zk<|vg<|zE (ZO (i:=3) yv v8 rfl rfl dd rfl)<|vZ 1 rfl<|ji (X:=Unit) (fun x=>True) (fun x=>[(18,.bool (decide ((qd<(-0x100000))∨(0x100000<qd)))),(10,.int .i64 3),(9,.agg #[.int .i64 qa,.int .i64 qb,.int .i64 qc,.int .i64 qd])]) (fun x=>[]) (fun x=>[]) ?_ ?_
 refine vM 2 rfl<|q8 (qU rfl) (fun h5=> ?_) (fun h5=> ?_)
 refine qY 3 rfl ?_
 exact qL () Qn ((.e rfl (congrArg Value.bool JS) (.c rfl (.c rfl .n)))) oN sN
 refine qY 3 rfl ?_
 exact qL () Qn ((.e rfl (congrArg Value.bool JS) (.c rfl (.c rfl .n)))) oN sN
 rintro ⟨⟩ -
 refine zx rfl (fun a0=> ?_) (fun a0=> ?_)
 omega
 refine qN<|zG<|zi<|zv<|zE (qm (z:=4) rfl rfl (Q9 dd))<|qY 1 rfl<|ZF<|Zd<|jg 1 rfl<|qW rfl<|z7<|ze<|ze<|zn<|zi<|Zn 1 rfl ?_
 exact zq rfl () trivial (zj rfl) rfl oN sN
theorem zoU {qa:Int} {qb:Int} {qc:Int} {qd:Int} (hq0:¬(qa=0∧qb=0∧qc=0∧qd=0)) (hqa:yu qa) (hqb:yu qb) (hqc:yu qc) (hqd:yu qd):CA 201 [.agg #[.int .i64 qa,.int .i64 qb,.int .i64 qc,.int .i64 qd]] [] (.int .i64 (yH qa qb qc qd)):=by
 refine zg Tryz.func201 rfl rfl (fun c=> ?_)
 have a0:=Ro.zkd hqa hqb hqc hqd
 obtain ⟨⟨hm1,hm2,hm3,hm4⟩,hm5,hm6,hm7,hm8,hm9,a1⟩:=a0
 have hn1:=Ro.Wt hq0
 have hn2:=Ro.zde hqa hqb hqc hqd
 have hE9:∀i,i<3→Ro.r6 ((yl qa qb qc qd).getD i (0,0,0)):=fun i hi=>Ro.zdf hqa hqb hqc hqd hi
 refine vg<|zB (zX rfl rfl) (fun b1=> ?_)
 refine jD 1 rfl<|zE (zb yc rfl je rfl rfl)<|zw (zc 0 v8 rfl rfl rfl)<|zE (zb yc rfl je rfl rfl)<|zw (zc 0 v8 rfl rfl rfl)<|zE (qw rfl rfl w6)<|zE (zb yc rfl je rfl rfl)<|zw (zc 0 v8 rfl rfl rfl)<|zE (zb yc rfl je rfl rfl)<|zw (zc 0 v8 rfl rfl rfl)<|zE (qw rfl rfl w6)<|zE (qm rfl rfl w6)<|zE (zb yc rfl je rfl rfl)<|zw (zc 0 v8 rfl rfl rfl)<|zE (zb yc rfl je rfl rfl)<|zw (zc 0 v8 rfl rfl rfl)<|zE (qw rfl rfl w6)<|zE (qm rfl rfl w6)<|zE (zb yc rfl je rfl rfl)<|zw (zc 0 v8 rfl rfl rfl)<|zE (zb yc rfl je rfl rfl)<|zw (zc 0 v8 rfl rfl rfl)<|zE (qw rfl rfl w6)<|zE (qm rfl rfl w6)<|Zp 1 rfl ?_
 exact zq rfl () trivial (zj rfl) rfl oN sN
theorem zg3 {qa:Int} {qb:Int} {qc:Int} {qd:Int} (hq0:¬(qa=0∧qb=0∧qc=0∧qd=0)) (hqa:yu qa) (hqb:yu qb) (hqc:yu qc) (hqd:yu qd):CB 118 [.agg #[.int .i64 qa,.int .i64 qb,.int .i64 qc,.int .i64 qd]] [] (Y:=(Option Addr)×Nat) (fun y=> .tuple #[.slice (y.1) 3 (y.2),.int .i64 0]) (fun y=>[zI (rS rQ) (y.1) (y.2) (yo qa qb qc qd)]):=by
 refine zg Tryz.func118 rfl rfl (fun c=> ?_)
 have a3:=Ro.zkd hqa hqb hqc hqd
 obtain ⟨⟨hm1,hm2,hm3,hm4⟩,hm5,hm6,hm7,hm8,hm9,b6⟩:=a3
 have hn1:=Ro.Wt hq0
 have hn2:=Ro.zde hqa hqb hqc hqd
 have a4:∀i,i<3→Ro.r6 ((yl qa qb qc qd).getD i (0,0,0)):=fun i hi=>Ro.zdf hqa hqb hqc hqd hi
 refine vg<|zB (zX rfl rfl) (fun b1=> ?_)
 refine jn 2 rfl<|vg<|zw (za 0 zae rfl rfl (.t4 .nil))<|qg (qS rfl) zP (zly qB qB qB qB qB) (.n)<|jD 1 rfl<|vZ 2 rfl<|qW rfl<|vY<|Jo 100000<|zC 0 rfl (zb yc rfl je rfl rfl)<|vE 1 rfl (zc 0 v8 rfl rfl rfl)<|zC 2 rfl (zb yc rfl je rfl rfl)<|vE 3 rfl (zc 0 v8 rfl rfl rfl)<|zC 4 rfl (zb yc rfl je rfl rfl)<|vE 5 rfl (zc 0 v8 rfl rfl rfl)<|zC 6 rfl (zb yc rfl je rfl rfl)<|vE 7 rfl (zc 0 v8 rfl rfl rfl)<|zC 8 rfl (zT rfl)<|zC 9 rfl (zT rfl)<|zC 10 rfl (zT rfl)<|zC 11 rfl (zT rfl)<|zU kr<|zi<|jK 2 rfl<|zE (qw rfl rfl w6)<|kS 2 rfl<|zE (qw rfl rfl w6)<|zE (qm rfl rfl w6)<|kS 2 rfl<|zE (qw rfl rfl w6)<|zE (qx rfl rfl w6)<|kS 2 rfl<|zE (qw rfl rfl w6)<|zE (qx rfl rfl w6)<|kS 2 rfl<|zE (qw rfl rfl w6)<|kS 2 rfl<|zE (qw rfl rfl w6)<|zE (qx rfl rfl w6)<|zE (qw rfl rfl w6)<|kS 2 rfl<|zE (qw rfl rfl w6)<|kS 2 rfl<|zE (qw rfl rfl w6)<|zE (qm rfl rfl w6)<|zE (qw rfl rfl w6)<|zE (jz zdD rfl yz je (.c rfl (.c rfl (.c rfl .n))) (.c rfl rfl rfl (.take .nil) (.c rfl rfl rfl (.skip (.take .nil)) (.c rfl rfl rfl (.s2 (.take .nil)) .n))))<|kS 2 rfl<|zE (qw rfl rfl w6)<|kS 2 rfl<|zE (qw rfl rfl w6)<|zE (qm rfl rfl w6)<|zE (qw rfl rfl w6)<|kS 2 rfl<|zE (qw rfl rfl w6)<|kS 2 rfl<|zE (qw rfl rfl w6)<|zE (qx rfl rfl w6)<|kS 2 rfl<|zE (qw rfl rfl w6)<|zE (qm rfl rfl w6)<|kS 2 rfl<|zE (qw rfl rfl w6)<|zE (qx rfl rfl w6)<|kS 2 rfl<|zE (qw rfl rfl w6)<|kS 2 rfl<|zE (qw rfl rfl w6)<|zE (qx rfl rfl w6)<|zE (qw rfl rfl w6)<|zE (jz zdD rfl yz je (.c rfl (.c rfl (.c rfl .n))) (.c rfl rfl rfl (.take .nil) (.c rfl rfl rfl (.skip (.take .nil)) (.c rfl rfl rfl (.s2 (.take .nil)) .n))))<|kS 2 rfl<|zE (qw rfl rfl w6)<|kS 2 rfl<|zE (qw rfl rfl w6)<|zE (qx rfl rfl w6)<|zE (qw rfl rfl w6)<|kS 2 rfl<|zE (qw rfl rfl w6)<|kS 2 rfl<|zE (qw rfl rfl w6)<|zE (qm rfl rfl w6)<|zE (qw rfl rfl w6)<|kS 2 rfl<|zE (qw rfl rfl w6)<|kS 2 rfl<|zE (qw rfl rfl w6)<|zE (qx rfl rfl w6)<|kS 2 rfl<|zE (qw rfl rfl w6)<|zE (qx rfl rfl w6)<|kS 2 rfl<|zE (qw rfl rfl w6)<|zE (qm rfl rfl w6)<|zE (jz zdD rfl yz je (.c rfl (.c rfl (.c rfl .n))) (.c rfl rfl rfl (.take .nil) (.c rfl rfl rfl (.skip (.take .nil)) (.c rfl rfl rfl (.s2 (.take .nil)) .n))))<|zE (jz zrm rfl Tryz.underlying219 zmf (.c rfl (.c rfl (.c rfl .n))) (.c rfl rfl rfl (.t2 (.take .nil)) (.c rfl rfl rfl (.s2 (.skip (.t2 (.take .nil)))) (.c rfl rfl rfl (.s4 (.s2 (.t2 (.take .nil)))) .n)))) ?_
 refine zB (zo zrm rfl) (fun b2=> ?_)
 refine zh 0 rfl rfl rfl rfl ztY (.t8 (.take .nil)) .z<|k43 1 rfl<|qe<|Zj 62 (rS rQ)<|zv<|zw (za 1 ztX rfl rfl (.t8 (.take .nil)))<|vZ 1 rfl<|zk<|z5 (X:=Nat×(Option Addr)×Nat×(List (List Rat))) (fun x=>x.1≤3∧x.2.2.2=((yl qa qb qc qd).take x.1).map (fun z=>Ro.K5 z (yH qa qb qc qd))) (fun x=>[(10,.slice (x.2.1) (x.2.2.2.length) (x.2.2.1)),(129,Vi x.1)]) [128,1] (fun x=>[rowA 62 (rS rQ) (x.2.1) (x.2.2.1) (x.2.2.2),zK b2 219 [.int .i64 ((((qa*qa)+(qb*qb)) - (qc*qc)) - (qd*qd)),.int .i64 (2*((qb*qc) - (qa*qd))),.int .i64 (2*((qb*qd)+(qa*qc))),.int .i64 (2*((qb*qc)+(qa*qd))),.int .i64 ((((qa*qa) - (qb*qb))+(qc*qc)) - (qd*qd)),.int .i64 (2*((qc*qd) - (qa*qb))),.int .i64 (2*((qb*qd) - (qa*qc))),.int .i64 (2*((qc*qd)+(qa*qb))),.int .i64 ((((qa*qa) - (qb*qb)) - (qc*qc))+(qd*qd))],zK b1 80 [.int .i64 qa,.int .i64 qb,.int .i64 qc,.int .i64 qd]]) (fun x=>[]) [] (fun x=>3 - x.1) (0,none,0,([]:List (List Rat))) (by exact ⟨yT _,rfl⟩) (.e rfl vA (.e rfl vA .n)) ((.e (i:=0) rfl vA (.of [0,0] rfl)):zJ _ _ _) sN ?_
 rintro ⟨i,pR,cR,A⟩ hI
 replace hI:i≤3∧A=((yl qa qb qc qd).take i).map (fun z=>Ro.K5 z (yH qa qb qc qd)):=hI
 obtain ⟨hi,hA⟩:=hI
 have hAl:A.length=i:=by rw [hA,List.length_map,yac];show min i 3=i;omega
 refine jg 1 rfl<|zx rfl (fun h3=> ?_) (fun h3=> ?_)
 refine vY<|zk<|vg<|zE (zgX (i:=i) (E:=(yl qa qb qc qd)) rfl Tryz.underlying219 zme rfl rfl om)<|zB (zo zdD rfl) (fun b4=> ?_)
 refine zh 0 rfl rfl rfl rfl zmf (.t2 (.take .nil)) .z<|k43 1 rfl<|qe<|Zj 32 rQ<|zv<|zw (za 1 zme rfl rfl (.t2 (.take .nil)))<|vZ 1 rfl<|zk<|z5 (X:=Nat×(Option Addr)×Nat×(List Rat)) (fun x=>x.1≤3∧x.2.2.2=(Ro.K5 ((yl qa qb qc qd).getD i (0,0,0)) (yH qa qb qc qd)).take x.1∧x.2.2.2.length=x.1) (fun x=>[(13,.slice (x.2.1) (x.2.2.2.length) (x.2.2.1)),(133,Vi x.1)]) [132,10,129,128,1] (fun x=>[rowA 32 rQ (x.2.1) (x.2.2.1) (x.2.2.2),zK b4 210 [.int .i64 (((yl qa qb qc qd).getD i (0,0,0)).1),.int .i64 (((yl qa qb qc qd).getD i (0,0,0)).2.1),.int .i64 (((yl qa qb qc qd).getD i (0,0,0)).2.2)],rowA 62 (rS rQ) pR cR A,zK b2 219 [.int .i64 ((((qa*qa)+(qb*qb)) - (qc*qc)) - (qd*qd)),.int .i64 (2*((qb*qc) - (qa*qd))),.int .i64 (2*((qb*qd)+(qa*qc))),.int .i64 (2*((qb*qc)+(qa*qd))),.int .i64 ((((qa*qa) - (qb*qb))+(qc*qc)) - (qd*qd)),.int .i64 (2*((qc*qd) - (qa*qb))),.int .i64 (2*((qb*qd) - (qa*qc))),.int .i64 (2*((qc*qd)+(qa*qb))),.int .i64 ((((qa*qa) - (qb*qb)) - (qc*qc))+(qd*qd))],zK b1 80 [.int .i64 qa,.int .i64 qb,.int .i64 qc,.int .i64 qd]]) (fun x=>[]) [] (fun x=>3 - x.1) (0,none,0,([]:List Rat)) (by exact ⟨yT _,rfl,rfl⟩) (.e rfl vA (.e rfl vA .n)) ((.e (i:=0) rfl vA (.of [0,0,0,0] rfl)):zJ _ _ _) sN ?_
 rintro ⟨j,pS,cS,B⟩ hJ
 replace hJ:j≤3∧B=(Ro.K5 ((yl qa qb qc qd).getD i (0,0,0)) (yH qa qb qc qd)).take j∧B.length=j:=hJ
 try dsimp only
 obtain ⟨hj,hB,hBl⟩:=hJ
 refine qe<|zv<|zE (zhq rfl rfl)<|jq<|zi<|qe<|zx rfl (fun h5=> ?_) (fun h5=> ?_)
 refine qN<|zi<|qe<|zk<|qe<|zv<|zE (W3 (i:=j) yz v8 rfl rfl om)<|zE (zT rfl)<|jq<|zi<|qe ?_
 have hx9:=Ro.zod (a4 i om) j
 refine zv<|qJ rfl<|zw (za 4 zae rfl rfl (.t4 .nil))<|VG rfl rfl (.c rfl .n) zP (zoU (qa:=qa) (qb:=qb) (qc:=qc) (qd:=qd) (hq0:=qB) (hqa:=qB) (hqb:=qB) (hqc:=qB) (hqd:=qB)) (.n) ?_
 refine zfJ rfl rfl (.c rfl (.c rfl .n)) zP (zdZ (z1:=(([((yl qa qb qc qd).getD i (0,0,0)).1,((yl qa qb qc qd).getD i (0,0,0)).2.1,((yl qa qb qc qd).getD i (0,0,0)).2.2]:List Int).getD j 0)) (z2:=(yH qa qb qc qd)) (hz1:=zL) (hz2:=zL) (hy:=zL)) (.n) ?_
 rintro ⟨a0,a1⟩ -
 dsimp only [aq,nq,cq]
 refine qJ rfl<|zE (qD rfl rfl)<|zE (qD rfl rfl)<|zlU rfl rfl (zo vh rfl) (fun b8=> ?_)
 refine VR 0 rfl rfl rfl rfl rfl qk rfl (.t4 .nil) .z ?_
 refine zE (zT rfl)<|jq<|zi<|zv<|qJ rfl<|zw (za 0 qp rfl rfl (.t4 .nil))<|Zy rfl rfl (qA (r:=rQ) (k:=1) yb jf rfl dd dd dd (.c (x:=(yaa (([((yl qa qb qc qd).getD i (0,0,0)).1,((yl qa qb qc qd).getD i (0,0,0)).2.1,((yl qa qb qc qd).getD i (0,0,0)).2.2]:List Int).getD j 0) (yH qa qb qc qd))) (cs:=[a0.b,a0.l,a1.b,a1.l]) (a0,a1) rfl rfl rfl (fun g hr=>Holds.get 0 rfl hr) .n)) (fun b9 _=> ?_)
 refine qt 0 rfl .z<|Zz 2 rfl rfl rfl (qT 0 rfl yb jf dd rfl rfl (by first|rfl|assumption|omega|(simp;done)) rfl (by first|rfl|assumption|omega|(simp;done)) om om) (fun _=>(.s (.s .z))) ?_
 rintro ⟨a5,a6⟩ -
 dsimp only [aq,nq,cq]
 refine zE (zT rfl)<|jq<|zG<|zi<|zv<|zE (qm (z:=(((j+1):Nat):Int)) rfl rfl (Q9 om))<|qJ rfl<|jq<|zW ((j+1),a5,a6,(B++([(yaa (([((yl qa qb qc qd).getD i (0,0,0)).1,((yl qa qb qc qd).getD i (0,0,0)).2.1,((yl qa qb qc qd).getD i (0,0,0)).2.2]:List Int).getD j 0) (yH qa qb qc qd))]))) (show (j+1)≤3∧(B++([(yaa (([((yl qa qb qc qd).getD i (0,0,0)).1,((yl qa qb qc qd).getD i (0,0,0)).2.1,((yl qa qb qc qd).getD i (0,0,0)).2.2]:List Int).getD j 0) (yH qa qb qc qd))]))=(Ro.K5 ((yl qa qb qc qd).getD i (0,0,0)) (yH qa qb qc qd)).take (j+1)∧(B++([(yaa (([((yl qa qb qc qd).getD i (0,0,0)).1,((yl qa qb qc qd).getD i (0,0,0)).2.1,((yl qa qb qc qd).getD i (0,0,0)).2.2]:List Int).getD j 0) (yH qa qb qc qd))])).length=(j+1) from by exact ⟨Oo,by rw [hB];exact Ro.zd7 om,by rw [yU];show B.length+1=_;omega⟩) (by show 3 - (j+1)<3 - j;omega) ((.e rfl (by simp) (.of rfl)):vQ _ _) (ho:=((.of [2,2,2,2,2] rfl):zJ _ _ _)) sN
 refine z7<|ze<|ze<|zn<|zi ?_
 have a7:B=(Ro.K5 ((yl qa qb qc qd).getD i (0,0,0)) (yH qa qb qc qd)):=by rw [hB,show j=3 by omega];rfl
 rw [a7]
 refine Z7 0 rfl .z<|zv<|qJ rfl<|qJ rfl<|Zy rfl rfl (Vh 0 rfl ya Z2 rfl (by first|rfl|assumption|omega|(simp;done))) (fun b13 _=> ?_)
 refine qt 0 rfl .z<|Zz 3 rfl rfl rfl (qT 0 rfl ya Z2 dd rfl rfl (by first|rfl|assumption|omega|(simp;done)) rfl (by first|rfl|assumption|omega|(simp;done)) om om) (fun _=>(.s (.s (.s .z)))) ?_
 rintro ⟨a8,a9⟩ -
 refine qY 1 rfl<|zG<|zi<|zv<|zE (qj rfl rfl)<|qY 1 rfl<|zW ((i+1),a8,a9,(A++([(Ro.K5 ((yl qa qb qc qd).getD i (0,0,0)) (yH qa qb qc qd))]))) (by exact ⟨Oo,by rw [hA];exact Ro.zgM om⟩) om ((.e rfl (by simp) (.of rfl))) ((.of [3,3,3] rfl):zJ _ _ _) sN
 refine z7<|ze<|ze<|zn<|zi<|Zn 3 rfl ?_
 have a2:i=3:=Oo
 have b5:A=yo qa qb qc qd:=by rw [hA,a2];rfl
 refine vK 0 rfl .z ?_
 exact vD rfl (pR,cR) trivial (zj rfl) (zj rfl) (by rw [hAl,a2]) oN ((.e (j:=0) rfl (by rw [← b5]) .n))
theorem zfB {s:St} {t:St} {p:Option Addr} {cap:Nat} (hs:s.ok) (ht:t.ok):CA 116 [.slice p 2 cap] [zI (zpL .i64) p cap ([s,t])] (.int .i64 0):=by
 refine zg Tryz.func116 rfl rfl (fun c=> ?_)
 refine zN 0 rfl (fun hL0=> ?_)
 have hst:=Ro.zsp hs ht
 refine jg 1 rfl<|jK 1 rfl<|zE (vL yw rfl)<|vZ 1 rfl<|zk<|z5 (X:=Nat) (fun x=>x≤2) (fun x=>[(10,Vi x)]) [9,8,0] (fun x=>[]) (fun x=>[]) [0] (fun x=>2 - x) 0 (by exact yT _) (.e rfl vA .n) oN sN ?_
 rintro i hI
 refine jg 1 rfl<|zx rfl (fun h1=> ?_) (fun h1=> ?_)
 refine vY<|zk<|vg<|qH 0 i rfl yw zfR rfl zL rfl rfl (gD (d:=yN) (by show i<2;omega)) (fun b2 o3 c7=> ?_) (x0:=(([s,t]).getD i yN))
 obtain ⟨a0,a1,a2,a3,a4,a5,a6,a7,a8,a9⟩:=c7
 replace a0:=zu.1 a0
 replace a1:=zu.1 a1
 replace a2:=zu.1 a2
 replace a3:=zu.1 a3
 replace a4:=zu.1 a4
 replace a5:=zu.1 a5
 replace a6:=zu.1 a6
 replace a7:=zu.1 a7
 replace a8:=zu.1 a8
 replace a9:=zu.1 a9
 refine zw (zA (j:=0) 0 JQ rfl rfl rfl (.t8 (.t2 .nil)))<|zB (zo zkL rfl) (fun b5=> ?_)
 refine zh 0 rfl rfl rfl rfl zfR (.t8 (.t2 .nil)) .z<|Vj<|zE (zb yd rfl zep rfl rfl)<|zw (za 0 zae rfl rfl (.s2 (.skip (.t4 .nil))))<|zE (qr zkK rfl yc (.c je (.c je (.c je (.c je .n)))) .n .n)<|zE (J3 (p:=(([s,t]).getD i yN).a=0∧(([s,t]).getD i yN).b=0∧(([s,t]).getD i yN).c=0∧(([s,t]).getD i yN).d=0) kr rfl rfl (V7 yc kr (Zm dd v8 rfl rfl (Zl yi) (Zm dd v8 rfl rfl (Zl yi) (Zm dd v8 rfl rfl (Zl yi) (Zm dd v8 rfl rfl (Zl yi) zac))))) (by simp [Bool.decide_and]))<|Vc<|zx rfl (fun b1=> ?_) (fun b1=> ?_)
 exact absurd (by simpa using b1) (hst i om).q
 refine qN<|zG<|zi<|zv<|zE (qj rfl rfl)<|qY 1 rfl<|zW (i+1) (by show i+1≤2;omega) om (mR rfl) oN ((.c (j:=1) rfl .n))
 refine z7<|ze<|ze<|zn<|zi<|qe<|jK 1 rfl<|zE (vL yw rfl)<|vZ 1 rfl<|zk<|z5 (X:=Nat) (fun x=>x≤2) (fun x=>[(21,Vi x)]) [20,19] (fun x=>[]) (fun x=>[]) [0] (fun x=>2 - x) 0 (by exact yT _) (.e rfl vA .n) oN sN ?_
 rintro i hI
 refine jg 1 rfl<|zx rfl (fun h6=> ?_) (fun h6=> ?_)
 refine vY<|zk<|vg<|qH 0 i rfl yw zfR rfl zL rfl rfl (gD (d:=yN) (by show i<2;omega)) (fun b7 o8 c8=> ?_) (x0:=(([s,t]).getD i yN))
 obtain ⟨b4,b6,b8,b9,c1,c2,c3,c4,c5,c6⟩:=c8
 replace b4:=zu.1 b4
 replace b6:=zu.1 b6
 replace b8:=zu.1 b8
 replace b9:=zu.1 b9
 replace c1:=zu.1 c1
 replace c2:=zu.1 c2
 replace c3:=zu.1 c3
 replace c4:=zu.1 c4
 replace c5:=zu.1 c5
 replace c6:=zu.1 c6
 refine zw (zA (j:=0) 0 JQ rfl rfl rfl (.t8 (.t2 .nil)))<|zB (zo zkL rfl) (fun b10=> ?_)
 refine zh 0 rfl rfl rfl rfl zfR (.t8 (.t2 .nil)) .z<|Vj<|zE (zb yd rfl zep rfl rfl)<|zw (za 0 zae rfl rfl (.s2 (.skip (.t4 .nil))))<|zB (zo zkK rfl) (fun b11=> ?_)
 refine zh 0 rfl rfl rfl rfl zep (.t4 .nil) .z<|Vc<|ji (X:=Unit) (fun x=>True) (fun x=>[(61,.bool (decide (((([s,t]).getD i yN).f<1)∨(0x100000<(([s,t]).getD i yN).f)))),(21,Vi i),(20,.int .i64 2),(19,.slice p 2 cap)]) (fun x=>[]) (fun x=>[zI (zpL .i64) p cap ([s,t])]) ?_ ?_
 refine zv<|zE (zb yd rfl VS rfl rfl)<|zE (zb yg rfl je rfl rfl)<|zw (zc 1 v8 rfl rfl rfl)<|zE (zb yd rfl VS rfl rfl)<|zE (zb yg rfl je rfl rfl)<|zw (zc 1 v8 rfl rfl rfl)<|zE (zb yd rfl VS rfl rfl)<|zE (zb yg rfl je rfl rfl)<|zw (zc 1 v8 rfl rfl rfl)<|zE (zb yd rfl Qy rfl rfl)<|zE (zb yf rfl je rfl rfl)<|zw (zc 1 v8 rfl rfl rfl)<|zE (zb yd rfl Qy rfl rfl)<|zE (zb yf rfl je rfl rfl)<|zw (zc 1 v8 rfl rfl rfl)<|zE (zb yc rfl je rfl rfl)<|zw (zc 0 v8 rfl rfl rfl)<|zE (zb yc rfl je rfl rfl)<|zw (zc 0 v8 rfl rfl rfl)<|zE (zb yc rfl je rfl rfl)<|zw (zc 0 v8 rfl rfl rfl)<|zE (zb yc rfl je rfl rfl)<|zw (zc 0 v8 rfl rfl rfl)<|qZ (z6 (enc:=fun z:Int=>[.int .i64 z]) (ok:=Vb .i64) (h1:=fun _=>rfl) (h2:=fun _=>rfl) (k:=9) ye Ky rfl dd dd dd (.c (x:=(([s,t]).getD i yN).x) rfl rfl (fun _ _=>by exact zu.2 om) (.c (x:=(([s,t]).getD i yN).y) rfl rfl (fun _ _=>by exact zu.2 om) (.c (x:=(([s,t]).getD i yN).z) rfl rfl (fun _ _=>by exact zu.2 om) (.c (x:=(([s,t]).getD i yN).u) rfl rfl (fun _ _=>by exact zu.2 om) (.c (x:=(([s,t]).getD i yN).v) rfl rfl (fun _ _=>by exact zu.2 om) (.c (x:=(([s,t]).getD i yN).a) rfl rfl (fun _ _=>by exact zu.2 om) (.c (x:=(([s,t]).getD i yN).b) rfl rfl (fun _ _=>by exact zu.2 om) (.c (x:=(([s,t]).getD i yN).c) rfl rfl (fun _ _=>by exact zu.2 om) (.c (x:=(([s,t]).getD i yN).d) rfl rfl (fun _ _=>by exact zu.2 om) .n)))))))))) (fun b12 _=> ?_)
 refine qt 0 rfl .z<|qg (qS rfl) zP (zks zL (by exact Ro.in9 (hst i om))) (qX 0 rfl)<|qJ rfl<|zE (zb yd rfl je rfl rfl)<|zw (zc 2 v8 rfl rfl rfl)<|kS 2 rfl<|q8 (qU rfl) (fun c9=> ?_) (fun c9=> ?_)
 refine qY 4 rfl ?_
 exact qL () Qn ((.e rfl (congrArg Value.bool JS) (.of rfl))) oN ((.c (j:=2) rfl .n))
 refine zE (zb yd rfl je rfl rfl)<|zw (zc 2 v8 rfl rfl rfl)<|qY 2 rfl ?_
 exact qL () Qn ((.e rfl (congrArg Value.bool JS) (.of rfl))) oN ((.c (j:=2) rfl .n))
 rintro ⟨⟩ -
 refine zx rfl (fun d0=> ?_) (fun d0=> ?_)
 have h9:=hst i om;have h8:=h9.f1;have h7:=h9.p.2.1.2.2;unfold yu at h7;omega
 refine qN<|zG<|zi<|zv<|zE (qj rfl rfl)<|qY 1 rfl<|zW (i+1) (by show i+1≤2;omega) om (mR rfl) oN (s0 rfl)
 refine z7<|ze<|ze<|zn<|zi<|Zn 1 rfl ?_
 exact zq rfl () trivial (zj rfl) rfl oN sN
theorem zkt {p:Option Addr} {cap:Nat} {LL:List (List Int)} (hl3:LL.length=3) (hr3:∀i,i<3→(LL.getD i []).length=3):CB 117 [.slice p 3 cap] [zI (rS (rI .i64)) p cap LL] (Y:=(Option Addr)×Nat) (fun y=> .slice (y.1) 3 (y.2)) (fun y=>[zI (rS rQ) (y.1) (y.2) (Ro.ofI LL)]):=by
 refine zg Tryz.func117 rfl rfl (fun c=> ?_)
 refine zN 0 rfl (fun hL0=> ?_)
 refine jS 1 rfl<|qJ rfl<|zm (.c rfl .n) zP (zqW (N:=3) qB (by first|rfl|assumption|omega|exact ⟨Oo,Oo⟩|(intro i hi;rw [hr3 i hi,hr3 0 om])) (by first|rfl|assumption|omega|exact ⟨Oo,Oo⟩|(intro i hi;rw [hr3 i hi,hr3 0 om])) om (by exact hr3 0 om) (by exact ⟨Oo,Oo⟩)) (qX 0 rfl) ?_
 rintro ⟨a0,a1⟩ -
 refine jD 5 rfl<|Zp 2 rfl ?_
 exact zq rfl (a0,a1) trivial (zj rfl) rfl oN (s0 rfl)
theorem zed {s:St} (hs:s.ok):CB 124 [.agg #[.int .i64 (s.x),.int .i64 (s.y),.int .i64 (s.z),.int .i64 (s.a),.int .i64 (s.b),.int .i64 (s.c),.int .i64 (s.d),.int .i64 (s.f),.int .i64 (s.u),.int .i64 (s.v)]] [] (Y:=(Option Addr)×Nat) (fun y=> .slice (y.1) 3 (y.2)) (fun y=>[zI (rS rQ) (y.1) (y.2) (Ro.inn s)]):=by
 refine zg Tryz.func124 rfl rfl (fun c=> ?_)
 have a0:=hs
 obtain ⟨-,-,-,⟨hsu,hsv,hsf⟩,-⟩:=a0
 unfold yu at hsu hsv hsf
 refine vg<|zB (zX rfl rfl) (fun b1=> ?_)
 refine jD 1 rfl<|zE (zb yd rfl je rfl rfl)<|zw (zc 0 v8 rfl rfl rfl)<|zE (zb yd rfl Qy rfl rfl)<|zE (zb yf rfl je rfl rfl)<|zw (zc 0 v8 rfl rfl rfl)<|qZ (z6 (enc:=fun z:Int=>[.int .i64 z]) (ok:=Vb .i64) (h1:=fun _=>rfl) (h2:=fun _=>rfl) (k:=3) ye Ky rfl dd dd dd (.c (x:=s.f) rfl rfl (fun _ _=>by exact zu.2 om) (.c (x:=0) rfl rfl (fun _ _=>by exact zu.2 om) (.c (x:=s.u) rfl rfl (fun _ _=>by exact zu.2 om) .n)))) (fun b2 _=> ?_)
 refine zE (zb yd rfl je rfl rfl)<|zw (zc 1 v8 rfl rfl rfl)<|zE (zb yd rfl Qy rfl rfl)<|zE (zb yf rfl je rfl rfl)<|zw (zc 1 v8 rfl rfl rfl)<|qZ (z6 (enc:=fun z:Int=>[.int .i64 z]) (ok:=Vb .i64) (h1:=fun _=>rfl) (h2:=fun _=>rfl) (k:=3) ye Ky rfl dd dd dd (.c (x:=0) rfl rfl (fun _ _=>by exact zu.2 om) (.c (x:=s.f) rfl rfl (fun _ _=>by exact zu.2 om) (.c (x:=s.v) rfl rfl (fun _ _=>by exact zu.2 om) .n)))) (fun b3 _=> ?_)
 refine qZ (z6 (enc:=fun z:Int=>[.int .i64 z]) (ok:=Vb .i64) (h1:=fun _=>rfl) (h2:=fun _=>rfl) (k:=3) ye Ky rfl dd dd dd (.c (x:=0) rfl rfl (fun _ _=>by exact zu.2 om) (.c (x:=0) rfl rfl (fun _ _=>by exact zu.2 om) (.c (x:=1) rfl rfl (fun _ _=>by exact zu.2 om) .n)))) (fun b4 _=> ?_)
 refine qt 0 rfl .z<|qt 1 rfl (.s .z)<|qt 2 rfl (.s (.s .z))<|qZ (qA (r:=rS (rI .i64)) (k:=3) yj zma rfl dd dd dd (.c (x:=[s.f,0,s.u]) (cs:=[.slice (Sb b2) 3 3]) (Sb b2,3) rfl rfl rfl (fun g hr=>Holds.get 0 rfl hr) (.c (x:=[0,s.f,s.v]) (cs:=[.slice (Sb b3) 3 3]) (Sb b3,3) rfl rfl rfl (fun g hr=>Holds.get 1 rfl hr) (.c (x:=[0,0,1]) (cs:=[.slice (Sb b4) 3 3]) (Sb b4,3) rfl rfl rfl (fun g hr=>Holds.get 2 rfl hr) .n)))) (fun b5 _=> ?_)
 refine qt 0 rfl .z<|zm (.c rfl .n) zP (zkt (by first|rfl|assumption|omega|exact Ro.r33 rfl rfl rfl) (by first|rfl|assumption|omega|exact Ro.r33 rfl rfl rfl)) (qX 0 rfl) ?_
 rintro ⟨a1,a2⟩ -
 refine Zp 1 rfl ?_
 exact zq rfl (a1,a2) trivial (zj rfl) rfl oN (s0 rfl)
theorem zg4 {w2:Wd} {x1:Int} {x2:Int} (hl1:Big.ln x1≤1099511627776) (hl2:Big.ln x2≤1099511627776) (hy:x2≠0):jI yt 129 [.agg #[w1.b,w1.l],.agg #[w2.b,w2.l]] [] [zF w1 (x1),zF w2 (x2)] (Y:=(Wd)×(Wd)) (fun y=>True) (fun y=> .tuple #[.agg #[y.1.b,y.1.l,y.2.b,y.2.l],yaf yag (0)]) (fun y=>[]) (fun y=>[qF true y.1 y.2 (yaa x1 x2)]):=by
  have h:= @zjN w1 w2 x1 x2 hl1 hl2
  rw [if_neg hy,decide_eq_true hy] at h
  exact h
theorem zoV {w1:Wd} {x1:Int} (hl:Big.ln x1≤2000000):CB 203 [.agg #[w1.b,w1.l]] [zF w1 x1] (Y:=Wd×Wd) (fun y=> .agg #[y.1.b,y.1.l,y.2.b,y.2.l]) (fun y=>[qF true y.1 y.2 ((x1:Int):Rat)]):=by
 refine zg Tryz.func203 rfl rfl (fun c=> ?_)
 refine vg<|zB (zX rfl rfl) (fun b1=> ?_)
 refine zB (zo vh rfl) (fun b2=> ?_)
 refine ZI<|Jo 7<|vE 0 rfl (za 1 z4 rfl rfl (.t2 .nil))<|jP (m':=[(6,.agg #[w1.b,w1.l]),(2,Vp b2)]) (R':=[zF w1 x1]) ((.c rfl (.c rfl .n))) (List.Perm.refl _) (List.Perm.refl _) (s0 rfl)<|q6 (X:=Wd×Wd×Nat) (k':=0) (L':=(lb 9 511)) (fun (a1,a2,a0)=>([(3,Vp a0),(2,Vp b2)],[zK a0 32 (cw [a1,a2])],[zK b2 32 (cw [wz,wz]),zK b1 30 [w1.b,w1.l]],[qF true a1 a2 (yaa x1 1),zF w1 x1])) ?_ (fun a6=> ?_)
 rintro ⟨a1,a2,a0⟩
 refine zU kr<|zi<|vg<|zw (za 0 qp rfl rfl (.t4 .nil))<|zh 1 rfl rfl rfl rfl qk (.t4 .nil) (.s .z)<|Va ?_
 exact zq rfl (a1,a2) trivial (zy 1 qp rfl rfl (.t4 .nil)) rfl oN ((.e (j:=0) rfl (by rw [← Ro.zuz]) .n))
 refine q6 (X:=Wd×Wd×Nat) (k':=2) (L':=(lb 9 127)) (fun (a1,a2,a0)=>([(3,Vp a0),(10,.int .i64 0),(9,.agg (cw [a1,a2]).toArray),(2,Vp b2)],[zK a0 32 (cw [wz,wz])],[zK b2 32 (cw [wz,wz]),zK b1 30 [w1.b,w1.l]],[qF true a1 a2 (yaa x1 1),zF w1 x1])) ?_ (fun a4=> ?_)
 rintro ⟨a1,a2,a0⟩
 refine jt 7 kr<|zH rfl rfl rfl rfl qk (.t4 .nil)<|zC 8 rfl (zT rfl) ?_
 exact qn (a6 (a1,a2,a0)) kr ((.c rfl (.c rfl .n))) .rfl .rfl ((.of [0,1] rfl))
 refine q6 (X:=Wd×Wd) (k':=3) (L':=(lb 9 63)) (fun (a1,a2)=>([(10,.int .i64 0),(9,.agg (cw [a1,a2]).toArray),(2,Vp b2)],[],[zK b2 32 (cw [wz,wz]),zK b1 30 [w1.b,w1.l]],[qF true a1 a2 (yaa x1 1),zF w1 x1])) ?_ (fun a7=> ?_)
 rintro ⟨a1,a2⟩
 refine jt 6 kr<|jr rfl (zo vh rfl) (fun a0 _=> ?_)
 exact qn (a4 (a1,a2,a0)) kr (mR rfl) .rfl .rfl ((.of [0,1] rfl))
 refine q6 (X:=Wd×Nat) (k':=6) (L':=(lb 9 67)) (fun (a3,a0)=>([(3,Vp a0),(7,.agg #[a3.b,a3.l]),(6,.agg #[w1.b,w1.l]),(2,Vp b2)],[zK a0 32 (cw [wz,wz])],[zK b2 32 (cw [wz,wz]),zK b1 30 [w1.b,w1.l]],[zF a3 1,zF w1 x1])) ?_ (fun a5=> ?_)
 rintro ⟨a3,a0⟩
 dsimp only [cw]
 refine jt 2 kr<|zp rfl (.c rfl (.c rfl .n)) zP (zg4 (by first|rfl|assumption|omega|decide) (by first|rfl|assumption|omega|decide) (by first|rfl|assumption|omega|decide)) (vj 1 0 rfl rfl) ?_
 rintro ⟨a1,a2⟩ -
 refine zQ 3 rfl rfl<|zC 4 rfl (qD rfl rfl)<|zC 5 rfl (qD rfl rfl) ?_
 exact qn (a4 (a1,a2,a0)) kr (mR rfl) .rfl .rfl ((.of [0,2] rfl))
 refine q6 (X:=Wd) (k':=7) (L':=(lb 9 3)) (fun a3=>([(7,.agg #[a3.b,a3.l]),(6,.agg #[w1.b,w1.l]),(2,Vp b2)],[],[zK b2 32 (cw [wz,wz]),zK b1 30 [w1.b,w1.l]],[zF a3 1,zF w1 x1])) ?_ (fun a8=> ?_)
 rintro a3
 refine Qq 2 6 kr ?_ ?_
 refine zp rfl (.c rfl (.c rfl .n)) zP (zg4 (by first|rfl|assumption|omega|decide) (by first|rfl|assumption|omega|decide) (by first|rfl|assumption|omega|decide)) (vj 1 0 rfl rfl) ?_
 rintro ⟨a1,a2⟩ -
 refine zQ 3 rfl rfl<|zC 4 rfl (qD rfl rfl)<|zC 5 rfl (qD rfl rfl) ?_
 exact qn (a7 (a1,a2)) kr (mR rfl) .rfl .rfl ((.of [0,2] rfl))
 refine jr rfl (zo vh rfl) (fun a0 _=> ?_)
 exact qn (a5 (a3,a0)) kr (mR rfl) .rfl .rfl ((.of [0,1] rfl))
 refine q6 (X:=Nat) (k':=7) (L':=(lb 9 65)) (fun a0=>([(3,Vp a0),(6,.agg #[w1.b,w1.l]),(2,Vp b2)],[zK a0 32 (cw [wz,wz])],[zK b2 32 (cw [wz,wz]),zK b1 30 [w1.b,w1.l]],[zF w1 x1])) ?_ (fun a9=> ?_)
 rintro a0
 refine jt 1 kr<|zp rfl (qS rfl) zP (jL zL) (.n) ?_
 rintro a3 -
 exact qn (a5 (a3,a0)) kr (mR rfl) .rfl .rfl ((.of [0,1] rfl))
 refine Qq 1 6 kr ?_ ?_
 refine zp rfl (qS rfl) zP (jL zL) (.n) ?_
 rintro a3 -
 exact qn (a8 a3) kr (mR rfl) .rfl .rfl ((.of [0,1] rfl))
 refine jr rfl (zo vh rfl) (fun a0 _=> ?_)
 exact qn (a9 a0) kr (mR rfl) .rfl .rfl (s0 rfl)
theorem zoW {p:Option Addr} {n:Nat} {cap:Nat} {l:List Rat} (hn:l.length=n) (hn9:n≤9) (hb:∀i,yr (l.getD i 0)≤100000) (h0:∃i,i<l.length∧l.getD i 0≠0):CB 202 [.slice p n cap] [zI rQ p cap l] (Y:=(Option Addr)×Nat) (fun y=> .slice (y.1) ((ys l).length) (y.2)) (fun y=>[zI rZ (y.1) (y.2) (ys l)]):=by
 refine zg Tryz.func202 rfl rfl (fun c=> ?_)
 refine zN 0 rfl (fun hL0=> ?_)
 have hlc:=Ro.zgO hb l.length
 have d6:l.length*(100000+2)≤9*(100000+2):=yab _ om
 have hscl:∀i,Big.ln (Ro.sc l i)≤1100000:=fun i=>by have h9:=Ro.zoo hb i;omega
 have hcc:=Ro.zor h0
 have hccl:=Ro.zuy hscl
 have hctn:=Ro.zgP hscl l.length
 refine jS 1 rfl<|zm (qS rfl) zP (jL zL) (.n) ?_
 rintro a7 -
 refine zB (zo jo rfl) (fun b2=> ?_)
 refine zh 0 rfl rfl rfl rfl z8 (.t2 .nil) .z<|ZI<|k12 3 rfl<|zk<|z5 (X:=Nat×Wd) (fun x=>x.1≤n) (fun x=>[(24,Vi x.1)]) [23,22,3,0] (fun x=>[zK b2 30 [x.2.b,x.2.l]]) (fun x=>[zF x.2 (Ro.lc l x.1)]) [1] (fun x=>n - x.1) (0,a7) (by exact yT _) (.e rfl vA .n) (o0 rfl) ((.e (j:=0) rfl (by rfl) .n)) ?_
 rintro ⟨i,wd⟩ hI
 dsimp only at hI
 refine jg 1 rfl<|zx rfl (fun h3=> ?_) (fun h3=> ?_)
 refine vY<|zk<|vg<|vX (zM (x0:=(gQ l i)) 1 i rfl yb qk rfl zL rfl rfl (gD (d:=(0:Rat)) om)) ?_
 rintro ⟨b4,o5,w6,w7⟩ -
 refine vd qR<|zw (zA (j:=0) 0 qp rfl rfl rfl (.t4 .nil))<|zB (zo vh rfl) (fun b8=> ?_)
 refine zh 0 rfl rfl rfl rfl qk (.t4 .nil) .z<|ZI<|zlR (jp 1 rfl) (fun _ _=> ?_)
 have hlci:=Ro.zgO hb i
 have hlci9:i*(100000+2)≤9*(100000+2):=yab _ om
 have hdni:=Ro.zon hb i
 have hfqi:=Ro.ziu hb i
 have hgp:=Ro.zaO (Ro.lc l i) l i
 have hdp:=Ro.Kq l i
 simp only [Ro.Jp] at hdni hfqi hgp hdp
 refine zv<|zw (za 1 z4 rfl rfl (.t2 .nil))<|zE (zb ym rfl z8 rfl rfl)<|zw (za 0 z4 rfl rfl (.s2 (.t2 .nil)))<|zm (.c rfl (.c rfl .n)) zP (KY (w1:=wd) (w2:=w7) (x1:=(Ro.lc l i)) (x2:=(((l.getD i (0:Rat)).den:Nat):Int)) (by first|rfl|assumption|omega|decide) (by first|rfl|assumption|omega|decide)) (vj 4 1) ?_
 rintro a8 -
 refine zB (zo jo rfl) (fun b10=> ?_)
 refine zh 0 rfl rfl rfl rfl z8 (.t2 .nil) .z<|ZI ?_
 have hgl:=Big.KQ (n:=Ro.lc l i) (show Ro.Jp l i≠0 by have h9:=Ro.Kq l i;omega)
 simp only [Ro.Jp] at hgl
 refine zv<|zE (zb ym rfl z8 rfl rfl)<|zw (za 1 z4 rfl rfl (.s2 (.t2 .nil)))<|zw (za 0 z4 rfl rfl (.t2 .nil))<|zm (.c rfl (.c rfl .n)) zP (Qe (w1:=w7) (w2:=a8) (x1:=(((l.getD i (0:Rat)).den:Nat):Int)) (x2:=((Nat.gcd (Ro.lc l i).natAbs (((l.getD i (0:Rat)).den:Nat):Int).natAbs:Nat):Int)) (by first|rfl|assumption|omega|decide) (by first|rfl|assumption|omega|decide) (by first|rfl|assumption|omega|decide)) (vj 2 0) ?_
 rintro ⟨a9,d7⟩ -
 refine kS 4 rfl<|zB (zo jo rfl) (fun b13=> ?_)
 refine zB (zo jo rfl) (fun b14=> ?_)
 refine zh 1 rfl rfl rfl rfl z8 (.t2 .nil) (.s .z) ?_
 refine zh 0 rfl rfl rfl rfl z8 (.t2 .nil) .z ?_
 refine kS 1 rfl<|jq<|zi<|zv<|zw (za 4 z4 rfl rfl (.t2 .nil))<|zw (za 1 z4 rfl rfl (.t2 .nil))<|zm (.c rfl (.c rfl .n)) zP (ju (w1:=wd) (w2:=a9) (x1:=(Ro.lc l i)) (x2:=Big.fq (((l.getD i (0:Rat)).den:Nat):Int) ((Nat.gcd (Ro.lc l i).natAbs (((l.getD i (0:Rat)).den:Nat):Int).natAbs:Nat):Int)) (by first|rfl|assumption|omega|decide) (by first|rfl|assumption|omega|decide)) (vj 7 0) ?_
 rintro b1 -
 refine zh 4 rfl rfl rfl rfl z8 (.t2 .nil) (.s (.s (.s (.s .z))))<|jq<|zG<|zi<|zv<|zE (qj rfl rfl)<|qY 1 rfl<|zW ((i+1),b1) (by show i+1≤n;omega) om (mR rfl) ((.c (i:=4) rfl .n):zJ _ _ _) ((.e (j:=0) rfl (by rfl) (.c (j:=9) rfl .n)))
 refine z7<|ze<|ze<|zn<|zi<|jS 1 rfl<|zB (zo jo rfl) (fun a1=> ?_)
 refine zB (zo jo rfl) (fun b5=> ?_)
 refine ZI<|qe ?_
 have b6:(Ro.lc l i:Int)=Ro.lc l l.length:=by rw [show i=l.length by omega]
 rw [b6]
 refine zey (zF wz 0) (fun g _=>zpr g)<|Zj 30 rZ<|k22 3 rfl<|zk<|z5 (X:=Nat×Wd×Wd×(Option Addr)×Nat) (fun x=>x.1≤n) (fun x=>[(10,.slice (x.2.2.2.1) ((Ro.scs l x.1).length) (x.2.2.2.2)),(46,Vi x.1)]) [45,44,12,11,3] (fun x=>[rowA 30 rZ (x.2.2.2.1) (x.2.2.2.2) (Ro.scs l x.1),zK b5 30 [x.2.2.1.b,x.2.2.1.l],zK a1 30 [x.2.1.b,x.2.1.l],zK b2 30 [wd.b,wd.l]]) (fun x=>[zF x.2.1 (Ro.ct l x.1),zF x.2.2.1 (Ro.ldg l x.1)]) [1,2] (fun x=>n - x.1) (0,wz,wz,none,0) (by exact yT _) (.e rfl vA (.e rfl vA .n)) ((.e (i:=0) rfl (by rfl) (.e (i:=0) rfl (by rfl) (.e (i:=0) rfl (by rfl) (.c (i:=0) rfl .n)))):zJ _ _ _) ((.e (j:=0) rfl (by rfl) (.e (j:=0) rfl (by rfl) .n))) ?_
 rintro ⟨i,wc,wl,pR,cR⟩ b7
 dsimp only at b7
 have hscn:=Ro.zqA l i
 refine jg 1 rfl<|zx rfl (fun b9=> ?_) (fun b9=> ?_)
 refine vY<|zk<|vg<|vX (zM (x0:=(gQ l i)) 3 i rfl yb qk rfl zL rfl rfl (gD (d:=(0:Rat)) om)) ?_
 rintro ⟨b20,o21,c1,c2⟩ -
 refine vd qR<|zw (zA (j:=0) 0 qp rfl rfl rfl (.t4 .nil))<|zB (zo vh rfl) (fun b24=> ?_)
 refine zh 0 rfl rfl rfl rfl qk (.t4 .nil) .z<|ZI<|zlR (jp 1 rfl) (fun _ _=> ?_)
 have hlci:=Ro.zgO hb i
 have hlci9:i*(100000+2)≤9*(100000+2):=yab _ om
 have hdni:=Ro.zon hb i
 have hfqi:=Ro.ziu hb i
 have hgp:=Ro.zaO (Ro.lc l i) l i
 have hdp:=Ro.Kq l i
 simp only [Ro.Jp] at hdni hfqi hgp hdp
 have hsi:=hscl i
 have hcti:=Ro.zgP hscl i
 have hlqi:=Big.zf5 (x:=Ro.lc l l.length) (show Ro.Jp l i≠0 by have h9:=Ro.Kq l i;omega)
 simp only [Ro.Jp] at hlqi
 have hnmi:=Ro.zrV hb i
 refine zv<|zw (za 4 z4 rfl rfl (.t2 .nil))<|zE (zb ym rfl z8 rfl rfl)<|zw (za 0 z4 rfl rfl (.s2 (.t2 .nil)))<|zm (.c rfl (.c rfl .n)) zP (Qe (w1:=wd) (w2:=c2) (x1:=(Ro.lc l l.length)) (x2:=(((l.getD i (0:Rat)).den:Nat):Int)) (by first|rfl|assumption|omega|decide) (by first|rfl|assumption|omega|decide) (by first|rfl|assumption|omega|decide)) (vj 6 1) ?_
 rintro ⟨c3,d8⟩ -
 refine kS 4 rfl<|zB (zo jo rfl) (fun b27=> ?_)
 refine zB (zo jo rfl) (fun b28=> ?_)
 refine zh 1 rfl rfl rfl rfl z8 (.t2 .nil) (.s .z) ?_
 refine zh 0 rfl rfl rfl rfl z8 (.t2 .nil) .z ?_
 refine kS 1 rfl<|jq<|zi<|vg<|zE (zb ym rfl z8 rfl rfl)<|zw (za 2 z4 rfl rfl (.t2 .nil))<|zw (za 1 z4 rfl rfl (.t2 .nil))<|zm (.c rfl (.c rfl .n)) zP (ju (w1:=c1) (w2:=c3) (x1:=(l.getD i (0:Rat)).num) (x2:=Big.fq (Ro.lc l l.length) (((l.getD i (0:Rat)).den:Nat):Int)) (by first|rfl|assumption|omega|decide) (by first|rfl|assumption|omega|decide)) (vj 2 0) ?_
 rintro a2 -
 dsimp only [aq,nq,cq]
 refine zB (zo jo rfl) (fun b30=> ?_)
 refine VR 0 rfl rfl rfl rfl rfl z8 rfl (.t2 .nil) .z ?_
 refine jq<|zi<|qe ?_
 have c4:(((l.getD i (0:Rat)).num)*(Big.fq (Ro.lc l l.length) (((l.getD i (0:Rat)).den:Nat):Int)):Int)=Ro.sc l i:=by rfl
 rw [c4]
 refine zv<|qJ rfl<|zw (za 0 z4 rfl rfl (.t2 .nil))<|Zy rfl rfl (qA (r:=rZ) (k:=1) yn zl9 rfl dd dd dd (.c (x:=(Ro.sc l i)) (cs:=[a2.b,a2.l]) a2 rfl rfl rfl (fun g hr=>Holds.get 0 rfl hr) .n)) (fun b32 _=> ?_)
 refine qt 0 rfl .z<|Zz 5 rfl rfl rfl (qT 0 rfl yn zl9 dd rfl rfl (by first|rfl|assumption|omega|exact Ro.Vw _ _|(simp;done)) rfl (by first|rfl|assumption|omega|exact Ro.Vw _ _|(simp;done)) om om) (fun _=>(.s (.s (.s (.s (.s .z)))))) ?_
 rintro ⟨a4,a5⟩ -
 refine jD 1 rfl<|zw (za 7 z4 rfl rfl (.t2 .nil))<|zw (za 1 z4 rfl rfl (.t2 .nil))<|zm (q7 rfl rfl) zP (KY zL zL) (vj 8 1 rfl rfl) ?_
 rintro a6 -
 refine zh 7 rfl rfl rfl rfl z8 (.t2 .nil) (.s (.s (.s (.s (.s (.s (.s .z)))))))<|Vj<|zw (za 6 z4 rfl rfl (.t2 .nil))<|qg (qS rfl) zP QP (qX 10 rfl)<|vZ 1 rfl<|zx rfl (fun a0=> ?_) (fun a0=> ?_)
 refine zv<|zw (za 1 z4 rfl rfl (.t2 .nil))<|zh 6 rfl rfl rfl rfl z8 (.t2 .nil) (.s (.s (.s (.s (.s (.s .z)))))) ?_
 refine jq<|zG<|zi<|zv<|zE (qm (z:=(((i+1):Nat):Int)) rfl rfl (Q9 om))<|qJ rfl<|jq<|zW ((i+1),a6,a2,a4,a5) (by dsimp only;show i+1≤n;omega) (by dsimp only;omega) ((.e rfl (by rw [← Ro.zgR];simp;done) (.of rfl)):vQ _ _) (ho:=((.e (i:=5) rfl (by first|rfl|(rw [← Ro.zgR])) (.of [5,5,5] rfl)):zJ _ _ _)) ((.e (j:=0) rfl (by first|rfl|(rw [Ro.ldg,if_pos a0])) (.e (j:=2) rfl (by first|rfl|(rw [Ro.ldg,if_pos a0])) (.of [11,12] rfl))):q9 _ _ _)
 refine qN<|zG<|zi<|zv<|zE (qm (z:=(((i+1):Nat):Int)) rfl rfl (Q9 om))<|qJ rfl<|jq<|zW ((i+1),a6,wl,a4,a5) (by dsimp only;show i+1≤n;omega) (by dsimp only;omega) ((.e rfl (by rw [← Ro.zgR];simp;done) (.of rfl)):vQ _ _) (ho:=((.e (i:=5) rfl (by first|rfl|(rw [← Ro.zgR])) (.of [5,5,5] rfl)):zJ _ _ _)) ((.e (j:=0) rfl (by first|rfl|(rw [Ro.ldg,if_neg a0])) (.e (j:=10) rfl (by first|rfl|(rw [Ro.ldg,if_neg a0])) (.of [11,12] rfl))):q9 _ _ _)
 refine z7<|ze<|ze<|zn<|zi ?_
 have c5:(Ro.ct l i:Int)=Ro.ct l l.length:=by rw [show i=l.length by omega]
 rw [c5]
 have c6:(Ro.ldg l i:Int)=Ro.ldg l l.length:=by rw [show i=l.length by omega]
 rw [c6]
 have c7:(.slice pR ((Ro.scs l i).length) cR:Value)= .slice pR n cR:=by rw [show (Ro.scs l i).length=n by omega]
 rw [c7]
 have c8:(Ro.scs l i)=(Ro.Qi l 0):=by rw [show i=l.length by omega];exact Ro.zfp l
 rw [c8]
 refine ji (X:=Wd) (fun x=>True) (fun x=>[(10,.slice pR n cR),(11,Vp a1)]) (fun x=>[rowA 30 rZ pR cR (Ro.Qi l 0),zK a1 30 [x.b,x.l]]) (fun x=>[zF x (Ro.cc l),zF wc (Ro.ct l l.length)]) ?_ ?_
 refine vg<|zw (za 1 z4 rfl rfl (.t2 .nil))<|qg (qS rfl) zP QP (qX 1 rfl)<|vZ 1 rfl<|zx rfl (fun a3=> ?_) (fun a3=> ?_)
 refine zv<|zw (za 2 z4 rfl rfl (.t2 .nil))<|zm (qS rfl) zP (zaw zL) (qX 0 rfl) ?_
 rintro c9 -
 refine zh 2 rfl rfl rfl rfl z8 (.t2 .nil) (.s (.s .z))<|jq ?_
 exact qL c9 Qn ((.c rfl (.c rfl .n)):vQ _ _) (ho:=((.of [0,1] rfl):zJ _ _ _)) ((.e (j:=0) rfl (by first|rfl|(rw [Ro.cc,if_pos a3])) (.c (j:=1) rfl .n)):q9 _ _ _)
 refine qN ?_
 exact qL wc Qn ((.c rfl (.c rfl .n)):vQ _ _) (ho:=((.of [0,1] rfl):zJ _ _ _)) ((.e (j:=0) rfl (by first|rfl|(rw [Ro.cc,if_neg a3])) (.c (j:=0) rfl .n)):q9 _ _ _)
 rintro wq -
 refine qe<|jK 1 rfl<|zE (vL yn rfl)<|vZ 1 rfl<|zk<|z5 (X:=Nat) (fun x=>x≤n) (fun x=>[(81,Vi x)]) [80,79,10,11] (fun x=>[rowA 30 rZ pR cR (Ro.Qi l x),zK a1 30 [wq.b,wq.l]]) (fun x=>[]) [0] (fun x=>n - x) 0 (by exact yT _) (.e rfl vA .n) ((.of [0,0] rfl):zJ _ _ _) sN ?_
 rintro i hI3
 have hmxn:=Ro.Vw l i
 refine jg 1 rfl<|zx rfl (fun d0=> ?_) (fun d0=> ?_)
 refine vY<|zk<|jK 1 rfl<|zw (qQ 0 i rfl yn z8 rfl zL rfl rfl om)<|vX (zdv (x0:=((Ro.Qi l i).getD i (0:Int))) 0 i rfl z4 rfl rfl (gD (d:=(0:Int)) om)) ?_
 rintro w43 -
 refine vd zmP<|zB (zo jo rfl) (fun b44=> ?_)
 refine kS 1 rfl<|zh 0 rfl rfl rfl rfl z8 (.t2 .nil) .z<|Vc ?_
 have d1:((Ro.Qi l i).getD i (0:Int):Int)=Ro.sc l i:=by exact Ro.ziw om
 rw [d1]
 have hsi:=hscl i
 refine vM 2 rfl<|zw (za 0 z4 rfl rfl (.t2 .nil))<|zw (za 2 z4 rfl rfl (.t2 .nil))<|zm (q7 rfl rfl) zP (Qe zL zL zL) (vj 0 1 rfl rfl) ?_
 rintro ⟨d4,d9⟩ -
 refine kS 4 rfl<|zw (qQ 1 i rfl yn z8 rfl zL rfl rfl om)<|vO 1 rfl (qh (r:=rZ) (j:=i) (x0:=(Big.fq (Ro.sc l i) (Ro.cc l))) (γ0:=d4) rfl rfl om rfl rfl z8 (fun g hr=>Holds.get 0 rfl hr)) (fun _=>(.s .z)) (fun _ _=> ?_)
 refine jq<|zG<|zi<|zv<|zE (qm (z:=(((i+1):Nat):Int)) rfl rfl (Q9 om))<|qJ rfl<|jq<|zW (i+1) (show (i+1)≤n from by show i+1≤n;omega) (by show n - (i+1)<n - i;omega) (mR rfl) (ho:=((.e (i:=1) rfl (by first|rfl|(rw [Ro.zrW om])) (.c (i:=1) rfl .n)):zJ _ _ _)) ((.c (j:=3) rfl .n):q9 _ _ _)
 refine z7<|ze<|ze<|zn<|zi<|Zn 2 rfl ?_
 have d5:(Ro.Qi l i)=(ys l):=by rw [show i=l.length by omega];exact Ro.zix l
 rw [d5]
 refine vK 0 rfl .z ?_
 exact zq rfl (pR,cR) trivial (zj rfl) (by rw [Ro.zaP,hn]) oN (s0 rfl)
theorem zg5 {i0:Nat} {j0:Nat} {bA:Nat} {pA:Option Addr} {nA:Nat} {cA:Nat} {A:List (List Rat)} (hnA:A.length=nA) (hiA:i0<nA) (hjA:j0<(A.getD i0 []).length):CB 166 [Vi i0,Vi j0,Vp bA] [j8 bA 0 [.slice pA nA cA],zI (rS rQ) pA cA A] (Y:=Wd×Wd) (fun y=> .agg #[y.1.b,y.1.l,y.2.b,y.2.l]) (fun y=>[qF true y.1 y.2 (yF A i0 j0)]):=by
 refine zg Tryz.func166 rfl rfl (fun c=> ?_)
 refine zN 1 rfl (fun hL1=> ?_)
 refine vg<|zB (zo vh rfl) (fun b1=> ?_)
 refine Vj<|zw (zf (j:=0) 0 Qx rfl rfl rfl rfl)<|qJ rfl<|vX (zM (x0:=(A.getD i0 [])) 1 i0 rfl ya vC rfl zL rfl rfl (gD (d:=[]) om)) ?_
 rintro ⟨b2,o3,p4,c5⟩ -
 refine zw (zf (j:=0) 0 vF rfl rfl rfl rfl)<|qJ rfl<|vX (zM (x0:=((A.getD i0 []).getD j0 (0:Rat))) 1 j0 rfl yb qk rfl zL rfl rfl (gD (d:=(0:Rat)) om)) ?_
 rintro ⟨b6,o7,w9,a0⟩ -
 refine vd qR<|zw (zA (j:=0) 0 qp rfl rfl rfl (.t4 .nil))<|zh 0 rfl rfl rfl rfl qk (.t4 .nil) .z<|Va ?_
 exact zq rfl (w9,a0) trivial (zy 0 qp rfl rfl (.t4 .nil)) rfl oN ((.c (j:=1) rfl .n))
theorem ziT (hK:K≤64) (hN:N≤70) (hnA:A.length=nA) (hKA:K=nA) (hrA:∀i,i<nA→(A.getD i []).length=N):jI yt 86 [Vi K,Vi N,.func (.func 166) #[] #[Vp bA]] [] [j8 bA 0 [.slice pA nA cA],zI (rS rQ) pA cA A] (Y:=(Option Addr)×Nat×HP) (fun y=>y.2.2.length=K) (fun y=> .slice (y.1) K (y.2.1)) (fun y=>[rowA 62 rV (y.1) (y.2.1) (oh y.2.2 N),vp 32 rQ (y.2.2) (yq K N (fun ii jj=>yF A ii jj))]) (fun y=>[]):=by
 refine zg yK rfl rfl (fun c=> ?_)
 refine zN 1 rfl (fun hL1=> ?_)
 refine jS 1 rfl<|qJ rfl<|qZ (vS (r:=rV) (k:=K) (x0:=(none,0,0)) (γ0:=()) ya Z2 rfl rfl rfl rfl om om rfl (fun g _=>by trivial) dd) (fun b1 _=> ?_)
 refine jn 1 rfl<|qe<|JO (fun w mm=>mm.rmNil 32 rQ) ?_
 have e2:(yX K (none,0,0):List (Option Addr×Nat×Nat))=(yy ([]:HP) N K):=by exact Mx.Jf N K
 rw [e2]
 refine k22 3 rfl<|zk<|z5 (X:=Nat×HP) (fun x=>x.1≤K∧x.2.length=x.1) (fun x=>[(14,Vi x.1)]) [13,7,1,2] (fun x=>[vp 32 rQ (x.2) (yq x.1 N (fun ii jj=>yF A ii jj)),rowA 62 rV (Sb b1) K (yy x.2 N K)]) (fun x=>[]) [0,1] (fun x=>K - x.1) (0,([]:HP)) (by exact ⟨yT _,rfl⟩) (.e rfl vA .n) ((.e (i:=0) rfl (by rfl) (.c (i:=0) rfl .n)):zJ _ _ _) sN ?_
 rintro ⟨i,hs⟩ hI
 dsimp only at hI
 try dsimp only
 obtain ⟨hi,hlen⟩:=hI
 refine jg 1 rfl<|zx rfl (fun h3=> ?_) (fun h3=> ?_)
 refine qN<|zi<|qe<|zk<|jS 2 rfl<|kS 3 rfl<|Zy rfl rfl (vS (r:=rE) (k:=N) (x0:=(none:Option Rat)) (γ0:=(wz,wz)) yb jf rfl rfl rfl rfl om om rfl (fun g _=>JT g) dd) (fun b4 _=> ?_)
 refine zE (zZ (j:=i) ya vC rfl rfl rfl om)<|Zz 2 rfl rfl rfl (qh (j:=i) (x0:=(some ⟨b4,0,none⟩,N,N)) (γ0:=()) rfl rfl (by first|omega|(rw [Mx.Q4 om];omega)|(rw [Mx.jW];omega)) rfl rfl vC (fun _ _=>by trivial)) (fun _=>(.s (.s .z))) (fun _ _=> ?_)
 refine ZI ?_
 have e5:(((yy hs N K).set i (Sb b4,N,N)):List (Option Addr×Nat×Nat))=(yy (hs++[((Sb b4:Option Addr),N)]) N K):=by exact Mx.Jg hlen om
 rw [e5]
 have e6:(yX N (none:Option Rat):List (Option Rat))=(yR 0 N (fun jj=>yF A i jj)):=by exact Mx.Qo N _
 rw [e6]
 refine vM 2 rfl<|zE (zZ (j:=i) ya vC rfl rfl rfl om)<|vX (qi (x0:=(Sb b4,N,N)) (v:= .slice (Sb b4) N N) 2 i rfl vF rfl rfl (by exact Mx.Z3 (K:=K) om) rfl) (fun _ a4=> ?_)
 refine vZ 2 rfl<|zk<|z5 (X:=Nat) (fun x=>x≤N) (fun x=>[(27,Vi x)]) [26,8,14,13,7,1,2] (fun x=>[rowA 32 rE (Sb b4) N (yR x N (fun jj=>yF A i jj)),vp 32 rQ hs (yq i N (fun ii jj=>yF A ii jj)),rowA 62 rV (Sb b1) K (yy (hs++[((Sb b4:Option Addr),N)]) N K)]) (fun x=>[]) [0,1] (fun x=>N - x) 0 (by exact yT _) (.e rfl vA .n) ((.of [0,0,0] rfl):zJ _ _ _) sN ?_
 rintro j hJ
 refine jg 1 rfl<|zx rfl (fun h8=> ?_) (fun h8=> ?_)
 refine vY<|zk<|k12 2 rfl<|Vk 10 ?_
 have hrw:=hrA i om
 refine zQ 0 rfl rfl<|zQ 1 rfl rfl<|zC 2 rfl (zZ (j:=i) ya vC rfl rfl rfl om)<|QM 3 rfl (qi (x0:=(Sb b4,N,N)) (v:= .slice (Sb b4) N N) 2 i rfl vF rfl rfl (by exact Mx.Z3 (K:=K) om) rfl) (fun _ a5=> ?_)
 refine zQ 4 rfl rfl<|zQ 5 rfl rfl<|zQ 6 rfl rfl<|zQ 7 rfl rfl<|zt 8 (V6 rfl rfl (.c rfl (.c rfl .n)) zP (zg5 qB zL zL) (.c (j:=0) rfl (.c (j:=1) rfl .n)) (first:=[]) (cap:=[Vp bA]) ?_)
 rintro ⟨a0,a1⟩ -
 dsimp only [aq,nq,cq]
 refine zC 9 rfl (zZ (j:=j) yb qk rfl rfl rfl om) ?_
 refine zt 10 (VH (A':=fun _=>rowA 32 rE (Sb b4) N ((yR j N (fun jj=>yF A i jj)).set j (some (yF A i j)))) kr rfl (qh (r:=rE) (j:=j) (x0:=(some (yF A i j))) (γ0:=(a0,a1)) rfl rfl (by first|omega|(rw [Mx.Q4 om];omega)|(rw [Mx.jW];omega)) rfl rfl qk (fun g hr=>Kz (Holds.get 0 rfl hr))) (hw':=rfl) (hd:=rfl) (fun _ _=> ?_))
 refine zU kr<|zG<|zi<|zv<|zE (qj rfl rfl)<|qY 1 rfl<|zW (j+1) (show (j+1)≤N from by show j+1≤N;omega) (by show N - (j+1)<N - j;omega) (mR rfl) (ho:=((.e (i:=0) rfl (by first|rfl|(rw [Mx.VL om])) (.of [0,0] rfl)):zJ _ _ _)) ((.of [1,2] rfl):q9 _ _ _)
 refine z7<|ze<|ze<|zn<|zG<|zi<|zv<|zE (qj rfl rfl)<|qY 1 rfl<|ZH (fun w mm=>mm.rowEQ (l2:=((yZ N).map (fun jj=>yF A i jj))) 0 rfl (by rw [show j=N by omega];exact Mx.Jw N _)) ?_
 try dsimp only [yW]
 refine ZH (fun w mm=>mm.rmSnoc 0 0 rfl rfl (by rw [yJ];exact hlen)) ?_
 try dsimp only [yW]
 refine zW ((i+1),(hs++[((Sb b4:Option Addr),N)])) (by dsimp only;exact ⟨Oo,by rw [yU,hlen];rfl⟩) (by dsimp only;omega) (mR rfl) (ho:=((.e (i:=0) rfl (by first|rfl|(rw [Mx.zpJ])) (.c (i:=0) rfl .n)):zJ _ _ _)) ((.of [0,1] rfl):q9 _ _ _)
 refine z7<|ze<|ze<|zn<|zi<|Zn 2 rfl ?_
 have a2:((yy hs N K):List (Option Addr×Nat×Nat))=(oh hs N):=by exact Mx.WS (hlen.trans om)
 rw [a2]
 have a3:(yq i N (fun ii jj=>yF A ii jj))=(yq K N (fun ii jj=>yF A ii jj)):=by rw [show i=K by omega]
 rw [a3]
 exact zq rfl (Sb b1,K,hs) (hlen.trans om) (zj rfl) rfl ((.of [1,0] rfl):zJ _ _ _) sN
theorem zg6 {i0:Nat} {j0:Nat} {bA:Nat} {pA:Option Addr} {nA:Nat} {cA:Nat} {A:List (List Rat)} (hnA:A.length=nA) (hj0:j0<nA) (hi0:i0<(A.getD j0 []).length):CB 173 [Vi i0,Vi j0,Vp bA] [j8 bA 0 [.slice pA nA cA],zI (rS rQ) pA cA A] (Y:=Wd×Wd) (fun y=> .agg #[y.1.b,y.1.l,y.2.b,y.2.l]) (fun y=>[qF true y.1 y.2 (yF A j0 i0)]):=by
 refine zg Tryz.func173 rfl rfl (fun c=> ?_)
 refine zN 1 rfl (fun hL1=> ?_)
 refine vg<|zB (zo vh rfl) (fun b1=> ?_)
 refine Vj<|zw (zf (j:=0) 0 Qx rfl rfl rfl rfl)<|qJ rfl<|vX (zM (x0:=(A.getD j0 [])) 1 j0 rfl ya vC rfl zL rfl rfl (gD (d:=[]) om)) ?_
 rintro ⟨b2,o3,p4,c5⟩ -
 refine zw (zf (j:=0) 0 vF rfl rfl rfl rfl)<|qJ rfl<|vX (zM (x0:=((A.getD j0 []).getD i0 (0:Rat))) 1 i0 rfl yb qk rfl zL rfl rfl (gD (d:=(0:Rat)) om)) ?_
 rintro ⟨b6,o7,w9,a0⟩ -
 refine vd qR<|zw (zA (j:=0) 0 qp rfl rfl rfl (.t4 .nil))<|zh 0 rfl rfl rfl rfl qk (.t4 .nil) .z<|Va ?_
 exact zq rfl (w9,a0) trivial (zy 0 qp rfl rfl (.t4 .nil)) rfl oN ((.c (j:=1) rfl .n))
theorem zlz (hK:K≤64) (hN:N≤70) (hnA:A.length=nA) (hNA:N=nA) (hrA:∀i,i<nA→(A.getD i []).length=K):jI yt 86 [Vi K,Vi N,.func (.func 173) #[] #[Vp bA]] [] [j8 bA 0 [.slice pA nA cA],zI (rS rQ) pA cA A] (Y:=(Option Addr)×Nat×HP) (fun y=>y.2.2.length=K) (fun y=> .slice (y.1) K (y.2.1)) (fun y=>[rowA 62 rV (y.1) (y.2.1) (oh y.2.2 N),vp 32 rQ (y.2.2) (yq K N (fun ii jj=>yF A jj ii))]) (fun y=>[]):=by
 refine zg yK rfl rfl (fun c=> ?_)
 refine zN 1 rfl (fun hL1=> ?_)
 refine jS 1 rfl<|qJ rfl<|qZ (vS (r:=rV) (k:=K) (x0:=(none,0,0)) (γ0:=()) ya Z2 rfl rfl rfl rfl om om rfl (fun g _=>by trivial) dd) (fun b1 _=> ?_)
 refine jn 1 rfl<|qe<|JO (fun w mm=>mm.rmNil 32 rQ) ?_
 have e2:(yX K (none,0,0):List (Option Addr×Nat×Nat))=(yy ([]:HP) N K):=by exact Mx.Jf N K
 rw [e2]
 refine k22 3 rfl<|zk<|z5 (X:=Nat×HP) (fun x=>x.1≤K∧x.2.length=x.1) (fun x=>[(14,Vi x.1)]) [13,7,1,2] (fun x=>[vp 32 rQ (x.2) (yq x.1 N (fun ii jj=>yF A jj ii)),rowA 62 rV (Sb b1) K (yy x.2 N K)]) (fun x=>[]) [0,1] (fun x=>K - x.1) (0,([]:HP)) (by exact ⟨yT _,rfl⟩) (.e rfl vA .n) ((.e (i:=0) rfl (by rfl) (.c (i:=0) rfl .n)):zJ _ _ _) sN ?_
 rintro ⟨i,hs⟩ hI
 dsimp only at hI
 try dsimp only
 obtain ⟨hi,hlen⟩:=hI
 refine jg 1 rfl<|zx rfl (fun h3=> ?_) (fun h3=> ?_)
 refine qN<|zi<|qe<|zk<|jS 2 rfl<|kS 3 rfl<|Zy rfl rfl (vS (r:=rE) (k:=N) (x0:=(none:Option Rat)) (γ0:=(wz,wz)) yb jf rfl rfl rfl rfl om om rfl (fun g _=>JT g) dd) (fun b4 _=> ?_)
 refine zE (zZ (j:=i) ya vC rfl rfl rfl om)<|Zz 2 rfl rfl rfl (qh (j:=i) (x0:=(some ⟨b4,0,none⟩,N,N)) (γ0:=()) rfl rfl (by first|omega|(rw [Mx.Q4 om];omega)|(rw [Mx.jW];omega)) rfl rfl vC (fun _ _=>by trivial)) (fun _=>(.s (.s .z))) (fun _ _=> ?_)
 refine ZI ?_
 have e5:(((yy hs N K).set i (Sb b4,N,N)):List (Option Addr×Nat×Nat))=(yy (hs++[((Sb b4:Option Addr),N)]) N K):=by exact Mx.Jg hlen om
 rw [e5]
 have e6:(yX N (none:Option Rat):List (Option Rat))=(yR 0 N (fun jj=>yF A jj i)):=by exact Mx.Qo N _
 rw [e6]
 refine vM 2 rfl<|zE (zZ (j:=i) ya vC rfl rfl rfl om)<|vX (qi (x0:=(Sb b4,N,N)) (v:= .slice (Sb b4) N N) 2 i rfl vF rfl rfl (by exact Mx.Z3 (K:=K) om) rfl) (fun _ a4=> ?_)
 refine vZ 2 rfl<|zk<|z5 (X:=Nat) (fun x=>x≤N) (fun x=>[(27,Vi x)]) [26,8,14,13,7,1,2] (fun x=>[rowA 32 rE (Sb b4) N (yR x N (fun jj=>yF A jj i)),vp 32 rQ hs (yq i N (fun ii jj=>yF A jj ii)),rowA 62 rV (Sb b1) K (yy (hs++[((Sb b4:Option Addr),N)]) N K)]) (fun x=>[]) [0,1] (fun x=>N - x) 0 (by exact yT _) (.e rfl vA .n) ((.of [0,0,0] rfl):zJ _ _ _) sN ?_
 rintro j hJ
 refine jg 1 rfl<|zx rfl (fun h8=> ?_) (fun h8=> ?_)
 refine vY<|zk<|k12 2 rfl<|Vk 10 ?_
 have hrw:=hrA j om
 refine zQ 0 rfl rfl<|zQ 1 rfl rfl<|zC 2 rfl (zZ (j:=i) ya vC rfl rfl rfl om)<|QM 3 rfl (qi (x0:=(Sb b4,N,N)) (v:= .slice (Sb b4) N N) 2 i rfl vF rfl rfl (by exact Mx.Z3 (K:=K) om) rfl) (fun _ a5=> ?_)
 refine zQ 4 rfl rfl<|zQ 5 rfl rfl<|zQ 6 rfl rfl<|zQ 7 rfl rfl<|zt 8 (V6 rfl rfl (.c rfl (.c rfl .n)) zP (zg6 qB zL zL) (.c (j:=0) rfl (.c (j:=1) rfl .n)) (first:=[]) (cap:=[Vp bA]) ?_)
 rintro ⟨a0,a1⟩ -
 dsimp only [aq,nq,cq]
 refine zC 9 rfl (zZ (j:=j) yb qk rfl rfl rfl om) ?_
 refine zt 10 (VH (A':=fun _=>rowA 32 rE (Sb b4) N ((yR j N (fun jj=>yF A jj i)).set j (some (yF A j i)))) kr rfl (qh (r:=rE) (j:=j) (x0:=(some (yF A j i))) (γ0:=(a0,a1)) rfl rfl (by first|omega|(rw [Mx.Q4 om];omega)|(rw [Mx.jW];omega)) rfl rfl qk (fun g hr=>Kz (Holds.get 0 rfl hr))) (hw':=rfl) (hd:=rfl) (fun _ _=> ?_))
 refine zU kr<|zG<|zi<|zv<|zE (qj rfl rfl)<|qY 1 rfl<|zW (j+1) (show (j+1)≤N from by show j+1≤N;omega) (by show N - (j+1)<N - j;omega) (mR rfl) (ho:=((.e (i:=0) rfl (by first|rfl|(rw [Mx.VL om])) (.of [0,0] rfl)):zJ _ _ _)) ((.of [1,2] rfl):q9 _ _ _)
 refine z7<|ze<|ze<|zn<|zG<|zi<|zv<|zE (qj rfl rfl)<|qY 1 rfl<|ZH (fun w mm=>mm.rowEQ (l2:=((yZ N).map (fun jj=>yF A jj i))) 0 rfl (by rw [show j=N by omega];exact Mx.Jw N _)) ?_
 try dsimp only [yW]
 refine ZH (fun w mm=>mm.rmSnoc 0 0 rfl rfl (by rw [yJ];exact hlen)) ?_
 try dsimp only [yW]
 refine zW ((i+1),(hs++[((Sb b4:Option Addr),N)])) (by dsimp only;exact ⟨Oo,by rw [yU,hlen];rfl⟩) (by dsimp only;omega) (mR rfl) (ho:=((.e (i:=0) rfl (by first|rfl|(rw [Mx.zpJ])) (.c (i:=0) rfl .n)):zJ _ _ _)) ((.of [0,1] rfl):q9 _ _ _)
 refine z7<|ze<|ze<|zn<|zi<|Zn 2 rfl ?_
 have a2:((yy hs N K):List (Option Addr×Nat×Nat))=(oh hs N):=by exact Mx.WS (hlen.trans om)
 rw [a2]
 have a3:(yq i N (fun ii jj=>yF A jj ii))=(yq K N (fun ii jj=>yF A jj ii)):=by rw [show i=K by omega]
 rw [a3]
 exact zq rfl (Sb b1,K,hs) (hlen.trans om) (zj rfl) rfl ((.of [1,0] rfl):zJ _ _ _) sN
theorem zoX {p:Option Addr} {n:Nat} {cap:Nat} {l:List Rat} {p2:Option Addr} {cap2:Nat} {l2:List Rat} (hn:l.length=n) (hn2:l2.length=n) (hn9:n≤64) (hl1:∀i,yr (l.getD i 0)≤100000) (hl2:∀i,yr (l2.getD i 0)≤100000):CB 93 [.slice p n cap,.slice p2 n cap2] [zI rQ p cap l,zI rQ p2 cap2 l2] (Y:=Wd×Wd) (fun y=> .agg #[y.1.b,y.1.l,y.2.b,y.2.l]) (fun y=>[qF true y.1 y.2 (yL l l2 n)]):=by
 refine zg Tryz.func93 rfl rfl (fun c=> ?_)
 refine zN 0 rfl (fun hL0=> ?_)
 refine zN 1 rfl (fun hL1=> ?_)
 refine vg<|zB (zo vh rfl) (fun b1=> ?_)
 refine Vj<|zm (qS rfl) zP (j4 zL) (.n) ?_
 rintro ⟨a3,a4⟩ -
 refine zB (zo vh rfl) (fun b5=> ?_)
 refine zh 0 rfl rfl rfl rfl qk (.t4 .nil) .z<|ZI<|k12 3 rfl<|zk<|z5 (X:=Nat×Wd×Wd) (fun x=>x.1≤n) (fun x=>[(11,Vi x.1)]) [10,9,5,4,1] (fun x=>[zK b5 32 (cw [x.2.1,x.2.2]),zK b1 32 (cw [wz,wz])]) (fun x=>[qF true x.2.1 x.2.2 (yL l l2 x.1)]) [1,2] (fun x=>n - x.1) (0,a3,a4) (by exact yT _) (.e rfl vA .n) ((.of [0,0] rfl):zJ _ _ _) ((.e (j:=0) rfl (by rfl) .n)) ?_
 rintro ⟨i,wa,wb⟩ hI
 dsimp only at hI
 have hdl:=Td.zgp hl1 hl2 i
 have hi1:=hl1 i
 have hi2:=hl2 i
 have hm:=Big.jB (l.getD i 0) (l2.getD i 0)
 have hin:i*(2*100000+1)≤64*(2*100000+1):=yab _ (yV hI hn9)
 refine jg 1 rfl<|zx rfl (fun h6=> ?_) (fun h6=> ?_)
 refine vY<|zk<|jK 1 rfl<|vX (zM (x0:=(gQ l i)) 1 i rfl yb qk rfl zL rfl rfl (gD (d:=(0:Rat)) om)) ?_
 rintro ⟨b7,o8,w9,a0⟩ -
 refine vd qR<|zw (zA (j:=0) 0 qp rfl rfl rfl (.t4 .nil))<|zB (zo vh rfl) (fun a2=> ?_)
 refine kS 1 rfl<|zh 0 rfl rfl rfl rfl qk (.t4 .nil) .z<|Vc<|ji (X:=Unit) (fun x=>True) (fun x=>[(26,.bool (decide ((Big.Zv (gQ l i)≠0)∧(Big.Zv (gQ l2 i)≠0)))),(6,Vi i),(7,Vp a2),(11,Vi i),(10,Vi n),(9,.slice p n cap),(5,Vp b5),(4,Vp b1),(1,.slice p2 n cap2)]) (fun x=>[zK a2 32 (cw [w9,a0]),zK b5 32 (cw [wa,wb]),zK b1 32 (cw [wz,wz])]) (fun x=>[qF true w9 a0 (gQ l i),qF true wa wb (yL l l2 i),zI rQ p cap l,zI rQ p2 cap2 l2]) ?_ ?_
 refine zv<|zw (za 0 qp rfl rfl (.t4 .nil))<|qg (qS rfl) zP Vt (qX 1 rfl)<|kS 1 rfl<|q8 (qU rfl) (fun a5=> ?_) (fun a5=> ?_)
 refine kS 2 rfl<|vX (zM (x0:=(gQ l2 i)) 4 i rfl yb qk rfl zL rfl rfl (gD (d:=(0:Rat)) om)) ?_
 rintro ⟨b13,o14,w15,w17⟩ -
 refine vd qR<|zw (zA (j:=0) 0 qp rfl rfl rfl (.t4 .nil))<|qg (qS rfl) zP Vt (qX 1 rfl)<|qY 2 rfl ?_
 exact qL () Qn ((.e rfl (congrArg Value.bool JS) (.of rfl))) ((.of [0,0,0] rfl):zJ _ _ _) ((.of [3,4,5,6] rfl))
 refine qY 7 rfl ?_
 exact qL () Qn ((.e rfl (congrArg Value.bool JS) (.of rfl))) ((.of [0,0,0] rfl):zJ _ _ _) ((.of [1,2,3,4] rfl))
 rintro ⟨⟩ -
 refine zx rfl (fun a1=> ?_) (fun a1=> ?_)
 refine vk (.c (i:=1) rfl (.c (i:=0) rfl (.c (i:=0) rfl .n)))<|Vk 8<|qy 0 rfl (za 0 qp rfl rfl (.t4 .nil))<|qy 1 rfl (za 1 qp rfl rfl (.t4 .nil))<|zQ 2 rfl rfl<|zQ 3 rfl rfl<|jc 4 rfl (zM (x0:=(gQ l2 i)) 3 i rfl yb qk rfl zL rfl rfl (gD (d:=(0:Rat)) om)) ?_
 rintro ⟨b18,o19,a6,a7⟩ -
 dsimp only [aq,nq,cq]
 refine vi qR<|vE 5 rfl (zA (j:=0) 0 qp rfl rfl rfl (.t4 .nil)) ?_
 refine zt 6 (zp rfl (.c rfl (.c rfl .n)) zP (Jj (k1:=true) (u1:=w9) (v1:=a0) (q1:=(l.getD i (0:Rat))) (k2:=true) (u2:=a6) (v2:=a7) (q2:=(l2.getD i (0:Rat))) zL) (vj 2 1) ?_)
 rintro ⟨b4,b6⟩ -
 dsimp only [aq,nq,cq]
 refine zt 7 (zp rfl (.c rfl (.c rfl .n)) zP (Ji zL) (vj 4 0 rfl rfl) ?_)
 rintro ⟨a8,a9⟩ -
 refine zt 8 (zH rfl rfl rfl rfl qk (.t4 .nil) ?_)
 refine zU kr<|zG<|zi<|zv<|zE (qj rfl rfl)<|qY 1 rfl<|zW ((i+1),a8,a9) (by show i+1≤n;omega) om (mR rfl) ((.of [0,1] rfl):zJ _ _ _) ((.e (j:=0) rfl (by rfl) (.of [6,7] rfl)))
 refine qN<|zG<|zi<|zv<|zE (qj rfl rfl)<|qY 1 rfl<|zW ((i+1),wa,wb) (by dsimp only;show i+1≤n;omega) (by dsimp only;omega) (mR rfl) (ho:=((.of [1,1] rfl):zJ _ _ _)) ((.e (j:=1) rfl (by rw [← Td.zqm (by first|exact Td.zqn a1|exact Td.dl_zero1 a1 h17)]) (.of [2,3] rfl)):q9 _ _ _)
 refine z7<|ze<|ze<|zn<|zi<|vg<|zw (za 0 qp rfl rfl (.t4 .nil))<|zh 1 rfl rfl rfl rfl qk (.t4 .nil) (.s .z)<|Va ?_
 exact zq rfl (wa,wb) trivial (zy 1 qp rfl rfl (.t4 .nil)) rfl oN ((.e (j:=0) rfl (by rw [show i=n by omega]) .n))
theorem zlA {i0:Nat} {j0:Nat} {bA:Nat} {pA:Option Addr} {nA:Nat} {cA:Nat} {A:List (List Rat)} {bB:Nat} {pB:Option Addr} {nB:Nat} {cB:Nat} {B:List (List Rat)} {n9:Nat} (hnA:A.length=nA) (hnB:B.length=nB) (hrA:∀i,i<nA→(A.getD i []).length=n9) (hrB:∀i,i<nB→(B.getD i []).length=n9) (hqA:yO A 100000) (hqB:yO B 100000) (hn9:n9≤64) (hi0:i0<nA) (hj0:j0<nB):CB 92 [Vi i0,Vi j0,Vp bA,Vp bB] [j8 bA 0 [.slice pA nA cA],zI (rS rQ) pA cA A,j8 bB 0 [.slice pB nB cB],zI (rS rQ) pB cB B] (Y:=Wd×Wd) (fun y=> .agg #[y.1.b,y.1.l,y.2.b,y.2.l]) (fun y=>[qF true y.1 y.2 (yL (A.getD i0 []) (B.getD j0 []) n9)]):=by
 refine zg Tryz.func92 rfl rfl (fun c=> ?_)
 refine zN 1 rfl (fun hL1=> ?_)
 refine zN 3 rfl (fun hL3=> ?_)
 have hra:=hrA i0 hi0
 have hrb:=hrB j0 hj0
 refine vg<|zB (zo vh rfl) (fun b1=> ?_)
 refine ZI<|Vk 9<|vE 0 rfl (zf (j:=0) 0 Qx rfl rfl rfl rfl)<|zQ 1 rfl rfl<|jc 2 rfl (zM (x0:=(A.getD i0 [])) 1 i0 rfl ya vC rfl zL rfl rfl (gD (d:=[]) om)) ?_
 rintro ⟨b2,o3,p4,c5⟩ -
 refine vE 3 rfl (zf (j:=0) 0 vF rfl rfl rfl rfl)<|vE 4 rfl (zf (j:=0) 4 Qx rfl rfl rfl rfl)<|zQ 5 rfl rfl<|jc 6 rfl (zM (x0:=(B.getD j0 [])) 5 j0 rfl ya vC rfl zL rfl rfl (gD (d:=[]) om)) ?_
 rintro ⟨b6,o7,p8,c9⟩ -
 refine vE 7 rfl (zf (j:=0) 0 vF rfl rfl rfl rfl) ?_
 have a0:(.slice p4 ((A.getD i0 []).length) c5:Value)= .slice p4 n9 c5:=by rw [hra]
 rw [a0]
 have a1:(.slice p8 ((B.getD j0 []).length) c9:Value)= .slice p8 n9 c9:=by rw [hrb]
 rw [a1]
 refine zt 8 (zp rfl (q7 rfl rfl) zP (zoX zL zL qB (by exact fun c=>hqA i0 c) (by exact fun c=>hqB j0 c)) (vj 3 1 rfl rfl) ?_)
 rintro ⟨a2,a3⟩ -
 refine zt 9 (zH rfl rfl rfl rfl qk (.t4 .nil) ?_)
 refine zU kr<|zi<|vv ?_
 exact zq rfl (a2,a3) trivial (zy 0 qp rfl rfl (.t4 .nil)) rfl oN (s0 rfl)
theorem ziU {bB:Nat}      (hK:K≤64) (hN:N≤70) (hnA:A.length=nA) (hnB:B.length=nB) (hrA:∀i,i<nA→(A.getD i []).length=n9) (hrB:∀i,i<nB→(B.getD i []).length=n9) (hqA:yO A 100000) (hqB:yO B 100000) (hn9:n9≤64) (hKA:K=nA) (hNB:N=nB):jI yt 86 [Vi K,Vi N,.func (.func 92) #[] #[Vp bA,Vp bB]] [] [j8 bA 0 [.slice pA nA cA],zI (rS rQ) pA cA A,j8 bB 0 [.slice pB nB cB],zI (rS rQ) pB cB B] (Y:=(Option Addr)×Nat×HP) (fun y=>y.2.2.length=K) (fun y=> .slice (y.1) K (y.2.1)) (fun y=>[rowA 62 rV (y.1) (y.2.1) (oh y.2.2 N),vp 32 rQ (y.2.2) (yq K N (fun ii jj=>yL (A.getD ii []) (B.getD jj []) n9))]) (fun y=>[]):=by
 refine zg yK rfl rfl (fun c=> ?_)
 refine zN 1 rfl (fun hL1=> ?_)
 refine zN 3 rfl (fun hL3=> ?_)
 refine jS 1 rfl<|qJ rfl<|qZ (vS (r:=rV) (k:=K) (x0:=(none,0,0)) (γ0:=()) ya Z2 rfl rfl rfl rfl om om rfl (fun g _=>by trivial) dd) (fun b1 _=> ?_)
 refine jn 1 rfl<|qe<|JO (fun w mm=>mm.rmNil 32 rQ) ?_
 have e2:(yX K (none,0,0):List (Option Addr×Nat×Nat))=(yy ([]:HP) N K):=by exact Mx.Jf N K
 rw [e2]
 refine k22 3 rfl<|zk<|z5 (X:=Nat×HP) (fun x=>x.1≤K∧x.2.length=x.1) (fun x=>[(14,Vi x.1)]) [13,7,1,2] (fun x=>[vp 32 rQ (x.2) (yq x.1 N (fun ii jj=>yL (A.getD ii []) (B.getD jj []) n9)),rowA 62 rV (Sb b1) K (yy x.2 N K)]) (fun x=>[]) [0,1,2,3] (fun x=>K - x.1) (0,([]:HP)) (by exact ⟨yT _,rfl⟩) (.e rfl vA .n) ((.e (i:=0) rfl (by rfl) (.c (i:=0) rfl .n)):zJ _ _ _) sN ?_
 rintro ⟨i,hs⟩ hI
 dsimp only at hI
 try dsimp only
 obtain ⟨hi,hlen⟩:=hI
 refine jg 1 rfl<|zx rfl (fun h3=> ?_) (fun h3=> ?_)
 refine qN<|zi<|qe<|zk<|jS 2 rfl<|kS 3 rfl<|Zy rfl rfl (vS (r:=rE) (k:=N) (x0:=(none:Option Rat)) (γ0:=(wz,wz)) yb jf rfl rfl rfl rfl om om rfl (fun g _=>JT g) dd) (fun b4 _=> ?_)
 refine zE (zZ (j:=i) ya vC rfl rfl rfl om)<|Zz 2 rfl rfl rfl (qh (j:=i) (x0:=(some ⟨b4,0,none⟩,N,N)) (γ0:=()) rfl rfl (by first|omega|(rw [Mx.Q4 om];omega)|(rw [Mx.jW];omega)) rfl rfl vC (fun _ _=>by trivial)) (fun _=>(.s (.s .z))) (fun _ _=> ?_)
 refine ZI ?_
 have e5:(((yy hs N K).set i (Sb b4,N,N)):List (Option Addr×Nat×Nat))=(yy (hs++[((Sb b4:Option Addr),N)]) N K):=by exact Mx.Jg hlen om
 rw [e5]
 have e6:(yX N (none:Option Rat):List (Option Rat))=(yR 0 N (fun jj=>yL (A.getD i []) (B.getD jj []) n9)):=by exact Mx.Qo N _
 rw [e6]
 refine vM 2 rfl<|zE (zZ (j:=i) ya vC rfl rfl rfl om)<|vX (qi (x0:=(Sb b4,N,N)) (v:= .slice (Sb b4) N N) 2 i rfl vF rfl rfl (by exact Mx.Z3 (K:=K) om) rfl) (fun _ a4=> ?_)
 refine vZ 2 rfl<|zk<|z5 (X:=Nat) (fun x=>x≤N) (fun x=>[(27,Vi x)]) [26,8,14,13,7,1,2] (fun x=>[rowA 32 rE (Sb b4) N (yR x N (fun jj=>yL (A.getD i []) (B.getD jj []) n9)),vp 32 rQ hs (yq i N (fun ii jj=>yL (A.getD ii []) (B.getD jj []) n9)),rowA 62 rV (Sb b1) K (yy (hs++[((Sb b4:Option Addr),N)]) N K)]) (fun x=>[]) [0,1,2,3] (fun x=>N - x) 0 (by exact yT _) (.e rfl vA .n) ((.of [0,0,0] rfl):zJ _ _ _) sN ?_
 rintro j hJ
 refine jg 1 rfl<|zx rfl (fun h8=> ?_) (fun h8=> ?_)
 refine vY<|zk<|k12 2 rfl<|Vk 10<|zQ 0 rfl rfl<|zQ 1 rfl rfl<|zC 2 rfl (zZ (j:=i) ya vC rfl rfl rfl om)<|QM 3 rfl (qi (x0:=(Sb b4,N,N)) (v:= .slice (Sb b4) N N) 2 i rfl vF rfl rfl (by exact Mx.Z3 (K:=K) om) rfl) (fun _ a5=> ?_)
 refine zQ 4 rfl rfl<|zQ 5 rfl rfl<|zQ 6 rfl rfl<|zQ 7 rfl rfl<|zt 8 (V6 rfl rfl (.c rfl (.c rfl .n)) zP (zlA (n9:=n9) qB qB qB qB qB qB qB zL zL) (.c (j:=0) rfl (.c (j:=1) rfl (.c (j:=2) rfl (.c (j:=3) rfl .n)))) (first:=[]) (cap:=[Vp bA,Vp bB]) ?_)
 rintro ⟨a0,a1⟩ -
 dsimp only [aq,nq,cq]
 refine zC 9 rfl (zZ (j:=j) yb qk rfl rfl rfl om) ?_
 refine zt 10 (VH (A':=fun _=>rowA 32 rE (Sb b4) N ((yR j N (fun jj=>yL (A.getD i []) (B.getD jj []) n9)).set j (some (yL (A.getD i []) (B.getD j []) n9)))) kr rfl (qh (r:=rE) (j:=j) (x0:=(some (yL (A.getD i []) (B.getD j []) n9))) (γ0:=(a0,a1)) rfl rfl (by first|omega|(rw [Mx.Q4 om];omega)|(rw [Mx.jW];omega)) rfl rfl qk (fun g hr=>Kz (Holds.get 0 rfl hr))) (hw':=rfl) (hd:=rfl) (fun _ _=> ?_))
 refine zU kr<|zG<|zi<|zv<|zE (qj rfl rfl)<|qY 1 rfl<|zW (j+1) (show (j+1)≤N from by show j+1≤N;omega) (by show N - (j+1)<N - j;omega) (mR rfl) (ho:=((.e (i:=0) rfl (by first|rfl|(rw [Mx.VL om])) (.of [0,0] rfl)):zJ _ _ _)) ((.of [1,2,3,4] rfl):q9 _ _ _)
 refine z7<|ze<|ze<|zn<|zG<|zi<|zv<|zE (qj rfl rfl)<|qY 1 rfl<|ZH (fun w mm=>mm.rowEQ (l2:=((yZ N).map (fun jj=>yL (A.getD i []) (B.getD jj []) n9))) 0 rfl (by rw [show j=N by omega];exact Mx.Jw N _)) ?_
 try dsimp only [yW]
 refine ZH (fun w mm=>mm.rmSnoc 0 0 rfl rfl (by rw [yJ];exact hlen)) ?_
 try dsimp only [yW]
 refine zW ((i+1),(hs++[((Sb b4:Option Addr),N)])) (by dsimp only;exact ⟨Oo,by rw [yU,hlen];rfl⟩) (by dsimp only;omega) (mR rfl) (ho:=((.e (i:=0) rfl (by first|rfl|(rw [Mx.zpJ])) (.c (i:=0) rfl .n)):zJ _ _ _)) ((.of [0,1,2,3] rfl):q9 _ _ _)
 refine z7<|ze<|ze<|zn<|zi<|Zn 2 rfl ?_
 have a2:((yy hs N K):List (Option Addr×Nat×Nat))=(oh hs N):=by exact Mx.WS (hlen.trans om)
 rw [a2]
 have a3:(yq i N (fun ii jj=>yL (A.getD ii []) (B.getD jj []) n9))=(yq K N (fun ii jj=>yL (A.getD ii []) (B.getD jj []) n9)):=by rw [show i=K by omega]
 rw [a3]
 exact zq rfl (Sb b1,K,hs) (hlen.trans om) (zj rfl) rfl ((.of [1,0] rfl):zJ _ _ _) sN
theorem ziV {p:Option Addr} {n:Nat} {cap:Nat} {L:List (List (List Rat))} (hn:L.length=n) (hall:∀i,i<n→Dt.okM (L.getD i [])):CA 90 [.slice p n cap] [zI (rS (rS rQ)) p cap L] (.int .i64 0):=by
 refine zg Tryz.func90 rfl rfl (fun c=> ?_)
 refine zN 0 rfl (fun hL0=> ?_)
 refine jg 1 rfl<|jK 1 rfl<|zE (vL yp rfl)<|vZ 1 rfl<|zk<|z5 (X:=Nat) (fun x=>x≤n) (fun x=>[(8,Vi x)]) [7,6] (fun x=>[]) (fun x=>[]) [0] (fun x=>n - x) 0 (by exact yT _) (.e rfl vA .n) oN sN ?_
 rintro i hI
 refine jg 1 rfl<|zx rfl (fun h1=> ?_) (fun h1=> ?_)
 refine vY<|zk<|vg<|vX (zM (x0:=(L.getD i [])) 0 i rfl yp zdu rfl zL rfl rfl (gD (d:=[]) om)) ?_
 rintro ⟨b2,o3,p4,c5⟩ -
 refine zw (zf (j:=0) 0 Qx rfl rfl rfl rfl)<|jD 1 rfl<|qJ rfl<|qg (qS rfl) zP (Kr (by rfl) (by exact (hall i om).1.1) (by exact (hall i om).2.2) (by exact (hall i om).1.2) (by exact (hall i om).2.1)) (qX 1 rfl)<|jD 1 rfl<|vZ 2 rfl<|qW rfl<|qN<|zG<|zi<|zv<|zE (qj rfl rfl)<|qY 1 rfl<|zW (i+1) (by show i+1≤n;omega) om (mR rfl) oN ((.c (j:=2) rfl .n))
 refine z7<|ze<|ze<|zn<|zi<|Zn 1 rfl ?_
 exact zq rfl () trivial (zj rfl) rfl oN sN
theorem zbD {pA:Option Addr} {nA:Nat} {cA:Nat} {A:List (List Rat)} {N:Nat} (hnA:A.length=nA) (hrA:∀i,i<nA→(A.getD i []).length=N) (h1:1≤nA∧nA≤64) (h2:1≤N∧N≤64):CB 91 [.slice pA nA cA] [zI (rS rQ) pA cA A] (Y:=(Option Addr)×Nat) (fun y=> .slice (y.1) N (y.2)) (fun y=>[zI (rS rQ) (y.1) (y.2) (yq N nA (fun ii jj=>yF A jj ii))]):=by
 refine zg Tryz.func91 rfl rfl (fun c=> ?_)
 refine zN 0 rfl (fun hL0=> ?_)
 have a0:=hrA 0 om
 have hUA:∀i,i<nA→(A.getD i []).length=(A.getD 0 []).length:=fun i hi=>by rw [hrA i hi,a0]
 refine vg<|zB (zX rfl rfl) (fun b1=> ?_)
 refine jn 1 rfl<|vU 0 rfl .z<|Jo 100000<|vE 0 rfl (zf (j:=0) 0 Qx rfl rfl rfl rfl)<|jc 1 rfl (zM (x0:=(A.getD 0 [])) 1 0 rfl ya vC rfl zL rfl rfl (gD (d:=[]) om)) ?_
 rintro ⟨b2,o3,p4,c5⟩ -
 refine vE 2 rfl (zf (j:=0) 0 vF rfl rfl rfl rfl)<|zC 3 rfl (vL yb rfl)<|vE 4 rfl (zf (j:=0) 2 Qx rfl rfl rfl rfl)<|zC 5 rfl (vL ya rfl) ?_
 have e6:((((A.getD 0 []).length:Nat):Int):Int)=((N:Nat):Int):=Oo
 rw [e6]
 refine zC 6 rfl (v6 .n (.c rfl .n))<|zt 7 (zp rfl (ag3 rfl rfl rfl) zP (zlz zL zL qB zL qB) (vj 2 3 rfl rfl) ?_)
 rintro ⟨a1,a2,hs9⟩ hsl
 refine zC 8 rfl (zT rfl)<|zU kr<|zi<|vv<|ZH (fun w mm=>mm.rmFreeze 0 1 rfl rfl ((Mx.Je N nA _ hsl).hl) ((Mx.Je N nA _ hsl).rl)) ?_
 try dsimp only [yae]
 exact zq rfl (a1,a2) trivial (zj rfl) rfl oN (s0 rfl)
theorem zg7 (hnA:A.length=nA) (hrA:∀i,i<nA→(A.getD i []).length=N) (h1:1≤nA∧nA≤64) (h2:1≤N∧N≤64):jI yt 79 [.slice pA nA cA] [] [zI (rS rQ) pA cA A] (Y:=(Option Addr)×Nat×HP) (fun y=>y.2.2.length=nA) (fun y=> .slice (y.1) nA (y.2.1)) (fun y=>[rowA 62 rV (y.1) (y.2.1) (oh y.2.2 N),vp 32 rQ (y.2.2) (yq nA N (fun ii jj=>yF A ii jj))]) (fun y=>[]):=by
 refine zg Tryz.func79 rfl rfl (fun c=> ?_)
 refine zN 0 rfl (fun hL0=> ?_)
 have a0:=hrA 0 om
 have hUA:∀i,i<nA→(A.getD i []).length=(A.getD 0 []).length:=fun i hi=>by rw [hrA i hi,a0]
 refine vg<|zB (zX rfl rfl) (fun b1=> ?_)
 refine jn 1 rfl<|vU 0 rfl .z<|Jo 100000<|vE 0 rfl (zf (j:=0) 0 Qx rfl rfl rfl rfl)<|zC 1 rfl (vL ya rfl)<|vE 2 rfl (zf (j:=0) 0 Qx rfl rfl rfl rfl)<|jc 3 rfl (zM (x0:=(A.getD 0 [])) 1 0 rfl ya vC rfl zL rfl rfl (gD (d:=[]) om)) ?_
 rintro ⟨b2,o3,p4,c5⟩ -
 refine vE 4 rfl (zf (j:=0) 0 vF rfl rfl rfl rfl)<|zC 5 rfl (vL yb rfl) ?_
 have e6:((((A.getD 0 []).length:Nat):Int):Int)=((N:Nat):Int):=Oo
 rw [e6]
 refine zC 6 rfl (v6 .n (.c rfl .n))<|zt 7 (zp rfl (ag3 rfl rfl rfl) zP (ziT zL zL qB zL qB) (vj 2 3 rfl rfl) ?_)
 rintro ⟨a1,a2,a3⟩ hsl
 refine zC 8 rfl (zT rfl)<|zU kr<|zi<|vv ?_
 exact zq rfl (a1,a2,a3) hsl (zj rfl) rfl ((.of [0,0] rfl):zJ _ _ _) sN
theorem zoY {pA:Option Addr} {nA:Nat} {cA:Nat} {A:List (List Rat)} {pB:Option Addr} {cB:Nat} {B:List (List Rat)} (hnA:A.length=nA) (hrA:∀i,i<nA→(A.getD i []).length=nA) (hnB:B.length=nA) (hrB:∀i,i<nA→(B.getD i []).length=nA) (h1:1≤nA∧nA≤64) (hqA:yO A 100000) (hqB:yO B 100000):CB 29 [.slice pA nA cA,.slice pB nA cB] [zI (rS rQ) pA cA A,zI (rS rQ) pB cB B] (Y:=(Option Addr)×Nat) (fun y=> .tuple #[.slice (y.1) nA (y.2),.int .i64 0]) (fun y=>[zI (rS rQ) (y.1) (y.2) (yq nA nA (fun ii jj=>yL (A.getD ii []) ((yq nA nA (fun ii jj=>yF B jj ii)).getD jj []) nA))]):=by
 refine zg Tryz.func29 rfl rfl (fun c=> ?_)
 refine zN 0 rfl (fun hL0=> ?_)
 refine zN 1 rfl (fun hL1=> ?_)
 have a0:=hrA 0 om
 have hUA:∀i,i<nA→(A.getD i []).length=(A.getD 0 []).length:=fun i hi=>by rw [hrA i hi,a0]
 have hB0:=hrB 0 om
 have hqT:yO (yq nA nA (fun ii jj=>yF B jj ii)) 100000:=Dt.zn9 (fun i j _ _=>hqB j i) dd
 refine vg<|zB (zX rfl rfl) (fun b1=> ?_)
 refine jn 2 rfl<|vg<|zw (zc 0 Qx rfl rfl rfl)<|qJ rfl ?_
 have e2:(.slice pA nA cA:Value)= .slice pA (A.length) cA:=by rw [hnA]
 rw [e2]
 have e3:(.slice pB nA cB:Value)= .slice pB (B.length) cB:=by rw [hnB]
 rw [e3]
 refine qZ (qA (r:=rS (rS rQ)) (k:=2) yp zrf rfl dd dd dd (.c (x:=A) (cs:=[.slice pA (A.length) cA]) (pA,cA) rfl rfl rfl (fun g hr=>Holds.get 0 rfl hr) (.c (x:=B) (cs:=[.slice pB (B.length) cB]) (pB,cB) rfl rfl rfl (fun g hr=>Holds.get 1 rfl hr) .n))) (fun b4 _=> ?_)
 have e5:(.slice pA (A.length) cA:Value)= .slice pA nA cA:=by rw [hnA]
 rw [e5]
 have e6:(.slice pB (B.length) cB:Value)= .slice pB nA cB:=by rw [hnB]
 rw [e6]
 refine qt 0 rfl .z<|qg (qS rfl) zP (ziV (by rfl) (by exact Dt.zqo (Dt.zn8 hnA hrA h1 h1) (Dt.zn8 hnB hrB h1 h1))) (qX 0 rfl)<|jD 1 rfl<|vZ 2 rfl<|qW rfl<|vY<|vg<|zw (zc 1 Qx rfl rfl rfl)<|vX (zM (x0:=(A.getD 0 [])) 1 0 rfl ya vC rfl zL rfl rfl (gD (d:=[]) om)) ?_
 rintro ⟨b7,o8,p9,c10⟩ -
 refine zw (zf (j:=0) 0 vF rfl rfl rfl rfl)<|vZ 4 rfl<|zx rfl (fun a1=> ?_) (fun a1=> ?_)
 omega
 refine k80 1 rfl<|zm (qS rfl) zP (zbD (N:=nA) qB qB qB qB) (qX 4 rfl) ?_
 rintro ⟨a5,a6⟩ -
 refine zB (zo ztJ rfl) (fun b13=> ?_)
 refine zh 0 rfl rfl rfl rfl zdu (.take .nil) .z<|ZI<|vU 2 rfl (.s (.s .z))<|vU 0 rfl .z<|Jo 100000<|vE 0 rfl (zf (j:=0) 1 Qx rfl rfl rfl rfl)<|zC 1 rfl (vL ya rfl)<|zQ 2 rfl rfl<|jc 3 rfl (zM (x0:=(B.getD 0 [])) 7 0 rfl ya vC rfl zL rfl rfl (gD (d:=[]) om)) ?_
 rintro ⟨b14,o15,p16,c17⟩ -
 refine vE 4 rfl (zf (j:=0) 0 vF rfl rfl rfl rfl)<|zC 5 rfl (vL yb rfl) ?_
 have a2:((((B.getD 0 []).length:Nat):Int):Int)=((nA:Nat):Int):=Oo
 rw [a2]
 refine zC 6 rfl (v6 .n (.c rfl (.c rfl .n))) ?_
 refine zt 7 (zp rfl (.c rfl (.c rfl (.c rfl .n))) zP (ziU (n9:=nA) (by first|rfl|assumption|omega|exact ⟨Oo,Oo⟩|exact yJ _ _ _|exact Mx.zcJ _ _ _) (by first|rfl|assumption|omega|exact ⟨Oo,Oo⟩|exact yJ _ _ _|exact Mx.zcJ _ _ _) qB (by first|rfl|assumption|omega|exact ⟨Oo,Oo⟩|exact yJ _ _ _|exact Mx.zcJ _ _ _) qB (by first|rfl|assumption|omega|exact ⟨Oo,Oo⟩|exact yJ _ _ _|exact Mx.zcJ _ _ _) qB (by exact hqT) (by first|rfl|assumption|omega|exact ⟨Oo,Oo⟩|exact yJ _ _ _|exact Mx.zcJ _ _ _) (by first|rfl|assumption|omega|exact ⟨Oo,Oo⟩|exact yJ _ _ _|exact Mx.zcJ _ _ _) (by first|rfl|assumption|omega|exact ⟨Oo,Oo⟩|exact yJ _ _ _|exact Mx.zcJ _ _ _)) (sg4 3 8 2 4 rfl rfl rfl rfl) ?_)
 rintro ⟨a3,a4,a7⟩ hsl
 refine zC 8 rfl (zT rfl)<|zC 9 rfl (zT rfl)<|zU kr<|zi<|vv<|ZH (fun w mm=>mm.rmFreeze 0 1 rfl rfl ((Mx.Je nA nA _ hsl).hl) ((Mx.Je nA nA _ hsl).rl)) ?_
 try dsimp only [yae]
 exact vD rfl (a3,a4) trivial (zj rfl) (zj rfl) rfl oN (s0 rfl)
theorem zfC {pM:Option Addr} {nM:Nat} {cM:Nat} {M:List (List Rat)} {b:Nat} (hnM:M.length=nM) (hM1:1≤nM) (hK:nM≤32) (hrM:∀i,i<nM→(M.getD i []).length=nM) (hb1:1≤b) (hbM:yO M b) (hH:Mx.H b nM≤200000) (hnul:∀v:Nat→Rat,(∀i,i<nM→Mx.sm nM (fun j=>yF M i j*v j)=0)→∀i,i<nM→v i=0):CC 58 [.slice pM nM cM] [zI (rS rQ) pM cM M] (Y:=(Option Addr)×Nat×(List (List Rat))) (fun y=>Td.Inv M y.2.2 nM (Mx.H b nM)) (fun y=> .tuple #[.slice (y.1) nM (y.2.1),.int .i64 0]) (fun y=>[zI (rS rQ) (y.1) (y.2.1) (y.2.2)]):=by
 refine zg Tryz.func58 rfl rfl (fun c=> ?_)
 refine zN 0 rfl (fun hL0=> ?_)
 have a5:=hrM 0 om
 have hU:∀i,i<nM→(M.getD i []).length=(M.getD 0 []).length:=fun i hi=>by rw [hrM i hi,a5]
 have hUl:(yq nM nM (fun ii jj=>yP ii jj)).length=nM:=yJ _ _ _
 have hUr:∀i,i<nM→((yq nM nM (fun ii jj=>yP ii jj)).getD i []).length=nM:=fun i hi=>by rw [Mx.Q3 hi];simp
 refine jg 2 rfl<|jK 1 rfl<|qg (qS rfl) zP (ziQ qB qB zL zL zL) (qX 0 rfl)<|jD 1 rfl<|vZ 2 rfl<|qW rfl<|k80 2 rfl<|zB (zo zr3 rfl) (fun b1=> ?_)
 refine zh 0 rfl rfl rfl rfl je (.take .nil) .z<|k40 1 rfl<|zw (zc 0 v8 rfl rfl rfl)<|zw (zc 0 v8 rfl rfl rfl)<|zm (ag3 rfl rfl rfl) zP (zlx zL zL) (.n) ?_
 rintro ⟨p32,c33,hs4⟩ hul
 refine ztG (fun w mm=>mm.rmFreeze 0 1 rfl rfl ((Mx.Je nM nM _ hul).hl) ((Mx.Je nM nM _ hul).rl)) ?_
 try dsimp only [yae]
 refine zm (.c rfl (.c rfl .n)) zP (ziN (n9:=nM) (N:=(nM+nM)) (by first|rfl|assumption|omega|exact ⟨Oo,Oo⟩|exact yJ _ _ _|(rw [hUr _ om];done)|(intro i hi;rw [hUr i hi];done)|(intro i hi;rw [hUr i hi])) qB (by first|rfl|assumption|omega|exact ⟨Oo,Oo⟩|exact yJ _ _ _|(rw [hUr _ om];done)|(intro i hi;rw [hUr i hi];done)|(intro i hi;rw [hUr i hi])) (by first|rfl|assumption|omega|exact ⟨Oo,Oo⟩|exact yJ _ _ _|(rw [hUr _ om];done)|(intro i hi;rw [hUr i hi];done)|(intro i hi;rw [hUr i hi])) (by first|rfl|assumption|omega|exact ⟨Oo,Oo⟩|exact yJ _ _ _|(rw [hUr _ om];done)|(intro i hi;rw [hUr i hi];done)|(intro i hi;rw [hUr i hi])) (by first|rfl|assumption|omega|exact ⟨Oo,Oo⟩|exact yJ _ _ _|(rw [hUr _ om];done)|(intro i hi;rw [hUr i hi];done)|(intro i hi;rw [hUr i hi])) (by first|rfl|assumption|omega|exact ⟨Oo,Oo⟩|exact yJ _ _ _|(rw [hUr _ om];done)|(intro i hi;rw [hUr i hi];done)|(intro i hi;rw [hUr i hi])) (by first|rfl|assumption|omega|exact ⟨Oo,Oo⟩|exact yJ _ _ _|(rw [hUr _ om];done)|(intro i hi;rw [hUr i hi];done)|(intro i hi;rw [hUr i hi])) qB (by first|rfl|assumption|omega|exact ⟨Oo,Oo⟩|exact yJ _ _ _|(rw [hUr _ om];done)|(intro i hi;rw [hUr i hi];done)|(intro i hi;rw [hUr i hi]))) (vj 1 0 rfl rfl) ?_
 rintro ⟨a2,a3,a1⟩ hsl
 refine zB (zo ztJ rfl) (fun b8=> ?_)
 refine zh 0 rfl rfl rfl rfl zdu (.take .nil) .z<|ZI<|qe<|vk (.c (i:=1) rfl (.c (i:=1) rfl (.c (i:=0) rfl (.c (i:=2) rfl .n))))<|rd2 2<|qy 0 rfl (zc 2 Qx rfl rfl rfl)<|qy 1 rfl (zc 3 v8 rfl rfl rfl)<|vE 4 rfl (zc 1 v8 rfl rfl rfl)<|Zc (qP (i:=1) rfl)<|Zc (qP (i:=1) rfl)<|zt 2 (zmF (A:=[rowA 62 rV a2 a3 (oh a1 (nM+nM)),vp 32 rQ a1 (yq nM (nM+nM) (fun ii jj=>Mx.eB M (yq nM nM (fun ii jj=>yP ii jj)) nM ii jj))]) (OW:=[]) (first:=[]) (cap:=[]) kr rfl rfl rfl rfl (.c rfl (.c rfl .n)) zP (zdl (pA:=a2) (cA:=a3) (hs:=a1) (M:=(yq nM (nM+nM) (fun ii jj=>Mx.eB M (yq nM nM (fun ii jj=>yP ii jj)) nM ii jj))) (K:=nM) (N:=(nM+nM)) (nj:=nM) (b:=b) (hSm:=by exact Mx.Je _ _ _ hsl) (hK:=zL) (hN:=zL) (hnN:=zL) (hb0:=by exact Td.zsx hbM hb1) (hH:=zL)) (.n) ?_)
 rintro ⟨b4,M5,qs,b5,b6⟩ hred
 refine zC 3 rfl (vL ye rfl)<|zC 5 rfl (zhq rfl rfl)<|zU kr<|zi<|zx rfl (fun a4=> ?_) (fun a4=> ?_)
 exact absurd a4 (by have hq7:=(Td.inv_of hred.2.1 hnul hred.2.2 (yV hb1 (Mx.zhS b (yT nM)))).1;omega)
 refine vY ?_
 obtain ⟨a0,hRd,a6⟩:=hred
 have a7:=a0.l
 obtain ⟨hql,hinv⟩:=Td.inv_of hRd hnul a6 (yV hb1 (Mx.zhS b (yT nM)))
 refine JO (fun w mm=>mm.rmFreeze 0 1 rfl rfl (a0.hl) (a0.rl)) ?_
 try dsimp only [yae]
 refine vU 4 rfl (.s (.s (.s (.s .z))))<|vU 3 rfl (.s (.s (.s .z)))<|zv<|zw (zf (j:=0) 1 v8 rfl rfl rfl rfl)<|zw (zf (j:=0) 1 v8 rfl rfl rfl rfl)<|zE (v6 .n (.c rfl (.c rfl .n)))<|zm (ag3 rfl rfl rfl) zP (ziR zL zL (by exact a7) (by exact a0.r) qB zL zL) (sg3 0 2 1 rfl rfl rfl) ?_
 rintro ⟨a8,a9,b7⟩ hil
 refine Zp 2 rfl<|ZH (fun w mm=>mm.rmFreeze 0 1 rfl rfl ((Mx.Je nM nM _ hil).hl) ((Mx.Je nM nM _ hil).rl)) ?_
 try dsimp only [yae]
 exact vD rfl (a8,a9,(yq nM nM (fun ii jj=>Td.eW nM M5 ii jj))) hinv (zj rfl) (zj rfl) rfl oN (s0 rfl)
theorem zqX {pA:Option Addr} {cA:Nat} {A:List (List Rat)} (hA:Ro.m33 A):CB 205 [.slice pA 3 cA] [zI (rS rQ) pA cA A] (Y:=(Option Addr)×Nat) (fun y=> .tuple #[.slice (y.1) 3 (y.2),.int .i64 0]) (fun y=>[zI (rS rQ) (y.1) (y.2) (yG A)]):=by
 refine zg Tryz.func205 rfl rfl (fun c=> ?_)
 refine zN 0 rfl (fun hL0=> ?_)
 have a0:=hA.r 0 dd
 have a1:∀i,i<3→(A.getD i []).length=(A.getD 0 []).length:=fun i hi=>by rw [hA.r i hi,a0]
 refine jg 2 rfl<|jK 1 rfl<|qg (.c rfl .n) zP (Kr (by exact hA.l) (by first|rfl|assumption|omega|exact hA.l|exact hA.r|decide|exact ⟨Oo,Oo⟩) (by exact a1) (by first|rfl|assumption|omega|exact hA.l|exact hA.r|decide|exact ⟨Oo,Oo⟩) (by first|rfl|assumption|omega|exact hA.l|exact hA.r|decide|exact ⟨Oo,Oo⟩)) (qX 0 rfl) ?_
 refine jD 1 rfl<|vZ 2 rfl<|qW rfl ?_
 refine k80 1 rfl<|zm (.c rfl .n) zP (zbD (N:=3) (by exact hA.l) (by first|rfl|assumption|omega|exact hA.l|exact hA.r|decide|exact ⟨Oo,Oo⟩) (by first|rfl|assumption|omega|exact hA.l|exact hA.r|decide|exact ⟨Oo,Oo⟩) (by first|rfl|assumption|omega|exact hA.l|exact hA.r|decide|exact ⟨Oo,Oo⟩)) (qX 0 rfl) ?_
 rintro ⟨a2,a3⟩ -
 refine Zp 2 rfl ?_
 exact vD rfl (a2,a3) trivial (zj rfl) (zj rfl) rfl oN ((.e (j:=0) rfl (by rfl) .n))
theorem zku {pA:Option Addr} {cA:Nat} {A:List (List Rat)} (hA:Ro.m33 A):CB 122 [.slice pA 3 cA] [zI (rS rQ) pA cA A] (Y:=(Option Addr)×Nat) (fun y=> .slice (y.1) 3 (y.2)) (fun y=>[zI (rS rQ) (y.1) (y.2) (yG A)]):=by
 refine zg Tryz.func122 rfl rfl (fun c=> ?_)
 refine zN 0 rfl (fun hL0=> ?_)
 refine jS 1 rfl<|qJ rfl<|zm (qS rfl) zP (zqX qB) (qX 0 rfl) ?_
 rintro ⟨a0,a1⟩ -
 refine jD 5 rfl<|Zp 2 rfl ?_
 exact zq rfl (a0,a1) trivial (zj rfl) rfl oN (s0 rfl)
theorem zg8 {s:St} {pA:Option Addr} {cA:Nat} (hs:s.ok):CB 123 [.slice pA 3 cA] [zI (rS rQ) pA cA (Ro.inn s)] (Y:=(Option Addr)×Nat) (fun y=> .slice (y.1) 3 (y.2)) (fun y=>[zI (rS rQ) (y.1) (y.2) (Ro.kin s)]):=by
 refine zg Tryz.func123 rfl rfl (fun c=> ?_)
 refine zN 0 rfl (fun hL0=> ?_)
 refine jS 1 rfl<|qJ rfl<|zm (qS rfl) zP (zfC (b:=1) (by exact (Ro.zrT s).l) dd dd (by exact (Ro.zrT s).r) dd (by exact Ro.zs7 hs) dd (by exact Ro.zqz hs.f1)) (qX 0 rfl) ?_
 rintro ⟨a0,a1,B⟩ hinv
 refine jD 5 rfl<|Zp 2 rfl ?_
 have hBk:=Ro.zqC hs.f1 hinv
 exact zq rfl (a0,a1) trivial (zj rfl) rfl oN ((.e (j:=0) rfl (by rw [← hBk]) .n))
theorem zoZ {pA:Option Addr} {cA:Nat} {A:List (List Rat)} {p:Option Addr} {n:Nat} {cap:Nat} {Ls:List (List (List Rat))} (hnL:Ls.length=n) (hn4:n≤4) (hA:Ro.m33 A) (hbA:yO A 400) (hLs:∀i,i<Ls.length→Ro.m33 (Ls.getD i [])) (hbL:∀i,i<Ls.length→yO (Ls.getD i []) 400):CB 121 [.slice pA 3 cA,.slice p n cap] [zI (rS rQ) pA cA A,zI (rS (rS rQ)) p cap Ls] (Y:=(Option Addr)×Nat) (fun y=> .slice (y.1) 3 (y.2)) (fun y=>[zI (rS rQ) (y.1) (y.2) (Ro.pr A Ls)]):=by
 refine zg Tryz.func121 rfl rfl (fun c=> ?_)
 refine zN 0 rfl (fun hL0=> ?_)
 refine zN 1 rfl (fun hL1=> ?_)
 refine jg 1 rfl<|jK 1 rfl<|zE (vL yp rfl)<|vZ 1 rfl<|zk<|z5 (X:=Nat×(Option Addr)×Nat) (fun x=>x.1≤n) (fun x=>[(0,.slice (x.2.1) 3 (x.2.2)),(9,Vi x.1)]) [8,7,4] (fun x=>[]) (fun x=>[zI (rS rQ) (x.2.1) (x.2.2) (Ro.pr A (Ls.take x.1))]) [0,1] (fun x=>n - x.1) (0,pA,cA) (by exact yT _) (.c rfl (.e rfl vA .n)) oN ((.e (j:=0) rfl (by rfl) .n)) ?_
 rintro ⟨i,pP,cP⟩ hI
 dsimp only at hI
 refine jg 1 rfl<|zx rfl (fun h1=> ?_) (fun h1=> ?_)
 refine vY<|zk<|vg<|vX (zM (x0:=(Ls.getD i [])) 2 i rfl yp zdu rfl zL rfl rfl (gD (d:=[]) om)) ?_
 rintro ⟨b2,o3,p4,c5⟩ -
 refine zw (zf (j:=0) 0 Qx rfl rfl rfl rfl)<|vZ 1 rfl<|vM 2 rfl ?_
 have e6:(.slice p4 ((Ls.getD i []).length) c5:Value)= .slice p4 3 c5:=by rw [(hLs i om).l]
 rw [e6]
 refine zm (q7 rfl rfl) zP (zoY (by exact (Ro.zqw hA _).l) (by exact (Ro.zqw hA _).r) (by exact (hLs i om).l) (by exact (hLs i om).r) dd (by exact (Ro.zog hbA hbL i om).up (yV (Ro.zqy (show i≤3 by omega)) dd)) (by exact (hbL i om).up dd)) (vj 2 1 rfl rfl) ?_
 rintro ⟨a0,a1⟩ -
 refine qY 4 rfl<|zG<|zi<|zv<|zE (qj rfl rfl)<|qY 1 rfl<|zW ((i+1),a0,a1) (by show i+1≤n;omega) om (mR rfl) oN ((.e (j:=0) rfl (by rw [← Ro.zke om];rfl) (.of [4,5] rfl)))
 refine z7<|ze<|ze<|zn<|zi<|Zn 2 rfl ?_
 exact zq rfl (pP,cP) trivial (zj rfl) rfl oN ((.e (j:=0) rfl (by rw [yY om]) .n))
theorem zlB {p:Option Addr} {n:Nat} {cap:Nat} {l:List Cm} (hn:l.length=n) (hn9:n≤100) (hfr:∀jj,jj<n→Ro.fr (l.getD jj yA)):CC 35 [.slice p n cap] [zI (rI4 .i64) p cap l] (Y:=(Option Addr)×Nat×(List Cm)) (fun y=>(y.2.2.length≤100∧∀z,z∈y.2.2→z∈l∧Ro.nr z)) (fun y=> .slice (y.1) (y.2.2.length) (y.2.1)) (fun y=>[zI (rI4 .i64) (y.1) (y.2.1) (y.2.2)]):=by
 refine zg Tryz.func35 rfl rfl (fun c=> ?_)
 refine zN 0 rfl (fun hL0=> ?_)
 refine jS 1 rfl<|jn 1 rfl<|qe<|Zj 148 (rI4 .i64)<|k22 3 rfl<|zk<|z5 (X:=Nat×(Option Addr)×Nat×(List Cm)) (fun x=>x.1≤n∧x.2.2.2.length≤x.1∧∀z,z∈x.2.2.2→z∈l∧Ro.nr z) (fun x=>[(3,.slice (x.2.1) (x.2.2.2.length) (x.2.2.1)),(8,Vi x.1)]) [7,6,2] (fun x=>[rowA 148 (rI4 .i64) (x.2.1) (x.2.2.1) (x.2.2.2)]) (fun x=>[]) [0] (fun x=>n - x.1) (0,none,0,([]:List Cm)) (by exact ⟨yT _,yad _,fun z h=>by cases h⟩) (.e rfl vA (.e rfl vA .n)) ((.e (i:=0) rfl vA .n):zJ _ _ _) sN ?_
 rintro ⟨i,pR,cR,A⟩ hI
 dsimp only at hI
 try dsimp only
 obtain ⟨hi,hAl,hA⟩:=hI
 refine qe<|zv<|zE (zhq rfl rfl)<|jq<|zi<|qe<|zx rfl (fun h1=> ?_) (fun h1=> ?_)
 refine qN<|zi<|qe<|zk<|qe<|zv<|QL (x0:=(l.getD i yA)) 0 i rfl yB zcn rfl rfl rfl (by first|rfl|assumption|omega|(simp;done)) rfl rfl (gD (d:=yA) om) (fun b2 o3 a4=> ?_)
 obtain ⟨a0,a1,a2,a3⟩:=a4
 replace a0:=zu.1 a0
 replace a1:=zu.1 a1
 replace a2:=zu.1 a2
 replace a3:=zu.1 a3
 refine zw (zA (j:=0) 0 zjp rfl rfl rfl (.t4 .nil))<|zlU rfl rfl (zo zjq rfl) (fun b5=> ?_)
 refine VR 0 rfl rfl rfl rfl rfl zcn rfl (.t4 .nil) .z ?_
 refine jq<|zi<|qe ?_
 have hfi:=hfr i om
 unfold Ro.fr at hfi
 refine zv<|zE (zb yk rfl Qy rfl rfl)<|zE (zb yf rfl je rfl rfl)<|zw (zc 0 v8 rfl rfl rfl)<|zE (zb yk rfl Qy rfl rfl)<|zE (zb yf rfl je rfl rfl)<|zw (zc 0 v8 rfl rfl rfl)<|zE (JD (z:=(-((l.getD i yA).a))) rfl (Q9 om))<|zE (zb yk rfl Qy rfl rfl)<|zE (zb yf rfl je rfl rfl)<|zw (zc 0 v8 rfl rfl rfl)<|zE (zb yk rfl Qy rfl rfl)<|zE (zb yf rfl je rfl rfl)<|zw (zc 0 v8 rfl rfl rfl)<|zE (JD (z:=(-((l.getD i yA).b))) rfl (Q9 om))<|zE (zb yk rfl Qy rfl rfl)<|zE (zb yf rfl je rfl rfl)<|zw (zc 0 v8 rfl rfl rfl)<|zE (zb yk rfl Qy rfl rfl)<|zE (zb yf rfl je rfl rfl)<|zw (zc 0 v8 rfl rfl rfl)<|zE (JD (z:=(-((l.getD i yA).d))) rfl (Q9 om))<|zE (zb yk rfl Qy rfl rfl)<|zE (zb yf rfl je rfl rfl)<|zw (zc 0 v8 rfl rfl rfl)<|zE (zb yk rfl Qy rfl rfl)<|zE (zb yf rfl je rfl rfl)<|zw (zc 0 v8 rfl rfl rfl)<|zE (JD (z:=(-((l.getD i yA).w))) rfl (Q9 om))<|zE (zqR rfl rfl rfl rfl rfl rfl rfl rfl)<|zE (zr8 rfl rfl)<|jq<|zi<|zx rfl (fun a5=> ?_) (fun a5=> ?_)
 refine zv<|qJ rfl<|zw (za 0 zjp rfl rfl (.t4 .nil))<|Zy rfl rfl (z6 (enc:=fun z:Cm=>[.int .i64 z.a,.int .i64 z.b,.int .i64 z.d,.int .i64 z.w]) (ok:=okC .i64) (h1:=fun _=>rfl) (h2:=fun _=>rfl) (k:=1) yB zeq rfl dd dd dd (.c (x:=(⟨(l.getD i yA).a,(l.getD i yA).b,(l.getD i yA).d,(l.getD i yA).w⟩:Cm)) rfl rfl (fun _ _=>by exact ⟨zu.2 (by first|omega|decide|(dsimp only;omega)),zu.2 (by first|omega|decide|(dsimp only;omega)),zu.2 (by first|omega|decide|(dsimp only;omega)),zu.2 (by first|omega|decide|(dsimp only;omega))⟩) .n)) (fun b6 _=> ?_)
 refine qt 0 rfl .z<|Zz 2 rfl rfl rfl (qT 0 rfl yB zeq dd rfl rfl (by first|rfl|assumption|omega|(simp;done)) rfl (by first|rfl|assumption|omega|(simp;done)) om om) (fun _=>(.s (.s .z))) ?_
 rintro ⟨p7,c8⟩ -
 refine qY 1 rfl<|zG<|zi<|zv<|zE (qj rfl rfl)<|qY 1 rfl<|zW ((i+1),p7,c8,(A++([(⟨(l.getD i yA).a,(l.getD i yA).b,(l.getD i yA).d,(l.getD i yA).w⟩:Cm)]))) (by exact ⟨Oo,by rw [yU];show A.length+1≤i+1;omega,fun z hz=>by rcases List.mem_append.1 hz with h|h;exact hA z h;rw [List.mem_singleton.1 h];exact ⟨Ro.get_mem om,by unfold Ro.nr;show (-1000≤(l.getD i yA).a∧(l.getD i yA).a≤1000)∧(-1000≤(l.getD i yA).b∧(l.getD i yA).b≤1000)∧(-1000≤(l.getD i yA).d∧(l.getD i yA).d≤1000)∧(-1000≤(l.getD i yA).w∧(l.getD i yA).w≤1000);omega⟩⟩) om ((.e rfl (by simp) (.of rfl))) ((.c (i:=2) rfl .n):zJ _ _ _) ((.c (j:=2) rfl .n))
 refine qN<|zG<|zi<|zv<|zE (qm (z:=(((i+1):Nat):Int)) rfl rfl (Q9 om))<|qJ rfl<|jq<|zW ((i+1),pR,cR,A) (by dsimp only;exact ⟨Oo,Oo,hA⟩) (by dsimp only;omega) (mR rfl) (ho:=((.c (i:=1) rfl .n):zJ _ _ _)) ((.c (j:=1) rfl .n):q9 _ _ _)
 refine z7<|ze<|ze<|zn<|zi<|Zn 2 rfl<|vK 0 rfl .z ?_
 exact zq rfl (pR,cR,A) (⟨yV hAl (yV hi hn9),hA⟩) (zj rfl) rfl oN (s0 rfl)
theorem ziW {p:Option Addr} {n:Nat} {cap:Nat} {l:List Cm} (hn:l.length=n) (hall:∀jj,jj<n→Ro.nr (l.getD jj yA)):CA 109 [.slice p n cap] [zI (rI4 .i64) p cap l] (.int .i64 0):=by
 refine zg Tryz.func109 rfl rfl (fun c=> ?_)
 refine zN 0 rfl (fun hL0=> ?_)
 refine jg 1 rfl<|k12 3 rfl<|zk<|z5 (X:=Nat) (fun x=>x≤n) (fun x=>[(7,Vi x)]) [6,5] (fun x=>[]) (fun x=>[]) [0] (fun x=>n - x) 0 (by exact yT _) (.e rfl vA .n) oN sN ?_
 rintro i hI
 refine jg 1 rfl<|zx rfl (fun h1=> ?_) (fun h1=> ?_)
 refine vY<|zk<|vg<|qH 0 i rfl yB zcn rfl zL rfl rfl (gD (d:=yA) om) (fun b2 o3 a4=> ?_) (x0:=(l.getD i yA))
 obtain ⟨a0,a1,a2,a3⟩:=a4
 replace a0:=zu.1 a0
 replace a1:=zu.1 a1
 replace a2:=zu.1 a2
 replace a3:=zu.1 a3
 refine zw (zA (j:=0) 0 zjp rfl rfl rfl (.t4 .nil))<|zB (zo zjq rfl) (fun b5=> ?_)
 refine zh 0 rfl rfl rfl rfl zcn (.t4 .nil) .z<|Vj<|zE (zb yk rfl Qy rfl rfl)<|zE (zb yf rfl je rfl rfl)<|zw (zc 0 v8 rfl rfl rfl)<|zE (zb yk rfl Qy rfl rfl)<|zE (zb yf rfl je rfl rfl)<|zw (zc 0 v8 rfl rfl rfl)<|zE (zb yk rfl Qy rfl rfl)<|zE (zb yf rfl je rfl rfl)<|zw (zc 0 v8 rfl rfl rfl)<|zE (zb yk rfl Qy rfl rfl)<|zE (zb yf rfl je rfl rfl)<|zw (zc 0 v8 rfl rfl rfl)<|qZ (z6 (enc:=fun z:Int=>[.int .i64 z]) (ok:=Vb .i64) (h1:=fun _=>rfl) (h2:=fun _=>rfl) (k:=4) ye Ky rfl dd dd dd (.c (x:=(l.getD i yA).a) rfl rfl (fun _ _=>by exact zu.2 om) (.c (x:=(l.getD i yA).b) rfl rfl (fun _ _=>by exact zu.2 om) (.c (x:=(l.getD i yA).d) rfl rfl (fun _ _=>by exact zu.2 om) (.c (x:=(l.getD i yA).w) rfl rfl (fun _ _=>by exact zu.2 om) .n))))) (fun b6 _=> ?_)
 refine qt 0 rfl .z<|qg (qS rfl) zP (zks zL (by exact Ro.in4 (hall i om))) (qX 0 rfl)<|Vc<|qW rfl<|qN<|zG<|zi<|zv<|zE (qj rfl rfl)<|qY 1 rfl<|zW (i+1) (by show i+1≤n;omega) om (mR rfl) oN ((.c (j:=2) rfl .n))
 refine z7<|ze<|ze<|zn<|zi<|Zn 1 rfl ?_
 exact zq rfl () trivial (zj rfl) rfl oN sN
theorem Ks {pM:Option Addr} {nM:Nat} {cM:Nat} {M:List (List Rat)} (hnM:M.length=nM) (hn9:nM≤100) (hr:∀i,i<nM→(M.getD i []).length=3):CB 39 [.slice pM nM cM] [zI (rS rQ) pM cM M] (Y:=(Option Addr)×Nat) (fun y=> .slice (y.1) (M.flatten.length) (y.2)) (fun y=>[zI rQ (y.1) (y.2) (M.flatten)]):=by
 refine zg Tryz.func39 rfl rfl (fun c=> ?_)
 refine zN 0 rfl (fun hL0=> ?_)
 refine jS 1 rfl<|jn 1 rfl<|qe<|Zj 32 rQ<|k22 3 rfl<|zk<|z5 (X:=Nat×(Option Addr)×Nat×(List Rat)) (fun x=>x.1≤nM∧x.2.2.2=((M.take x.1).flatten)∧x.2.2.2.length=3*x.1) (fun x=>[(3,.slice (x.2.1) (x.2.2.2.length) (x.2.2.1)),(8,Vi x.1)]) [7,6,2] (fun x=>[rowA 32 rQ (x.2.1) (x.2.2.1) (x.2.2.2)]) (fun x=>[]) [0] (fun x=>nM - x.1) (0,none,0,([]:List Rat)) (by exact ⟨yT _,rfl,rfl⟩) (.e rfl vA (.e rfl vA .n)) ((.e (i:=0) rfl vA .n):zJ _ _ _) sN ?_
 rintro ⟨i,pR,cR,A⟩ hK
 dsimp only at hK
 obtain ⟨hi,hA,hAl⟩:=hK
 refine jg 1 rfl<|zx rfl (fun h1=> ?_) (fun h1=> ?_)
 refine vY<|zk<|vg<|vX (zM (x0:=(M.getD i [])) 0 i rfl ya vC rfl zL rfl rfl (gD (d:=[]) om)) ?_
 rintro ⟨b2,o3,p4,c5⟩ -
 dsimp only [aq,nq,cq]
 refine zw (zf (j:=0) 0 vF rfl rfl rfl rfl)<|vZ 1 rfl ?_
 have hri:=hr i om
 refine vM 2 rfl<|Zz 0 rfl rfl rfl (qT 1 rfl yb jf dd rfl rfl (by first|rfl|assumption|omega|(simp;done)) rfl (by first|rfl|assumption|omega|(simp;done)) om om) (fun _=> .z) ?_
 rintro ⟨p6,c7⟩ -
 refine qY 1 rfl<|zG<|zi<|zv<|zE (qj rfl rfl)<|qY 1 rfl<|zW ((i+1),p6,c7,(A++(M.getD i []))) (by exact ⟨Oo,by rw [hA];exact Ro.zdS om,by rw [yU,hr i om];omega⟩) om ((.e rfl (by simp) (.of rfl))) (o0 rfl) ((.c (j:=2) rfl .n))
 refine z7<|ze<|ze<|zn<|zi<|Zn 2 rfl<|vK 0 rfl .z ?_
 have a0:A=M.flatten:=by rw [hA,yY om]
 exact zq rfl (pR,cR) trivial (zj rfl) (by rw [← a0]) oN ((.e (j:=0) rfl (by rw [← a0]) .n))
theorem zo0 {k:Nat} (hk:1≤k∧k≤1000):jI yt 204 [.slice none 0 0,Vi k] [] [] (Y:=Nat×Nat) (fun y=>True) (fun y=> .slice (Sb y.1) 0 (y.2)) (fun y=>[rowA 32 rQ (Sb y.1) (y.2) ([])]) (fun y=>[]):=by
 refine zg Tryz.func204 rfl rfl (fun c=> ?_)
 refine jg 1 rfl<|k12 2 rfl<|zx rfl (fun h6=> ?_) (fun h6=> ?_)
 omega
 refine vY<|jK 2 rfl<|zE (zoI yb rfl)<|kS 2 rfl<|zE (qx (z:=0) rfl rfl (Q9 dd))<|zE (qx rfl rfl w6)<|jD 1 rfl<|vZ 2 rfl<|zx rfl (fun a0=> ?_) (fun a0=> ?_)
 refine zl2 rQ<|vM 2 rfl<|zE (zoI yb rfl)<|zE (ZW (hi:=0) yb qk rfl (.s rfl) (.inr ⟨_,rfl⟩) om)<|Vf (V3 0 rfl 0 om) (fun _ _=> ?_)
 refine qJ rfl ?_
 have e1:((((k:Nat):Int) - 0):Int)=((k:Nat):Int):=Oo
 rw [e1]
 refine qZ (ziE (r:=rQ) (k:=k) yb yi jf dd rfl rfl rfl om om om) ?_
 rintro ⟨b2,c3⟩ -
 refine kS 2 rfl<|zE (ZW (hi:=0) yb qk rfl (.s rfl) (.inr ⟨_,rfl⟩) om)<|jD 1 rfl<|Zp 2 rfl ?_
 exact zq rfl (b2,c3) trivial (zj rfl) rfl (o0 rfl) sN
 omega
theorem ziX {pM:Option Addr} {nM:Nat} {cM:Nat} {M:List (List Rat)} (hnM:M.length=nM) (hn9:nM≤100) (hr:∀i,i<nM→(M.getD i []).length=3) (h1:1≤nM):CB 120 [.slice pM nM cM] [zI (rS rQ) pM cM M] (Y:=(Option Addr)×Nat) (fun y=> .slice (y.1) (M.flatten.length) (y.2)) (fun y=>[zI rQ (y.1) (y.2) (M.flatten)]):=by
 refine zg Tryz.func120 rfl rfl (fun c=> ?_)
 refine zN 0 rfl (fun hL0=> ?_)
 refine jS 1 rfl<|jn 1 rfl<|jK 1 rfl<|zE (vL yC rfl)<|vZ 1 rfl<|zk<|z5 (X:=Nat) (fun x=>x≤nM) (fun x=>[(3,Vi (3*x)),(11,Vi x)]) [10,9,2,0] (fun x=>[]) (fun x=>[]) [0] (fun x=>nM - x) 0 (by exact yT _) (.e rfl vA (.e rfl vA .n)) oN sN ?_
 rintro i hI
 refine jg 1 rfl<|zx rfl (fun h1=> ?_) (fun h1=> ?_)
 refine vY<|zk<|qe ?_
 have hri:=hr i om
 refine zv<|vX (zM (x0:=(M.getD i [])) 0 i rfl yC vC rfl zL rfl rfl (gD (d:=[]) om)) ?_
 rintro ⟨b2,o3,p4,c5⟩ -
 refine zw (zf (j:=0) 0 vF rfl rfl rfl rfl)<|jD 1 rfl<|kS 3 rfl<|zE (qm rfl rfl w6)<|jD 1 rfl<|vZ 2 rfl<|zx rfl (fun a1=> ?_) (fun a1=> ?_)
 omega
 refine qN<|zG<|zi<|zv<|zE (qj rfl rfl)<|qY 1 rfl<|zW (i+1) (show (i+1)≤nM from by show i+1≤nM;omega) (by show nM - (i+1)<nM - i;omega) ((.e rfl (by first|rfl|(congr 1;done)|(congr 1;omega)) (.of rfl)):vQ _ _) (ho:=oN) ((.c (j:=2) rfl .n):q9 _ _ _)
 refine z7<|ze<|ze<|zn<|zi<|jK 1 rfl<|zm (q7 rfl rfl) zP (zo0 zL) (.n) ?_
 rintro ⟨a2,a3⟩ -
 refine jn 1 rfl<|jK 1 rfl<|zE (vL yC rfl)<|vZ 1 rfl<|zk<|z5 (X:=Nat×(Option Addr)×Nat×(List Rat)) (fun x=>x.1≤nM∧x.2.2.2=((M.take x.1).flatten)∧x.2.2.2.length=3*x.1) (fun x=>[(6,.slice (x.2.1) (x.2.2.2.length) (x.2.2.1)),(27,Vi x.1)]) [26,25,2] (fun x=>[rowA 32 rQ (x.2.1) (x.2.2.1) (x.2.2.2)]) (fun x=>[]) [0] (fun x=>nM - x.1) (0,Sb a2,a3,([]:List Rat)) (by exact ⟨yT _,rfl,rfl⟩) (.e rfl vA (.e rfl vA .n)) ((.e (i:=0) rfl vA .n):zJ _ _ _) sN ?_
 rintro ⟨i,pR,cR,A⟩ hK
 dsimp only at hK
 obtain ⟨hi,hA,hAl⟩:=hK
 refine jg 1 rfl<|zx rfl (fun h8=> ?_) (fun h8=> ?_)
 refine vY<|zk<|qe ?_
 have hri:=hr i om
 refine zv<|vX (zM (x0:=(M.getD i [])) 0 i rfl yC vC rfl zL rfl rfl (gD (d:=[]) om)) ?_
 rintro ⟨b9,o10,p11,c12⟩ -
 dsimp only [aq,nq,cq]
 refine zw (zf (j:=0) 0 vF rfl rfl rfl rfl)<|vZ 1 rfl<|vM 2 rfl<|vO 0 rfl (qT 1 rfl yb jf dd rfl rfl (by first|rfl|assumption|omega|(simp;done)) rfl (by first|rfl|assumption|omega|(simp;done)) om om) (fun _=> .z) ?_
 rintro ⟨a4,a5⟩ -
 refine qY 1 rfl<|zG<|zi<|zv<|zE (qj rfl rfl)<|qY 1 rfl<|zW ((i+1),a4,a5,(A++(M.getD i []))) (by exact ⟨Oo,by rw [hA];exact Ro.zdS om,by rw [yU,hr i om];omega⟩) om ((.e rfl (by simp) (.of rfl))) (o0 rfl) ((.c (j:=2) rfl .n))
 refine z7<|ze<|ze<|zn<|zi<|Zn 2 rfl<|vK 0 rfl .z ?_
 have a0:A=M.flatten:=by rw [hA,yY om]
 exact zq rfl (pR,cR) trivial (zj rfl) (by rw [← a0]) oN ((.e (j:=0) rfl (by rw [← a0]) .n))
theorem zo1 {p:Option Addr} {cap:Nat} {l:List Rat} (hl9:l.length=9) (hb:∀i,yr (l.getD i 0)≤100000) (h0:∃i,i<l.length∧l.getD i 0≠0):CB 119 [.slice p 9 cap] [zI rQ p cap l] (Y:=(Option Addr)×Nat) (fun y=> .slice (y.1) 3 (y.2)) (fun y=>[zI (rS rQ) (y.1) (y.2) (Ro.Qu (yE (ys l)))]):=by
 refine zg Tryz.func119 rfl rfl (fun c=> ?_)
 refine zN 0 rfl (fun hL0=> ?_)
 have hpl:=Ro.zaP l
 have hrl:=Ro.zdg (ys l)
 have hscl:∀i,Big.ln (Ro.sc l i)≤1100000:=fun i=>by have h9:=Ro.zoo hb i;rw [hl9] at h9;omega
 refine jS 1 rfl<|jn 1 rfl<|qe<|Zj 32 rQ<|vM 1 rfl<|zm (qS rfl) zP (zoW qB zL qB qB) (qX 0 rfl) ?_
 rintro ⟨p31,c32⟩ -
 refine zE (vL yn rfl)<|vZ 1 rfl<|zk<|z5 (X:=Nat×(Option Addr)×Nat×(List Rat)) (fun x=>x.1≤(ys l).length∧x.2.2.2=yE ((ys l).take x.1)) (fun x=>[(3,.slice (x.2.1) (x.2.2.2.length) (x.2.2.1)),(9,Vi x.1)]) [8,7] (fun x=>[rowA 32 rQ (x.2.1) (x.2.2.1) (x.2.2.2)]) (fun x=>[]) [0] (fun x=>(ys l).length - x.1) (0,none,0,([]:List Rat)) (by exact ⟨yT _,rfl⟩) (.e rfl vA (.e rfl vA .n)) ((.e (i:=0) rfl vA .n):zJ _ _ _) sN ?_
 rintro ⟨i,pR,cR,A⟩ hI
 dsimp only at hI
 try dsimp only
 obtain ⟨hi,hA⟩:=hI
 have hAl:A.length=i:=by rw [hA,Ro.zdg,yac];omega
 refine qe<|zv<|zE (zhq rfl rfl)<|jq<|zi<|qe<|zx rfl (fun h3=> ?_) (fun h3=> ?_)
 refine qN<|zi<|qe<|zk<|qe<|zv<|zdA rfl rfl (zM (x0:=((ys l).getD i (0:Int))) 0 i rfl yn z8 rfl (by first|rfl|assumption|omega|(simp;done)) rfl rfl (gD (d:=(0:Int)) om)) ?_
 rintro ⟨b4,o5,w6⟩ -
 dsimp only [aq,nq,cq]
 refine vd zeL<|zw (zA (j:=0) 0 z4 rfl rfl rfl (.t2 .nil))<|zlU rfl rfl (zo jo rfl) (fun b7=> ?_)
 refine VR 0 rfl rfl rfl rfl rfl z8 rfl (.t2 .nil) .z ?_
 refine jq<|zi ?_
 have hpn:=Ro.zkf h0 hscl i
 refine zv<|qJ rfl<|zw (za 0 z4 rfl rfl (.t2 .nil))<|zfJ rfl rfl (.c rfl .n) zP (zoV (w1:=w6) (x1:=((ys l).getD i (0:Int))) (hl:=zL)) (.c (j:=1) rfl .n) ?_
 rintro ⟨a0,a1⟩ -
 dsimp only [aq,nq,cq]
 refine Zy rfl rfl (qA (r:=rQ) (k:=1) yb jf rfl dd dd dd (.c (x:=((((ys l).getD i (0:Int)):Int):Rat)) (cs:=[a0.b,a0.l,a1.b,a1.l]) (a0,a1) rfl rfl rfl (fun g hr=>Holds.get 0 rfl hr) .n)) (fun b10 _=> ?_)
 refine qt 0 rfl .z<|Zz 2 rfl rfl rfl (qT 0 rfl yb jf dd rfl rfl (by first|rfl|assumption|omega|(simp;done)) rfl (by first|rfl|assumption|omega|(simp;done)) om om) (fun _=>(.s (.s .z))) ?_
 rintro ⟨a2,a3⟩ -
 dsimp only [aq,nq,cq]
 refine zE (zT rfl)<|jq<|zG<|zi<|zv<|zE (qm (z:=(((i+1):Nat):Int)) rfl rfl (Q9 om))<|qJ rfl<|jq<|zW ((i+1),a2,a3,(A++([((((ys l).getD i (0:Int)):Int):Rat)]))) (show (i+1)≤(ys l).length∧(A++([((((ys l).getD i (0:Int)):Int):Rat)]))=yE ((ys l).take (i+1)) from by exact ⟨Oo,by rw [hA];exact Ro.zlk om⟩) (by show (ys l).length - (i+1)<(ys l).length - i;omega) ((.e rfl (by simp) (.of rfl)):vQ _ _) (ho:=((.c (i:=2) rfl .n):zJ _ _ _)) ((.c (j:=4) rfl .n):q9 _ _ _)
 refine z7<|ze<|ze<|zn<|zi<|qe ?_
 have a4:(.slice pR (A.length) cR:Value)= .slice pR 9 cR:=by rw [show A.length=9 by omega]
 rw [a4]
 have a5:A=(yE (ys l)):=by rw [hA,yY om]
 rw [a5]
 refine Z7 0 rfl .z<|zN 0 rfl (fun hLc=> ?_)
 refine We (OW:=[]) (O:=[emA]) 100000 mixed (.then .ret) kr ?_
 refine zcF 0 rfl rfl rfl ?_
 refine KR 1 rfl rfl (zbm (hi:=3) yb qk rfl rfl rfl om) ?_
 refine vi (zbn 0 rfl 3 om)<|zQ 2 rfl rfl ?_
 refine zC 3 rfl (zdj (lo:=3) (hi:=6) yb qk rfl rfl rfl rfl om om) ?_
 refine vi (zec 1 rfl 3 6 om om)<|zQ 4 rfl rfl ?_
 refine zC 5 rfl (KE (lo:=6) (hi:=9) yb qk rfl (.s rfl) .n (.inr ⟨_,rfl⟩) (.inl ⟨rfl,rfl⟩) om om) ?_
 refine ZG (zcj 2 rfl 6 9 om om) (fun _ _=> ?_)
 have a6:(.slice pR 3 3:Value)= .slice pR (((yE (ys l)).take 3).length) 3:=by rw [show ((yE (ys l)).take 3).length=3 by rw [yac];omega]
 rw [a6]
 have a7:(.slice (Z9 pR 6 3 4) (6 - 3) (6 - 3):Value)= .slice (Z9 pR 6 3 4) ((((yE (ys l)).take 6).drop 3).length) (6 - 3):=by rw [show (((yE (ys l)).take 6).drop 3).length=6 - 3 by rw [List.length_drop,yac];omega]
 rw [a7]
 have a8:(.slice (Z9 pR cR 6 4) (9 - 6) (cR - 6):Value)= .slice (Z9 pR cR 6 4) ((((yE (ys l)).take 9).drop 6).length) (cR - 6):=by rw [show (((yE (ys l)).take 9).drop 6).length=9 - 6 by rw [List.length_drop,yac];omega]
 rw [a8]
 refine zt 6 (V5 rfl (qA (r:=rS rQ) (k:=3) ya Z2 rfl dd dd dd (.c (x:=((yE (ys l)).take 3)) (cs:=[.slice pR (((yE (ys l)).take 3).length) 3]) (pR,3) rfl rfl rfl (fun g hr=>Holds.get 2 rfl hr) (.c (x:=(((yE (ys l)).take 6).drop 3)) (cs:=[.slice (Z9 pR 6 3 4) ((((yE (ys l)).take 6).drop 3).length) (6 - 3)]) ((Z9 pR 6 3 4),(6 - 3)) rfl rfl rfl (fun g hr=>Holds.get 1 rfl hr) (.c (x:=(((yE (ys l)).take 9).drop 6)) (cs:=[.slice (Z9 pR cR 6 4) ((((yE (ys l)).take 9).drop 6).length) (cR - 6)]) ((Z9 pR cR 6 4),(cR - 6)) rfl rfl rfl (fun g hr=>Holds.get 0 rfl hr) .n)))) (fun a9 _=> ?_))
 refine zC 7 rfl (zT rfl)<|zU kr<|zi<|vv ?_
 have b1:[((yE (ys l)).take 3),(((yE (ys l)).take 6).drop 3),(((yE (ys l)).take 9).drop 6)]=(Ro.Qu (yE (ys l))):=by rw [yY (show (yE (ys l)).length≤9 by omega)];rfl
 rw [b1]
 refine vK 0 rfl .z ?_
 exact zq rfl (Sb a9,3) trivial (zj rfl) rfl oN (s0 rfl)
theorem zg9 {s:St} {t:St} (hs:s.ok) (ht:t.ok) (hne:¬(s.x=t.x∧s.y=t.y∧s.z=t.z)):CB 38 [.agg #[.int .i64 (s.x),.int .i64 (s.y),.int .i64 (s.z),.int .i64 (s.a),.int .i64 (s.b),.int .i64 (s.c),.int .i64 (s.d),.int .i64 (s.f),.int .i64 (s.u),.int .i64 (s.v)],.agg #[.int .i64 (t.x),.int .i64 (t.y),.int .i64 (t.z),.int .i64 (t.a),.int .i64 (t.b),.int .i64 (t.c),.int .i64 (t.d),.int .i64 (t.f),.int .i64 (t.u),.int .i64 (t.v)]] [] (Y:=(Option Addr)×Nat) (fun y=> .tuple #[.slice (y.1) 3 (y.2),.int .i64 0]) (fun y=>[zI (rS rQ) (y.1) (y.2) (Ro.Qu (yE (ys (Ro.Vx s t))))]):=by
 refine zg Tryz.func38 rfl rfl (fun c=> ?_)
 obtain ⟨⟨hsx,hsy,hsz⟩,⟨hsu,hsv,hsf⟩,hsa,hsb,hsc,hsd⟩:=hs.p
 obtain ⟨⟨htx,hty,htz⟩,⟨htu,htv,htf⟩,hta,htb,htc,htd⟩:=ht.p
 have hsq:=hs.q
 have htq:=ht.q
 unfold yu at hsx hsy hsz htx hty htz
 have us:=And.intro hsu (And.intro hsv (And.intro hsf (And.intro hsa (And.intro hsb (And.intro hsc hsd)))))
 have ut:=And.intro htu (And.intro htv (And.intro htf (And.intro hta (And.intro htb (And.intro htc htd)))))
 unfold yu at us ut
 refine vg<|zB (zX rfl rfl) (fun b1=> ?_)
 refine zB (zX rfl rfl) (fun b2=> ?_)
 refine jn 2 rfl<|qe<|zv<|zw (za 1 JQ rfl rfl (.t8 (.t2 .nil)))<|zw (za 0 JQ rfl rfl (.t8 (.t2 .nil)))<|qZ (z6 (enc:=fun z:St=>[.int .i64 z.x,.int .i64 z.y,.int .i64 z.z,.int .i64 z.a,.int .i64 z.b,.int .i64 z.c,.int .i64 z.d,.int .i64 z.f,.int .i64 z.u,.int .i64 z.v]) (ok:=zhW .i64) (h1:=fun _=>rfl) (h2:=fun _=>rfl) (k:=2) yw zrg rfl dd dd dd (.c (x:=(⟨s.x,s.y,s.z,s.a,s.b,s.c,s.d,s.f,s.u,s.v⟩:St)) rfl rfl (fun _ _=>by exact ⟨zu.2 (by first|omega|decide|(dsimp only;omega)),zu.2 (by first|omega|decide|(dsimp only;omega)),zu.2 (by first|omega|decide|(dsimp only;omega)),zu.2 (by first|omega|decide|(dsimp only;omega)),zu.2 (by first|omega|decide|(dsimp only;omega)),zu.2 (by first|omega|decide|(dsimp only;omega)),zu.2 (by first|omega|decide|(dsimp only;omega)),zu.2 (by first|omega|decide|(dsimp only;omega)),zu.2 (by first|omega|decide|(dsimp only;omega)),zu.2 (by first|omega|decide|(dsimp only;omega))⟩) (.c (x:=(⟨t.x,t.y,t.z,t.a,t.b,t.c,t.d,t.f,t.u,t.v⟩:St)) rfl rfl (fun _ _=>by exact ⟨zu.2 (by first|omega|decide|(dsimp only;omega)),zu.2 (by first|omega|decide|(dsimp only;omega)),zu.2 (by first|omega|decide|(dsimp only;omega)),zu.2 (by first|omega|decide|(dsimp only;omega)),zu.2 (by first|omega|decide|(dsimp only;omega)),zu.2 (by first|omega|decide|(dsimp only;omega)),zu.2 (by first|omega|decide|(dsimp only;omega)),zu.2 (by first|omega|decide|(dsimp only;omega)),zu.2 (by first|omega|decide|(dsimp only;omega)),zu.2 (by first|omega|decide|(dsimp only;omega))⟩) .n))) (fun b3 _=> ?_)
 have e4:([(⟨s.x,s.y,s.z,s.a,s.b,s.c,s.d,s.f,s.u,s.v⟩:St),(⟨t.x,t.y,t.z,t.a,t.b,t.c,t.d,t.f,t.u,t.v⟩:St)]:List St)=([s,t]:List St):=by exact rfl
 rw [e4]
 refine qt 0 rfl .z<|qg (qS rfl) zP (zfB qB qB) (qX 0 rfl)<|jD 1 rfl<|vZ 2 rfl<|qW rfl<|vY<|vg<|zE (zb yd rfl VS rfl rfl)<|zw (za 2 zfQ rfl rfl (.t2 (.take .nil)))<|zE (zb yd rfl VS rfl rfl)<|zw (za 1 zfQ rfl rfl (.t2 (.take .nil)))<|zE (J3 (p:=s.x=t.x∧s.y=t.y∧s.z=t.z) kr rfl rfl (V7 yg kr (Zm dd v8 rfl rfl (Zl yi) (Zm dd v8 rfl rfl (Zl yi) (Zm dd v8 rfl rfl (Zl yi) zac)))) (by simp [Bool.decide_and]))<|Vc<|zx rfl (fun a0=> ?_) (fun a0=> ?_)
 exact absurd a0 hne
 refine vY<|Jo 100000<|zC 0 rfl (zb yd rfl VS rfl rfl)<|zC 1 rfl (zb yg rfl je rfl rfl)<|vE 2 rfl (zc 1 v8 rfl rfl rfl)<|zC 3 rfl (zb yd rfl VS rfl rfl)<|zC 4 rfl (zb yg rfl je rfl rfl)<|vE 5 rfl (zc 2 v8 rfl rfl rfl)<|zC 6 rfl (qx rfl rfl w6)<|zC 7 rfl (zb yd rfl VS rfl rfl)<|zC 8 rfl (zb yg rfl je rfl rfl)<|vE 9 rfl (zc 1 v8 rfl rfl rfl)<|zC 10 rfl (zb yd rfl VS rfl rfl)<|zC 11 rfl (zb yg rfl je rfl rfl)<|vE 12 rfl (zc 2 v8 rfl rfl rfl)<|zC 13 rfl (qx rfl rfl w6)<|zC 14 rfl (zb yd rfl VS rfl rfl)<|zC 15 rfl (zb yg rfl je rfl rfl)<|vE 16 rfl (zc 1 v8 rfl rfl rfl)<|zC 17 rfl (zb yd rfl VS rfl rfl)<|zC 18 rfl (zb yg rfl je rfl rfl)<|vE 19 rfl (zc 2 v8 rfl rfl rfl)<|zC 20 rfl (qx rfl rfl w6)<|zC 21 rfl (zT rfl)<|zC 22 rfl (zT rfl)<|zC 23 rfl (zT rfl)<|zU kr<|zi<|jK 1 rfl<|zE (JD (z:=(-(t.z - s.z))) rfl (Q9 om))<|qJ rfl<|qZ (z6 (enc:=fun z:Int=>[.int .i64 z]) (ok:=Vb .i64) (h1:=fun _=>rfl) (h2:=fun _=>rfl) (k:=3) ye Ky rfl dd dd dd (.c (x:=0) rfl rfl (fun _ _=>by exact zu.2 om) (.c (x:=(-(t.z - s.z))) rfl rfl (fun _ _=>by exact zu.2 om) (.c (x:=(t.y - s.y)) rfl rfl (fun _ _=>by exact zu.2 om) .n)))) (fun b5 _=> ?_)
 refine kS 2 rfl<|zE (JD (z:=(-(t.x - s.x))) rfl (Q9 om))<|qZ (z6 (enc:=fun z:Int=>[.int .i64 z]) (ok:=Vb .i64) (h1:=fun _=>rfl) (h2:=fun _=>rfl) (k:=3) ye Ky rfl dd dd dd (.c (x:=(t.z - s.z)) rfl rfl (fun _ _=>by exact zu.2 om) (.c (x:=0) rfl rfl (fun _ _=>by exact zu.2 om) (.c (x:=(-(t.x - s.x))) rfl rfl (fun _ _=>by exact zu.2 om) .n)))) (fun b6 _=> ?_)
 refine qJ rfl<|zE (JD (z:=(-(t.y - s.y))) rfl (Q9 om))<|qJ rfl<|qZ (z6 (enc:=fun z:Int=>[.int .i64 z]) (ok:=Vb .i64) (h1:=fun _=>rfl) (h2:=fun _=>rfl) (k:=3) ye Ky rfl dd dd dd (.c (x:=(-(t.y - s.y))) rfl rfl (fun _ _=>by exact zu.2 om) (.c (x:=(t.x - s.x)) rfl rfl (fun _ _=>by exact zu.2 om) (.c (x:=0) rfl rfl (fun _ _=>by exact zu.2 om) .n)))) (fun b7 _=> ?_)
 refine qt 0 rfl .z<|qt 1 rfl (.s .z)<|qt 2 rfl (.s (.s .z))<|qZ (qA (r:=rS (rI .i64)) (k:=3) yj zma rfl dd dd dd (.c (x:=[0,(-(t.z - s.z)),(t.y - s.y)]) (cs:=[.slice (Sb b5) 3 3]) (Sb b5,3) rfl rfl rfl (fun g hr=>Holds.get 0 rfl hr) (.c (x:=[(t.z - s.z),0,(-(t.x - s.x))]) (cs:=[.slice (Sb b6) 3 3]) (Sb b6,3) rfl rfl rfl (fun g hr=>Holds.get 1 rfl hr) (.c (x:=[(-(t.y - s.y)),(t.x - s.x),0]) (cs:=[.slice (Sb b7) 3 3]) (Sb b7,3) rfl rfl rfl (fun g hr=>Holds.get 2 rfl hr) .n)))) (fun b8 _=> ?_)
 refine qt 0 rfl .z<|zm (.c rfl .n) zP (zkt (by first|rfl|assumption|omega|exact Ro.r33 rfl rfl rfl|exact Ro.zdh _|exact Ro.zdi _ _ _ _|exact Ro.zaN _) (by first|rfl|assumption|omega|exact Ro.r33 rfl rfl rfl|exact Ro.zdh _|exact Ro.zdi _ _ _ _|exact Ro.zaN _)) (qX 0 rfl) ?_
 rintro ⟨a1,a2⟩ -
 have b9:(Ro.ofI ([([0,(-(t.z - s.z)),(t.y - s.y)]),([(t.z - s.z),0,(-(t.x - s.x))]),([(-(t.y - s.y)),(t.x - s.x),0])]):List (List Rat))=Ro.crs s t:=by rfl
 rw [b9]
 refine jD 1 rfl<|zE (zb yd rfl zep rfl rfl)<|zw (za 6 zae rfl rfl (.s2 (.skip (.t4 .nil))))<|zm (qS rfl) zP (zg3 zL zL zL zL zL) (.n) ?_
 rintro ⟨a3,a4⟩ -
 refine jD 5 rfl<|zE (zb yd rfl zep rfl rfl)<|zw (za 5 zae rfl rfl (.s2 (.skip (.t4 .nil))))<|zm (qS rfl) zP (zg3 zL zL zL zL zL) (.n) ?_
 rintro ⟨c5,c6⟩ -
 refine jn 5 rfl<|Jo 100000<|vE 0 rfl (za 5 JQ rfl rfl (.t8 (.t2 .nil)))<|zQ 4 rfl rfl<|zQ 6 rfl rfl<|zQ 7 rfl rfl<|vE 8 rfl (za 6 JQ rfl rfl (.t8 (.t2 .nil)))<|zt 1 (zp rfl (qS rfl) zP (zed (by exact ht)) (.n) ?_)
 rintro ⟨c7,c8⟩ -
 refine zt 2 (zp rfl (qS rfl) zP (zg8 (by exact ht)) (qX 0 rfl) ?_)
 rintro ⟨c9,d0⟩ -
 dsimp only [aq,nq,cq]
 refine zt 3 (zp rfl (.c rfl .n) zP (zku (by first|rfl|assumption|omega|exact Ro.r33 rfl rfl rfl|exact Ro.zdh _|exact Ro.zdi _ _ _ _|exact Ro.zaN _)) (qX 0 rfl) ?_)
 rintro ⟨d1,d4⟩ -
 dsimp only [aq,nq,cq]
 refine zt 5 (zp rfl (.c rfl .n) zP (zku (by first|rfl|assumption|omega|exact Ro.r33 rfl rfl rfl|exact Ro.zdh _|exact Ro.zdi _ _ _ _|exact Ro.zaN _)) (qX 3 rfl) ?_)
 rintro ⟨a5,a6⟩ -
 refine zt 9 (zp rfl (qS rfl) zP (zed (by exact hs)) (.n) ?_)
 rintro ⟨d5,d6⟩ -
 refine zt 10 (zp rfl (qS rfl) zP (zg8 (by exact hs)) (qX 0 rfl) ?_)
 rintro ⟨a7,a8⟩ -
 refine zt 11 (V5 rfl (qA (r:=rS (rS rQ)) (k:=4) yp zrf rfl dd dd dd (.c (x:=(yG (yo t.a t.b t.c t.d))) (cs:=[.slice a5 3 a6]) (a5,a6) rfl rfl rfl (fun g hr=>Holds.get 2 rfl hr) (.c (x:=(Ro.crs s t)) (cs:=[.slice a1 3 a2]) (a1,a2) rfl rfl rfl (fun g hr=>Holds.get 8 rfl hr) (.c (x:=(yo s.a s.b s.c s.d)) (cs:=[.slice a3 3 a4]) (a3,a4) rfl rfl rfl (fun g hr=>Holds.get 7 rfl hr) (.c (x:=(Ro.kin s)) (cs:=[.slice a7 3 a8]) (a7,a8) rfl rfl rfl (fun g hr=>Holds.get 0 rfl hr) .n))))) (fun b28 _=> ?_))
 refine Qw 0 rfl .z<|zt 12 (zp rfl (q7 rfl rfl) zP (zoZ (by rfl) dd (by exact Ro.zaN _) (by exact Ro.zov ht) (by exact Ro.zuD s t) (by exact Ro.zou hs ht)) (vj 4 0 rfl rfl) ?_)
 rintro ⟨d7,d8⟩ -
 refine zt 13 (zp rfl (qS rfl) zP (ziX (by exact (Ro.zqD s t).l) dd (by exact (Ro.zqD s t).r) dd) (qX 0 rfl) ?_)
 rintro ⟨a9,b4⟩ -
 have c1:((Ro.pr (yG (Ro.kin t)) ([(yG (yo t.a t.b t.c t.d)),(Ro.crs s t),(yo s.a s.b s.c s.d),(Ro.kin s)])).flatten:List Rat)=(Ro.Vx s t):=by rfl
 rw [c1]
 have c2:(.slice a9 ((Ro.Vx s t).length) b4:Value)= .slice a9 9 b4:=by rw [Ro.JC]
 rw [c2]
 refine zt 14 (zp rfl (qS rfl) zP (zo1 (by exact Ro.JC s t) (by exact Ro.zow hs ht) (by exact Ro.zfu hs ht hne)) (qX 0 rfl) ?_)
 rintro ⟨c3,c4⟩ -
 refine zC 15 rfl (zT rfl)<|zC 16 rfl (zT rfl)<|zU kr<|zi<|vv ?_
 exact vD rfl (c3,c4) trivial (zj rfl) (zj rfl) rfl oN (s0 rfl)
end Sp
namespace Ro
open Mx Big
def ex1:St:=⟨0,0,0,1,0,0,0,64,0,0⟩
def ex2:St:=⟨10,0,0,1,0,0,0,64,0,0⟩
theorem ztn:ex1.ok:=⟨Od,Od,by unfold s5;decide⟩
theorem zto:ex2.ok:=⟨Od,Od,by unfold s5;decide⟩
theorem K8 (s t:St):(ZM (jN (Vx s t))).length=9:=by rw [zdg,zaP,JC]
theorem zo2:((Qu (ZM (jN (Vx ex1 ex2)))).getD 1 []).length=3:=zaM (K8 _ _) Od
theorem zr4:((Qu (ZM (jN (Vx ex1 ex2)))).getD 1 []).getD 2 0=((1:Int):Rat):=Oz
theorem zr5 {i:Nat} (h:i<9):(yZ 9).getD i 0<9:=by
  rw [List.getD_eq_getElem?_getD,List.getElem?_range h];exact h
end Ro
namespace Sp
open Go
set_option maxRecDepth 100000
set_option maxHeartbeats 8000000
variable {A B M:List (List Rat)} {K N bA cA cB n9 nA nB:Nat} {pA pB:Option Addr} {w1:Wd}
theorem ziY:CA 33 [] [] (.bool true):=by
 refine zg Tryz.func33 rfl rfl (fun c=> ?_)
 refine jS 1 rfl<|zE (qr zkK rfl yc (.c je (.c je (.c je (.c je .n)))) (.c rfl .n) (.c rfl rfl rfl (.take .nil) .n))<|zE (qr zkL rfl yd (.c VS (.c zep (.c je (.c Qy .n)))) (.c rfl (.c rfl .n)) (.c rfl rfl rfl (.s2 (.skip (.t4 .nil))) (.c rfl rfl rfl (.s4 (.s2 (.skip (.take .nil)))) .n)))<|zB (zo zkL rfl) (fun b1=> ?_)
 refine zh 0 rfl rfl rfl rfl zfR (.t8 (.t2 .nil)) .z<|Vj<|zw (za 0 JQ rfl rfl (.t8 (.t2 .nil)))<|zB (zo zkL rfl) (fun b2=> ?_)
 refine zh 0 rfl rfl rfl rfl zfR (.t8 (.t2 .nil)) .z<|Vj<|zE (zb yd rfl VS rfl rfl)<|zE (zb yg rfl je rfl rfl)<|zh 0 rfl rfl rfl rfl je (.take .nil) .z<|Vj<|zw (za 1 JQ rfl rfl (.t8 (.t2 .nil)))<|zw (za 0 JQ rfl rfl (.t8 (.t2 .nil)))<|zm q7 zP (zg9 (s:=Ro.ex1) (t:=Ro.ex2) (by exact Ro.ztn) (by exact Ro.zto) dd) (.n) ?_
 rintro ⟨p33,c34⟩ -
 refine jn 5 rfl<|vk .n<|Jo 100000<|zQ 0 rfl rfl<|zC 1 rfl (zce rfl rfl)<|zQ 2 rfl rfl<|zQ 3 rfl rfl<|zC 4 rfl (vL ya rfl)<|zC 5 rfl (zce rfl rfl)<|zC 6 rfl (jx rfl rfl)<|zQ 7 rfl rfl<|zQ 8 rfl rfl<|jc 9 rfl (zM (x0:=((Ro.Qu (yE (ys (Ro.Vx Ro.ex1 Ro.ex2)))).getD 1 [])) 0 1 rfl ya vC rfl zL rfl rfl (gD (d:=[]) (by rw [Ro.zb7];decide))) ?_
 rintro ⟨b5,o6,p7,c8⟩ -
 refine vE 10 rfl (zf (j:=0) 0 vF rfl rfl rfl rfl)<|zC 11 rfl (vL yb rfl)<|zC 12 rfl (zce rfl rfl) ?_
 rw [show (decide (((((Ro.Qu (yE (ys (Ro.Vx Ro.ex1 Ro.ex2)))).getD 1 []).length:Nat):Int)=3))=true from by exact decide_eq_true (by rw [Ro.zo2];rfl)]
 refine zC 13 rfl (jx rfl rfl)<|zQ 14 rfl rfl<|zQ 15 rfl rfl<|jc 16 rfl (zM (x0:=((Ro.Qu (yE (ys (Ro.Vx Ro.ex1 Ro.ex2)))).getD 1 [])) 2 1 rfl ya vC rfl zL rfl rfl (gD (d:=[]) (by rw [Ro.zb7];decide))) ?_
 rintro ⟨b9,o10,p11,c12⟩ -
 refine vE 17 rfl (zf (j:=0) 0 vF rfl rfl rfl rfl)<|jc 18 rfl (zM (x0:=(((Ro.Qu (yE (ys (Ro.Vx Ro.ex1 Ro.ex2)))).getD 1 []).getD 2 (0:Rat))) 1 2 rfl yb qk rfl zL rfl rfl (gD (d:=(0:Rat)) (by rw [Ro.zo2];decide))) ?_
 rintro ⟨b13,o14,w15,w17⟩ -
 refine vi qR<|vE 19 rfl (zA (j:=0) 0 qp rfl rfl rfl (.t4 .nil))<|zt 20 (zp rfl (qS rfl) zP (Qf zL) (.n) ?_)
 rintro ⟨a0,a1⟩ -
 refine zt 21 (jU rfl (q7 rfl rfl) zP (WC (by rw [Ro.zr4];decide)) (vj 2 0 rfl rfl) ?_)
 rw [show (decide ((((Ro.Qu (yE (ys (Ro.Vx Ro.ex1 Ro.ex2)))).getD 1 []).getD 2 (0:Rat))=((1:Int):Rat)))=true from by exact decide_eq_true Ro.zr4]
 refine zC 22 rfl (jx rfl rfl)<|zQ 23 rfl rfl<|zt 24 (zp rfl (.n) zP (zqQ) (.n) ?_)
 rintro ⟨a2,a3,a4,a5,a6,a7,a8,a9,b4⟩ -
 refine zt 25 (jU rfl (qS rfl) zP ziG (.c (j:=0) rfl (.c (j:=1) rfl (.c (j:=2) rfl (.c (j:=3) rfl (.c (j:=4) rfl (.c (j:=5) rfl (.c (j:=6) rfl (.c (j:=7) rfl (.c (j:=8) rfl .n))))))))) ?_)
 refine zC 26 rfl (jx rfl rfl)<|zC 27 rfl (zT rfl)<|zU kr<|zi<|vv ?_
 exact zq rfl () trivial (zj rfl) rfl oN sN
theorem zha {i0:Nat} {bW:Nat} {pW:Option Addr} {cW:Nat} {W:List Rat} {bT:Nat} {ut:Wd} {vt:Wd} {tt:Rat} {bY:Nat} {pY:Option Addr} {cY:Nat} {Y:List Rat} (hW9:W.length=9) (hY9:Y.length=9) (hbW:∀i,yr (W.getD i 0)≤3000000) (hbY:∀i,yr (Y.getD i 0)≤1000) (hbt:yr tt≤10000000) (hi0:i0<9):CA 45 [Vi i0,Vp bW,Vp bT,Vp bY] [j8 bW 0 [.slice pW 9 cW],zI rQ pW cW W,j8 bT 0 [ut.b,ut.l,vt.b,vt.l],qF true ut vt tt,j8 bY 0 [.slice pY 9 cY],zI rQ pY cY Y] (.bool (decide (¬(W.getD i0 0=tt*Y.getD i0 0)))):=by
 refine zg Tryz.func45 rfl rfl (fun c=> ?_)
 refine zN 1 rfl (fun hL1=> ?_)
 refine zN 5 rfl (fun hL5=> ?_)
 have hW1:=hbW i0
 have hY1:=hbY i0
 have hm1:=Big.jB tt (Y.getD i0 0)
 refine jg 1 rfl<|Jo 100000<|vE 0 rfl (zf (j:=0) 0 vF rfl rfl rfl rfl)<|zQ 1 rfl rfl<|jc 2 rfl (zM (x0:=(gQ W i0)) 1 i0 rfl yb qk rfl zL rfl rfl (gD (d:=(0:Rat)) om)) ?_
 rintro ⟨b1,o2,w3,w4⟩ -
 refine vi qR<|vE 3 rfl (zA (j:=0) 0 qp rfl rfl rfl (.t4 .nil))<|vE 4 rfl (zA (j:=0) 4 qp rfl rfl rfl (.t4 .nil))<|vE 5 rfl (zf (j:=0) 6 vF rfl rfl rfl rfl)<|zQ 6 rfl rfl<|jc 7 rfl (zM (x0:=(gQ Y i0)) 7 i0 rfl yb qk rfl zL rfl rfl (gD (d:=(0:Rat)) om)) ?_
 rintro ⟨b5,o6,w7,w9⟩ -
 dsimp only [aq,nq,cq]
 refine vi qR<|vE 8 rfl (zA (j:=0) 0 qp rfl rfl rfl (.t4 .nil)) ?_
 refine zt 9 (zp rfl (.c rfl (.c rfl .n)) zP (jH (k1:=true) (u1:=ut) (v1:=vt) (q1:=tt) (k2:=true) (u2:=w7) (v2:=w9) (q2:=(Y.getD i0 (0:Rat))) zL) (vj 7 1) ?_)
 rintro ⟨a0,a1⟩ -
 dsimp only [aq,nq,cq]
 refine zt 10 (jU rfl (.c rfl (.c rfl .n)) zP (WC (u1:=w3) (v1:=w4) (q1:=(W.getD i0 (0:Rat))) (u2:=a0) (v2:=a1) (q2:=tt*(Y.getD i0 (0:Rat))) zL) (vj 4 0) ?_)
 refine zC 11 rfl (Jr rfl)<|zC 12 rfl (zT rfl)<|zU kr<|zi<|vv ?_
 exact zq rfl () trivial (zj rfl) rfl oN sN
theorem ziZ {p:Option Addr} {cap:Nat} {bW:Nat} {pW:Option Addr} {cW:Nat} {W:List Rat} {bT:Nat} {ut:Wd} {vt:Wd} {tt:Rat} {bY:Nat} {pY:Option Addr} {cY:Nat} {Y:List Rat} (hW9:W.length=9) (hY9:Y.length=9) (hbW:∀i,yr (W.getD i 0)≤3000000) (hbY:∀i,yr (Y.getD i 0)≤1000) (hbt:yr tt≤10000000):CC 128 [.slice p 9 cap,.func (.func 45) #[] #[Vp bW,Vp bT,Vp bY]] [zI (rI .i64) p cap (yx (yZ 9)),j8 bW 0 [.slice pW 9 cW],zI rQ pW cW W,j8 bT 0 [ut.b,ut.l,vt.b,vt.l],qF true ut vt tt,j8 bY 0 [.slice pY 9 cY],zI rQ pY cY Y] (Y:=Int) (fun y=>((∀j,j<9→W.getD j 0=tt*Y.getD j 0)→y<0)) (fun y=> .int .i64 y) (fun y=>[]):=by
 refine zg Tryz.func128 rfl rfl (fun c=> ?_)
 refine zN 0 rfl (fun hL0=> ?_)
 refine zN 2 rfl (fun hL2=> ?_)
 refine zN 6 rfl (fun hL6=> ?_)
 have hrl:(yx (yZ 9)).length=9:=rfl
 refine jg 1 rfl<|k12 3 rfl<|zk<|z5 (X:=Nat) (fun x=>x≤9) (fun x=>[(8,Vi x)]) [7,0,1] (fun x=>[]) (fun x=>[]) [0,1,2,3,4,5,6] (fun x=>9 - x) 0 (by exact yT _) (.e rfl vA .n) oN sN ?_
 rintro i hI
 refine jg 1 rfl<|zx rfl (fun h1=> ?_) (fun h1=> ?_)
 refine vY<|zk<|jS 2 rfl<|kS 3 rfl<|qH 0 i rfl ye je rfl zL rfl rfl (gD (d:=0) om) (fun b2 o3 a0=> ?_) (x0:=((yx (yZ 9)).getD i 0))
 replace a0:=zu.1 a0
 refine zw (zf (j:=0) 0 v8 rfl rfl rfl rfl) ?_
 have e5:(((yx (yZ 9)).getD i 0):Int)=((((yZ 9).getD i 0):Nat):Int):=by exact Mx.zap
 rw [e5]
 refine ZP rfl (.c rfl .n) zP (zha qB qB qB qB qB (by exact Ro.zr5 om)) (.c (j:=2) rfl (.c (j:=3) rfl (.c (j:=4) rfl (.c (j:=5) rfl (.c (j:=6) rfl (.c (j:=7) rfl .n)))))) (first:=[]) (cap:=[Vp bW,Vp bT,Vp bY]) ?_
 rintro ⟨⟩ -
 refine Vc<|zx rfl (fun a1=> ?_) (fun a1=> ?_)
 refine Zn 2 rfl<|qz<|zD<|zD<|qz<|zD ?_
 exact zq rfl ((i:Nat):Int) (fun k=>absurd (k _ (Ro.zr5 om)) a1) (zj rfl) rfl oN sN
 refine qN<|zG<|zi<|zv<|zE (qj rfl rfl)<|qY 1 rfl<|zW (i+1) (by show i+1≤9;omega) om (mR rfl) oN ((.of [1,2,3,4,5,6,7] rfl))
 refine z7<|ze<|ze<|zn<|zi<|Zn 1 rfl ?_
 exact zq rfl (-1) (fun _=>by show (-1:Int)<0;decide) (zj rfl) rfl oN sN
theorem zi0 {p:Option Addr} {cap:Nat} {bW:Nat} {pW:Option Addr} {cW:Nat} {W:List Rat} {bT:Nat} {ut:Wd} {vt:Wd} {tt:Rat} {bY:Nat} {pY:Option Addr} {cY:Nat} {Y:List Rat} (hW9:W.length=9) (hY9:Y.length=9) (hbW:∀i,yr (W.getD i 0)≤3000000) (hbY:∀i,yr (Y.getD i 0)≤1000) (hbt:yr tt≤10000000):CC 44 [.slice p 9 cap,.func (.func 45) #[] #[Vp bW,Vp bT,Vp bY]] [zI (rI .i64) p cap (yx (yZ 9)),j8 bW 0 [.slice pW 9 cW],zI rQ pW cW W,j8 bT 0 [ut.b,ut.l,vt.b,vt.l],qF true ut vt tt,j8 bY 0 [.slice pY 9 cY],zI rQ pY cY Y] (Y:=Bool) (fun y=>((∀j,j<9→W.getD j 0=tt*Y.getD j 0)→y=false)) (fun y=> .bool y) (fun y=>[]):=by
 refine zg Tryz.func44 rfl rfl (fun c=> ?_)
 refine zN 0 rfl (fun hL0=> ?_)
 refine zN 2 rfl (fun hL2=> ?_)
 refine zN 6 rfl (fun hL6=> ?_)
 refine jS 1 rfl<|kS 2 rfl<|zm (q7 rfl rfl) zP (ziZ qB qB qB qB qB) (.c (j:=0) rfl (.c (j:=1) rfl (.c (j:=2) rfl (.c (j:=3) rfl (.c (j:=4) rfl (.c (j:=5) rfl (.c (j:=6) rfl .n))))))) ?_
 rintro a0 hif
 refine Zp 2 rfl ?_
 exact zq rfl (decide (0≤a0)) (fun k=>by have h9:=hif k;exact decide_eq_false om) (zj rfl) rfl oN sN
theorem zi1 {qa:Int} {qb:Int} {qc:Int} {qd:Int} (hq0:¬(qa=0∧qb=0∧qc=0∧qd=0)) (hqa:yu qa) (hqb:yu qb) (hqc:yu qc) (hqd:yu qd):CB 263 [.agg #[.int .i64 qa,.int .i64 qb,.int .i64 qc,.int .i64 qd]] [] (Y:=(Option Addr)×Nat) (fun y=> .slice (y.1) 4 (y.2)) (fun y=>[zI (rI .i64) (y.1) (y.2) ([qa,qb,qc,qd])]):=by
 refine zg Tryz.func263 rfl rfl (fun c=> ?_)
 unfold yu at hqa hqb hqc hqd
 refine vg<|zB (zX rfl rfl) (fun b1=> ?_)
 refine jD 1 rfl<|zE (zb yc rfl je rfl rfl)<|zw (zc 0 v8 rfl rfl rfl)<|zE (zb yc rfl je rfl rfl)<|zw (zc 0 v8 rfl rfl rfl)<|zE (zb yc rfl je rfl rfl)<|zw (zc 0 v8 rfl rfl rfl)<|zE (zb yc rfl je rfl rfl)<|zw (zc 0 v8 rfl rfl rfl)<|qZ (z6 (enc:=fun z:Int=>[.int .i64 z]) (ok:=Vb .i64) (h1:=fun _=>rfl) (h2:=fun _=>rfl) (k:=4) ye Ky rfl dd dd dd (.c (x:=qa) rfl rfl (fun _ _=>by exact zu.2 om) (.c (x:=qb) rfl rfl (fun _ _=>by exact zu.2 om) (.c (x:=qc) rfl rfl (fun _ _=>by exact zu.2 om) (.c (x:=qd) rfl rfl (fun _ _=>by exact zu.2 om) .n))))) (fun b2 _=> ?_)
 refine Zp 1 rfl<|vK 0 rfl .z ?_
 exact zq rfl (Sb b2,4) trivial (zj rfl) rfl oN (s0 rfl)
theorem zkv {qa:Int} {qb:Int} {qc:Int} {qd:Int} (hq0:¬(qa=0∧qb=0∧qc=0∧qd=0)) (hqa:yu qa) (hqb:yu qb) (hqc:yu qc) (hqd:yu qd):CA 240 [.agg #[.int .i64 qa,.int .i64 qb,.int .i64 qc,.int .i64 qd]] [] (.int .i64 (yH qa qb qc qd)):=by
 refine zg Tryz.func240 rfl rfl (fun c=> ?_)
 have a0:=Ro.zkd hqa hqb hqc hqd
 obtain ⟨⟨hm1,hm2,hm3,hm4⟩,hm5,hm6,hm7,hm8,hm9,a1⟩:=a0
 have hn1:=Ro.Wt hq0
 have hn2:=Ro.zde hqa hqb hqc hqd
 have hE9:∀i,i<3→Ro.r6 ((yl qa qb qc qd).getD i (0,0,0)):=fun i hi=>Ro.zdf hqa hqb hqc hqd hi
 refine vg<|zB (zX rfl rfl) (fun b1=> ?_)
 refine jD 1 rfl<|zE (zb yc rfl je rfl rfl)<|zw (zc 0 v8 rfl rfl rfl)<|zE (zb yc rfl je rfl rfl)<|zw (zc 0 v8 rfl rfl rfl)<|zE (qw rfl rfl w6)<|zE (zb yc rfl je rfl rfl)<|zw (zc 0 v8 rfl rfl rfl)<|zE (zb yc rfl je rfl rfl)<|zw (zc 0 v8 rfl rfl rfl)<|zE (qw rfl rfl w6)<|zE (qm rfl rfl w6)<|zE (zb yc rfl je rfl rfl)<|zw (zc 0 v8 rfl rfl rfl)<|zE (zb yc rfl je rfl rfl)<|zw (zc 0 v8 rfl rfl rfl)<|zE (qw rfl rfl w6)<|zE (qm rfl rfl w6)<|zE (zb yc rfl je rfl rfl)<|zw (zc 0 v8 rfl rfl rfl)<|zE (zb yc rfl je rfl rfl)<|zw (zc 0 v8 rfl rfl rfl)<|zE (qw rfl rfl w6)<|zE (qm rfl rfl w6)<|Zp 1 rfl ?_
 exact zq rfl () trivial (zj rfl) rfl oN sN
theorem zo3 {qa:Int} {qb:Int} {qc:Int} {qd:Int} (hq0:¬(qa=0∧qb=0∧qc=0∧qd=0)) (hqa:yu qa) (hqb:yu qb) (hqc:yu qc) (hqd:yu qd):CA 239 [.agg #[.int .i64 qa,.int .i64 qb,.int .i64 qc,.int .i64 qd]] [] (.int .i64 0):=by
 refine zg Tryz.func239 rfl rfl (fun c=> ?_)
 have hal:=Ro.zqE hqa hqb hqc hqd
 unfold yu at hqa hqb hqc hqd
 refine vg<|zB (zX rfl rfl) (fun b1=> ?_)
 refine jn 1 rfl<|ji (X:=Unit) (fun x=>True) (fun x=>[(22,.bool (decide (qa=0∧qb=0∧qc=0∧qd=0))),(2,.int .i64 0),(1,Vp b1)]) (fun x=>[zK b1 80 [.int .i64 qa,.int .i64 qb,.int .i64 qc,.int .i64 qd]]) (fun x=>[]) ?_ ?_
 refine zv<|zE (zb yc rfl je rfl rfl)<|zw (zc 0 v8 rfl rfl rfl)<|kS 1 rfl<|q8 (qU rfl) (fun h2=> ?_) (fun h2=> ?_)
 refine zE (zb yc rfl je rfl rfl)<|zw (zc 0 v8 rfl rfl rfl)<|kS 2 rfl<|q8 (qU rfl) (fun h3=> ?_) (fun h3=> ?_)
 refine zE (zb yc rfl je rfl rfl)<|zw (zc 0 v8 rfl rfl rfl)<|kS 2 rfl<|q8 (qU rfl) (fun h4=> ?_) (fun h4=> ?_)
 refine zE (zb yc rfl je rfl rfl)<|zw (zc 0 v8 rfl rfl rfl)<|qY 2 rfl ?_
 exact qL () Qn ((.e rfl (congrArg Value.bool (by first|(simp_all;done)|(rw [Bool.eq_iff_iff];simp_all;done)|(simp_all;omega))) (.c rfl (.c rfl .n))):vQ _ _) (ho:=(o0 rfl)) sN
 refine qY 4 rfl ?_
 exact qL () Qn ((.e rfl (congrArg Value.bool (by first|(simp_all;done)|(rw [Bool.eq_iff_iff];simp_all;done)|(simp_all;omega))) (.c rfl (.c rfl .n))):vQ _ _) (ho:=(o0 rfl)) sN
 refine qY 9 rfl ?_
 exact qL () Qn ((.e rfl (congrArg Value.bool (by first|(simp_all;done)|(rw [Bool.eq_iff_iff];simp_all;done)|(simp_all;omega))) (.c rfl (.c rfl .n))):vQ _ _) (ho:=(o0 rfl)) sN
 refine qY 14 rfl ?_
 exact qL () Qn ((.e rfl (congrArg Value.bool (by first|(simp_all;done)|(rw [Bool.eq_iff_iff];simp_all;done)|(simp_all;omega))) (.c rfl (.c rfl .n))):vQ _ _) (ho:=(o0 rfl)) sN
 rintro ⟨⟩ -
 refine zx rfl (fun a0=> ?_) (fun a0=> ?_)
 exact absurd (by simpa using a0) hq0
 refine kk8<|zw (za 0 zae rfl rfl (.t4 .nil))<|zm (qS rfl) zP (zi1 qB qB qB qB qB) (.n) ?_
 rintro ⟨a1,a2⟩ -
 refine jn 1 rfl<|k12 1 rfl<|zk<|z5 (X:=Nat) (fun x=>x≤4) (fun x=>[(4,Vi x)]) [3] (fun x=>[zK b1 80 [.int .i64 qa,.int .i64 qb,.int .i64 qc,.int .i64 qd]]) (fun x=>[]) [0] (fun x=>4 - x) 0 (by exact yT _) (.e rfl vA .n) (o0 rfl) sN ?_
 rintro i hI
 refine qe<|k12 2 rfl<|zx rfl (fun h7=> ?_) (fun h7=> ?_)
 refine vY<|zk<|ji (X:=Unit) (fun x=>True) (fun x=>[(40,.bool (decide ((0x100000<(([qa,qb,qc,qd]).getD i 0))∨((([qa,qb,qc,qd]).getD i 0)<(-0x100000))))),(4,Vi i),(3,.slice a1 4 a2)]) (fun x=>[zK b1 80 [.int .i64 qa,.int .i64 qb,.int .i64 qc,.int .i64 qd]]) (fun x=>[zI (rI .i64) a1 a2 ([qa,qb,qc,qd])]) ?_ ?_
 refine vM 2 rfl<|qH 0 i rfl ye je rfl zL rfl rfl (gD (d:=0) (by show i<4;omega)) (fun b8 o9 a3=> ?_) (x0:=(([qa,qb,qc,qd]).getD i 0))
 replace a3:=zu.1 a3
 refine zw (zf (j:=0) 0 v8 rfl rfl rfl rfl)<|kS 1 rfl<|q8 (qU rfl) (fun a5=> ?_) (fun a5=> ?_)
 refine qY 6 rfl ?_
 exact qL () Qn ((.e rfl (congrArg Value.bool JS) (.c rfl (.c rfl .n)))) (o0 rfl) ((.c (j:=1) rfl .n))
 refine kS 2 rfl<|qH 1 i rfl ye je rfl zL rfl rfl (gD (d:=0) (by show i<4;omega)) (fun b12 o13 a4=> ?_) (x0:=(([qa,qb,qc,qd]).getD i 0))
 replace a4:=zu.1 a4
 refine zw (zf (j:=0) 0 v8 rfl rfl rfl rfl)<|qY 2 rfl ?_
 exact qL () Qn ((.e rfl (congrArg Value.bool JS) (.c rfl (.c rfl .n)))) (o0 rfl) ((.c (j:=2) rfl .n))
 rintro ⟨⟩ -
 refine zx rfl (fun a6=> ?_) (fun a6=> ?_)
 have h9:=hal i om;omega
 refine qN<|zG<|zi<|vM 1 rfl<|zE (qj rfl rfl)<|qY 1 rfl<|zW (i+1) (by show i+1≤4;omega) om ((.c rfl (.c rfl .n))) (o0 rfl) (s0 rfl)
 refine z7<|ze<|ze<|zn<|zi<|Zn 1 rfl ?_
 exact zq rfl () trivial (zj rfl) rfl oN sN
theorem zqY {qa:Int} {qb:Int} {qc:Int} {qd:Int} (hq0:¬(qa=0∧qb=0∧qc=0∧qd=0)) (hqa:yu qa) (hqb:yu qb) (hqc:yu qc) (hqd:yu qd):CB 185 [.agg #[.int .i64 qa,.int .i64 qb,.int .i64 qc,.int .i64 qd]] [] (Y:=(Option Addr)×Nat) (fun y=> .tuple #[.slice (y.1) 3 (y.2),.int .i64 0]) (fun y=>[zI (rS rQ) (y.1) (y.2) (yo qa qb qc qd)]):=by
 refine zg Tryz.func185 rfl rfl (fun c=> ?_)
 dsimp only [zkz]
 have b8:=Ro.zkd hqa hqb hqc hqd
 obtain ⟨⟨hm1,hm2,hm3,hm4⟩,hm5,hm6,hm7,hm8,hm9,d5⟩:=b8
 have hn1:=Ro.Wt hq0
 have hn2:=Ro.zde hqa hqb hqc hqd
 have c1:∀i,i<3→Ro.r6 ((yl qa qb qc qd).getD i (0,0,0)):=fun i hi=>Ro.zdf hqa hqb hqc hqd hi
 refine vg<|zB (zX rfl rfl) (fun b1=> ?_)
 refine jD 2 rfl<|zw (za 0 zae rfl rfl (.t4 .nil))<|qg (qS rfl) zP (zo3 qB qB qB qB qB) (.n)<|jn 1 rfl<|k12 2 rfl<|qW rfl<|kk8<|zE (zb yc rfl je rfl rfl)<|zw (zc 0 v8 rfl rfl rfl)<|jD 1 rfl<|zE (zb yc rfl je rfl rfl)<|zw (zc 0 v8 rfl rfl rfl)<|jD 1 rfl<|zE (zb yc rfl je rfl rfl)<|zw (zc 0 v8 rfl rfl rfl)<|jD 1 rfl<|zE (zb yc rfl je rfl rfl)<|zw (zc 0 v8 rfl rfl rfl)<|jD 1 rfl<|kS 2 rfl<|zE (qw rfl rfl w6)<|kS 2 rfl<|zE (qw rfl rfl w6)<|zE (qm rfl rfl w6)<|kS 2 rfl<|zE (qw rfl rfl w6)<|zE (qx rfl rfl w6)<|kS 2 rfl<|zE (qw rfl rfl w6)<|zE (qx rfl rfl w6)<|kS 2 rfl<|zE (qw rfl rfl w6)<|kS 2 rfl<|zE (qw rfl rfl w6)<|zE (qx rfl rfl w6)<|zE (qw rfl rfl w6)<|kS 2 rfl<|zE (qw rfl rfl w6)<|kS 2 rfl<|zE (qw rfl rfl w6)<|zE (qm rfl rfl w6)<|zE (qw rfl rfl w6)<|qZ (z6 (enc:=fun z:Int=>[.int .i64 z]) (ok:=Vb .i64) (h1:=fun _=>rfl) (h2:=fun _=>rfl) (k:=3) ye Ky rfl dd dd dd (.c (x:=((((qa*qa)+(qb*qb)) - (qc*qc)) - (qd*qd))) rfl rfl (fun _ _=>by exact zu.2 om) (.c (x:=(2*((qb*qc) - (qa*qd)))) rfl rfl (fun _ _=>by exact zu.2 om) (.c (x:=(2*((qb*qd)+(qa*qc)))) rfl rfl (fun _ _=>by exact zu.2 om) .n)))) (fun b2 _=> ?_)
 refine kS 2 rfl<|zE (qw rfl rfl w6)<|kS 2 rfl<|zE (qw rfl rfl w6)<|zE (qm rfl rfl w6)<|zE (qw rfl rfl w6)<|kS 2 rfl<|zE (qw rfl rfl w6)<|kS 2 rfl<|zE (qw rfl rfl w6)<|zE (qx rfl rfl w6)<|kS 2 rfl<|zE (qw rfl rfl w6)<|zE (qm rfl rfl w6)<|kS 2 rfl<|zE (qw rfl rfl w6)<|zE (qx rfl rfl w6)<|kS 2 rfl<|zE (qw rfl rfl w6)<|kS 2 rfl<|zE (qw rfl rfl w6)<|zE (qx rfl rfl w6)<|zE (qw rfl rfl w6)<|qZ (z6 (enc:=fun z:Int=>[.int .i64 z]) (ok:=Vb .i64) (h1:=fun _=>rfl) (h2:=fun _=>rfl) (k:=3) ye Ky rfl dd dd dd (.c (x:=(2*((qb*qc)+(qa*qd)))) rfl rfl (fun _ _=>by exact zu.2 om) (.c (x:=((((qa*qa) - (qb*qb))+(qc*qc)) - (qd*qd))) rfl rfl (fun _ _=>by exact zu.2 om) (.c (x:=(2*((qc*qd) - (qa*qb)))) rfl rfl (fun _ _=>by exact zu.2 om) .n)))) (fun b3 _=> ?_)
 refine kS 2 rfl<|zE (qw rfl rfl w6)<|kS 2 rfl<|zE (qw rfl rfl w6)<|zE (qx rfl rfl w6)<|zE (qw rfl rfl w6)<|kS 2 rfl<|zE (qw rfl rfl w6)<|kS 2 rfl<|zE (qw rfl rfl w6)<|zE (qm rfl rfl w6)<|zE (qw rfl rfl w6)<|kS 2 rfl<|zE (qw rfl rfl w6)<|kS 2 rfl<|zE (qw rfl rfl w6)<|zE (qx rfl rfl w6)<|kS 2 rfl<|zE (qw rfl rfl w6)<|zE (qx rfl rfl w6)<|kS 2 rfl<|zE (qw rfl rfl w6)<|zE (qm rfl rfl w6)<|qZ (z6 (enc:=fun z:Int=>[.int .i64 z]) (ok:=Vb .i64) (h1:=fun _=>rfl) (h2:=fun _=>rfl) (k:=3) ye Ky rfl dd dd dd (.c (x:=(2*((qb*qd) - (qa*qc)))) rfl rfl (fun _ _=>by exact zu.2 om) (.c (x:=(2*((qc*qd)+(qa*qb)))) rfl rfl (fun _ _=>by exact zu.2 om) (.c (x:=((((qa*qa) - (qb*qb)) - (qc*qc))+(qd*qd))) rfl rfl (fun _ _=>by exact zu.2 om) .n)))) (fun b4 _=> ?_)
 refine qt 0 rfl .z<|qt 1 rfl (.s .z)<|qt 2 rfl (.s (.s .z))<|qZ (qA (r:=rS (rI .i64)) (k:=3) yj zma rfl dd dd dd (.c (x:=[((((qa*qa)+(qb*qb)) - (qc*qc)) - (qd*qd)),(2*((qb*qc) - (qa*qd))),(2*((qb*qd)+(qa*qc)))]) (cs:=[.slice (Sb b2) 3 3]) (Sb b2,3) rfl rfl rfl (fun g hr=>Holds.get 0 rfl hr) (.c (x:=[(2*((qb*qc)+(qa*qd))),((((qa*qa) - (qb*qb))+(qc*qc)) - (qd*qd)),(2*((qc*qd) - (qa*qb)))]) (cs:=[.slice (Sb b3) 3 3]) (Sb b3,3) rfl rfl rfl (fun g hr=>Holds.get 1 rfl hr) (.c (x:=[(2*((qb*qd) - (qa*qc))),(2*((qc*qd)+(qa*qb))),((((qa*qa) - (qb*qb)) - (qc*qc))+(qd*qd))]) (cs:=[.slice (Sb b4) 3 3]) (Sb b4,3) rfl rfl rfl (fun g hr=>Holds.get 2 rfl hr) .n)))) (fun b5 _=> ?_)
 refine jn 1 rfl ?_
 have e6:[([((((qa*qa)+(qb*qb)) - (qc*qc)) - (qd*qd)),(2*((qb*qc) - (qa*qd))),(2*((qb*qd)+(qa*qc)))]),([(2*((qb*qc)+(qa*qd))),((((qa*qa) - (qb*qb))+(qc*qc)) - (qd*qd)),(2*((qc*qd) - (qa*qb)))]),([(2*((qb*qd) - (qa*qc))),(2*((qc*qd)+(qa*qb))),((((qa*qa) - (qb*qb)) - (qc*qc))+(qd*qd))])]=((yl qa qb qc qd).map yI):=by rfl
 rw [e6]
 refine Z7 0 rfl .z ?_
 have htl:((yl qa qb qc qd).map yI).length=3:=rfl
 refine zv<|qZ (vq (rS rQ) ya Z2) (fun b7 _=> ?_)
 refine jn 1 rfl<|k12 1 rfl<|zk<|z5 (X:=Nat×(Option Addr)×Nat×(List (List Rat))) (fun x=>x.1≤3∧x.2.2.2=((yl qa qb qc qd).take x.1).map (fun z=>Ro.K5 z (yH qa qb qc qd))) (fun x=>[(10,.slice (x.2.1) (x.2.2.2.length) (x.2.2.1)),(11,Vi x.1)]) [9,1] (fun x=>[rowA 62 (rS rQ) (x.2.1) (x.2.2.1) (x.2.2.2),zK b1 80 [.int .i64 qa,.int .i64 qb,.int .i64 qc,.int .i64 qd]]) (fun x=>[]) [0] (fun x=>3 - x.1) (0,Sb b7,0,([]:List (List Rat))) (by exact ⟨yT _,rfl⟩) (.e rfl vA (.e rfl vA .n)) ((.e (i:=0) rfl vA (.c (i:=4) rfl .n)):zJ _ _ _) sN ?_
 rintro ⟨i,pR,cR,A⟩ hI
 dsimp only at hI
 try dsimp only
 obtain ⟨hi,hA⟩:=hI
 have hAl:A.length=i:=by rw [hA,List.length_map,yac];show min i 3=i;omega
 refine qe<|k12 2 rfl<|zx rfl (fun h8=> ?_) (fun h8=> ?_)
 refine vY<|zk<|vg<|qZ (vq rQ yb jf) (fun b9 _=> ?_)
 refine jn 1 rfl<|k12 1 rfl<|zk<|z5 (X:=Nat×(Option Addr)×Nat×(List Rat)) (fun x=>x.1≤3∧x.2.2.2=(Ro.K5 ((yl qa qb qc qd).getD i (0,0,0)) (yH qa qb qc qd)).take x.1∧x.2.2.2.length=x.1) (fun x=>[(12,.slice (x.2.1) (x.2.2.2.length) (x.2.2.1)),(13,Vi x.1)]) [10,11,9,1] (fun x=>[rowA 32 rQ (x.2.1) (x.2.2.1) (x.2.2.2),rowA 62 (rS rQ) pR cR A,zK b1 80 [.int .i64 qa,.int .i64 qb,.int .i64 qc,.int .i64 qd]]) (fun x=>[]) [0] (fun x=>3 - x.1) (0,Sb b9,0,([]:List Rat)) (by exact ⟨yT _,rfl,rfl⟩) (.e rfl vA (.e rfl vA .n)) ((.e (i:=0) rfl vA (.of [0,0] rfl)):zJ _ _ _) sN ?_
 rintro ⟨j,pS,cS,B⟩ hJ
 dsimp only at hJ
 try dsimp only
 obtain ⟨hj,hB,hBl⟩:=hJ
 refine qe<|k12 2 rfl<|zx rfl (fun c2=> ?_) (fun c2=> ?_)
 refine vY<|zk<|qe ?_
 have htr:(((yl qa qb qc qd).map yI).getD i []).length=3:=Ro.ztb om
 have hx9:=Ro.zod (c1 i om) j
 refine Jo 14<|zQ 0 rfl rfl<|zQ 1 rfl rfl<|jc 2 rfl (zM (x0:=(((yl qa qb qc qd).map yI).getD i [])) 0 i rfl yj zhB rfl zL rfl rfl (gD (d:=[]) om)) ?_
 rintro ⟨b11,o12,a3,a4⟩ -
 dsimp only [aq,nq,cq]
 refine vE 3 rfl (zf (j:=0) 0 zhA rfl rfl rfl rfl)<|zQ 4 rfl rfl<|jO 5 rfl 1 j rfl ye je rfl zL rfl rfl (gD (d:=0) om) (fun b15 o16 a6=> ?_) (x0:=((((yl qa qb qc qd).map yI).getD i []).getD j 0))
 replace a6:=zu.1 a6
 refine vE 6 rfl (zf (j:=0) 0 v8 rfl rfl rfl rfl)<|vE 7 rfl (za 2 zae rfl rfl (.t4 .nil))<|jP (m':=[(144,.agg #[.int .i64 qa,.int .i64 qb,.int .i64 qc,.int .i64 qd]),(143,.int .i64 ((((yl qa qb qc qd).map yI).getD i []).getD j 0)),(12,.slice pS (B.length) cS),(13,Vi j),(10,.slice pR (A.length) cR),(11,Vi i),(9,.slice (Sb b5) 3 3),(1,Vp b1)]) (R':=[zI (rI .i64) a3 a4 (((yl qa qb qc qd).map yI).getD i []),zI (rS (rI .i64)) (Sb b5) 3 ((yl qa qb qc qd).map yI)]) (mR rfl) (List.Perm.refl _) (List.Perm.refl _) ((.of [2,3] rfl)) ?_
 obtain ⟨a5,a7⟩:∃z:Int,z=((((yl qa qb qc qd).map yI).getD i []).getD j 0):=⟨_,rfl⟩
 rw [← a7]
 refine q6 (X:=Wd×Wd×Nat) (k':=0) (L':=(lb 16 65535)) (fun (a1,a2,a0)=>([(14,Vp a0),(12,.slice pS (B.length) cS),(13,Vi j),(10,.slice pR (A.length) cR),(11,Vi i),(9,.slice (Sb b5) 3 3),(1,Vp b1)],[zK a0 32 (cw [a1,a2])],[rowA 32 rQ pS cS B,rowA 62 (rS rQ) pR cR A,zK b1 80 [.int .i64 qa,.int .i64 qb,.int .i64 qc,.int .i64 qd]],[qF true a1 a2 (yaa a5 (yH qa qb qc qd)),zI (rI .i64) a3 a4 (((yl qa qb qc qd).map yI).getD i []),zI (rS (rI .i64)) (Sb b5) 3 ((yl qa qb qc qd).map yI)])) ?_ (fun c3=> ?_)
 rintro ⟨a1,a2,a0⟩
 dsimp only [cw]
 refine zU kr ?_
 subst a7
 refine zi<|vM 1 rfl<|zw (za 0 qp rfl rfl (.t4 .nil))<|qZ (qA (r:=rQ) (k:=1) yb jf rfl dd dd dd (.c (x:=(yaa ((((yl qa qb qc qd).map yI).getD i []).getD j 0) (yH qa qb qc qd))) (cs:=[a1.b,a1.l,a2.b,a2.l]) (a1,a2) rfl rfl rfl (fun g hr=>Holds.get 0 rfl hr) .n)) (fun b18 _=> ?_)
 refine qt 0 rfl .z<|vO 2 rfl (qT 0 rfl yb jf dd rfl rfl zL rfl zL om om) (fun _=>(.s (.s .z))) ?_
 rintro ⟨c4,c5⟩ -
 dsimp only [aq,nq,cq]
 refine qY 1 rfl<|zG<|zi<|vM 1 rfl<|zE (qj rfl rfl)<|qY 1 rfl<|zW ((j+1),c4,c5,(B++([(yaa ((((yl qa qb qc qd).map yI).getD i []).getD j 0) (yH qa qb qc qd))]))) (by exact ⟨Oo,by rw [hB];exact Ro.ziz om om,by rw [yU];show B.length+1=_;omega⟩) om ((.e rfl (by simp) (.of rfl))) ((.of [2,2,2] rfl):zJ _ _ _) ((.c (j:=3) rfl .n))
 refine q6 (X:=Wd×Wd×Nat) (k':=2) (L':=(lb 16 16383)) (fun (a1,a2,a0)=>([(14,Vp a0),(148,.int .i64 0),(147,.agg (cw [a1,a2]).toArray),(12,.slice pS (B.length) cS),(13,Vi j),(10,.slice pR (A.length) cR),(11,Vi i),(9,.slice (Sb b5) 3 3),(1,Vp b1)],[zK a0 32 (cw [wz,wz])],[rowA 32 rQ pS cS B,rowA 62 (rS rQ) pR cR A,zK b1 80 [.int .i64 qa,.int .i64 qb,.int .i64 qc,.int .i64 qd]],[qF true a1 a2 (yaa a5 (yH qa qb qc qd)),zI (rI .i64) a3 a4 (((yl qa qb qc qd).map yI).getD i []),zI (rS (rI .i64)) (Sb b5) 3 ((yl qa qb qc qd).map yI)])) ?_ (fun a8=> ?_)
 rintro ⟨a1,a2,a0⟩
 dsimp only [cw]
 refine jt 14 kr<|zH rfl rfl rfl rfl qk (.t4 .nil)<|zC 15 rfl (zT rfl) ?_
 exact qn (c3 (a1,a2,a0)) kr (mR rfl) .rfl .rfl ((.of [0,1,2] rfl))
 refine q6 (X:=Wd×Wd) (k':=3) (L':=(lb 16 8191)) (fun (a1,a2)=>([(148,.int .i64 0),(147,.agg (cw [a1,a2]).toArray),(12,.slice pS (B.length) cS),(13,Vi j),(10,.slice pR (A.length) cR),(11,Vi i),(9,.slice (Sb b5) 3 3),(1,Vp b1)],[],[rowA 32 rQ pS cS B,rowA 62 (rS rQ) pR cR A,zK b1 80 [.int .i64 qa,.int .i64 qb,.int .i64 qc,.int .i64 qd]],[qF true a1 a2 (yaa a5 (yH qa qb qc qd)),zI (rI .i64) a3 a4 (((yl qa qb qc qd).map yI).getD i []),zI (rS (rI .i64)) (Sb b5) 3 ((yl qa qb qc qd).map yI)])) ?_ (fun c6=> ?_)
 rintro ⟨a1,a2⟩
 dsimp only [cw]
 refine jt 13 kr<|jr rfl (zo vh rfl) (fun a0 _=> ?_)
 exact qn (a8 (a1,a2,a0)) kr (mR rfl) .rfl .rfl ((.of [0,1,2] rfl))
 refine q6 (X:=Nat) (k':=6) (L':=(lb 16 8703)) (fun a0=>([(14,Vp a0),(145,.int .i64 (yH qa qb qc qd)),(143,.int .i64 a5),(12,.slice pS (B.length) cS),(13,Vi j),(10,.slice pR (A.length) cR),(11,Vi i),(9,.slice (Sb b5) 3 3),(1,Vp b1)],[zK a0 32 (cw [wz,wz])],[rowA 32 rQ pS cS B,rowA 62 (rS rQ) pR cR A,zK b1 80 [.int .i64 qa,.int .i64 qb,.int .i64 qc,.int .i64 qd]],[zI (rI .i64) a3 a4 (((yl qa qb qc qd).map yI).getD i []),zI (rS (rI .i64)) (Sb b5) 3 ((yl qa qb qc qd).map yI)])) ?_ (fun a9=> ?_)
 rintro a0
 dsimp only [cw]
 refine jt 9 kr<|zp rfl (q7 rfl rfl) zP (zcW zL zL zL) (.n) ?_
 rintro ⟨a1,a2⟩ -
 dsimp only [aq,nq,cq]
 refine zQ 10 rfl rfl<|zC 11 rfl (qD rfl rfl)<|zC 12 rfl (qD rfl rfl) ?_
 exact qn (a8 (a1,a2,a0)) kr (mR rfl) .rfl .rfl ((.of [0,1,2] rfl))
 refine q6 (X:=Unit) (k':=7) (L':=(lb 16 511)) (fun _=>([(145,.int .i64 (yH qa qb qc qd)),(143,.int .i64 a5),(12,.slice pS (B.length) cS),(13,Vi j),(10,.slice pR (A.length) cR),(11,Vi i),(9,.slice (Sb b5) 3 3),(1,Vp b1)],[],[rowA 32 rQ pS cS B,rowA 62 (rS rQ) pR cR A,zK b1 80 [.int .i64 qa,.int .i64 qb,.int .i64 qc,.int .i64 qd]],[zI (rI .i64) a3 a4 (((yl qa qb qc qd).map yI).getD i []),zI (rS (rI .i64)) (Sb b5) 3 ((yl qa qb qc qd).map yI)])) ?_ (fun c7=> ?_)
 rintro ⟨⟩
 dsimp only
 refine Qq 9 13 kr ?_ ?_
 refine zp rfl (q7 rfl rfl) zP (zcW zL zL zL) (.n) ?_
 rintro ⟨a1,a2⟩ -
 dsimp only [aq,nq,cq]
 refine zQ 10 rfl rfl<|zC 11 rfl (qD rfl rfl)<|zC 12 rfl (qD rfl rfl) ?_
 exact qn (c6 (a1,a2)) kr (mR rfl) .rfl .rfl ((.of [0,1,2] rfl))
 refine jr rfl (zo vh rfl) (fun a0 _=> ?_)
 exact qn (a9 a0) kr (mR rfl) .rfl .rfl ((.of [0,1] rfl))
 refine q6 (X:=Nat) (k':=7) (L':=(lb 16 8447)) (fun a0=>([(14,Vp a0),(144,.agg #[.int .i64 qa,.int .i64 qb,.int .i64 qc,.int .i64 qd]),(143,.int .i64 a5),(12,.slice pS (B.length) cS),(13,Vi j),(10,.slice pR (A.length) cR),(11,Vi i),(9,.slice (Sb b5) 3 3),(1,Vp b1)],[zK a0 32 (cw [wz,wz])],[rowA 32 rQ pS cS B,rowA 62 (rS rQ) pR cR A,zK b1 80 [.int .i64 qa,.int .i64 qb,.int .i64 qc,.int .i64 qd]],[zI (rI .i64) a3 a4 (((yl qa qb qc qd).map yI).getD i []),zI (rS (rI .i64)) (Sb b5) 3 ((yl qa qb qc qd).map yI)])) ?_ (fun c8=> ?_)
 rintro a0
 dsimp only [cw]
 refine jt 8 kr<|jU rfl (qS rfl) zP (zkv qB qB qB qB qB) (.n) ?_
 exact qn (a9 a0) kr (mR rfl) .rfl .rfl ((.of [0,1] rfl))
 refine Qq 8 13 kr ?_ ?_
 refine jU rfl (qS rfl) zP (zkv qB qB qB qB qB) (.n) ?_
 exact qn (c7 ()) kr (mR rfl) .rfl .rfl ((.of [0,1] rfl))
 refine jr rfl (zo vh rfl) (fun a0 _=> ?_)
 exact qn (c8 a0) kr (mR rfl) .rfl .rfl ((.of [0,1] rfl))
 refine z7<|ze<|ze<|zn<|zi ?_
 have c9:B=(Ro.K5 ((yl qa qb qc qd).getD i (0,0,0)) (yH qa qb qc qd)):=by rw [hB,show j=3 by omega];rfl
 rw [c9]
 refine Z7 0 rfl .z<|vM 2 rfl<|qZ (Vh 0 rfl ya Z2 rfl zL) (fun b22 _=> ?_)
 refine qt 0 rfl .z<|vO 2 rfl (qT 0 rfl ya Z2 dd rfl rfl zL rfl zL om om) (fun _=>(.s (.s .z))) ?_
 rintro ⟨d0,d1⟩ -
 refine qY 1 rfl<|zG<|zi<|vM 1 rfl<|zE (qj rfl rfl)<|qY 1 rfl<|zW ((i+1),d0,d1,(A++([(Ro.K5 ((yl qa qb qc qd).getD i (0,0,0)) (yH qa qb qc qd))]))) (by exact ⟨Oo,by rw [hA];exact Ro.zgM om⟩) om ((.e rfl (by simp) (.of rfl))) ((.of [2,2] rfl):zJ _ _ _) ((.c (j:=2) rfl .n))
 refine z7<|ze<|ze<|zn<|zi<|Zn 3 rfl ?_
 have b6:i=3:=Oo
 have d4:A=yo qa qb qc qd:=by rw [hA,b6];rfl
 refine vK 0 rfl .z ?_
 exact vD rfl (pR,cR) trivial (zj rfl) (zj rfl) (by rw [hAl,b6]) oN ((.e (j:=0) rfl (by rw [← d4]) .n))
theorem zkw {z:Int} (hz: -9223372036854775808≤z∧z≤9223372036854775807):CB 264 [.int .i64 z] [] (Y:=Wd×Wd) (fun y=> .agg #[y.1.b,y.1.l,y.2.b,y.2.l]) (fun y=>[qF true y.1 y.2 ((z:Int):Rat)]):=by
 refine zg Tryz.func264 rfl rfl (fun c=> ?_)
 refine vg<|zB (zo vh rfl) (fun b1=> ?_)
 refine k40 1 rfl<|zm (qS rfl) zP (WV qB) (.n) ?_
 rintro ⟨a0,a1⟩ -
 refine zh 0 rfl rfl rfl rfl qk (.t4 .nil) .z<|Va ?_
 exact zq rfl (a0,a1) trivial (zy 0 qp rfl rfl (.t4 .nil)) rfl oN (s0 rfl)
theorem zkx (hK:K≤3) (hN:N≤3):jI yt 244 [Vi K,Vi N] [] [] (Y:=(Option Addr)×Nat×HP) (fun y=>y.2.2.length=K) (fun y=> .slice (y.1) K (y.2.1)) (fun y=>[rowA 62 rV (y.1) (y.2.1) (oh y.2.2 N),vp 32 rQ (y.2.2) (yq K N (fun _ _=>Ro.q0))]) (fun y=>[]):=by
 refine zg Tryz.func244 rfl rfl (fun c=> ?_)
 refine jS 1 rfl<|qZ (vq rV ya Z2) (fun b1 _=> ?_)
 refine jn 1 rfl<|qe<|JO (fun w mm=>mm.rmNil 32 rQ) ?_
 have e2:([]:List (Option Addr×Nat×Nat))=(oh ([]:HP) N):=by rfl
 rw [e2]
 refine k22 1 rfl<|zk<|z5 (X:=Nat×HP×(Option Addr)×Nat) (fun x=>x.1≤K∧x.2.1.length=x.1) (fun x=>[(5,.slice (x.2.2.1) (x.1) (x.2.2.2)),(6,Vi x.1)]) [4,0,1] (fun x=>[vp 32 rQ (x.2.1) (yq x.1 N (fun _ _=>Ro.q0)),rowA 62 rV (x.2.2.1) (x.2.2.2) (oh x.2.1 N)]) (fun x=>[]) [] (fun x=>K - x.1) (0,([]:HP),Sb b1,0) (by exact ⟨yT _,rfl⟩) (.c rfl (.e rfl vA .n)) ((.e (i:=0) rfl (by rfl) (.c (i:=0) rfl .n)):zJ _ _ _) sN ?_
 rintro ⟨i,hs,pR,cR⟩ hI
 dsimp only at hI
 obtain ⟨hi,hlen⟩:=hI
 refine qe<|k12 3 rfl<|zx rfl (fun h3=> ?_) (fun h3=> ?_)
 refine vY<|zk<|vg<|qZ (vq rQ yb jf) (fun b4 _=> ?_)
 refine jn 1 rfl<|k12 1 rfl<|zk<|z5 (X:=Nat×(Option Addr)×Nat) (fun x=>x.1≤N) (fun x=>[(7,.slice (x.2.1) (x.1) (x.2.2)),(8,Vi x.1)]) [5,6,4,0,1] (fun x=>[rowA 32 rQ (x.2.1) (x.2.2) (Ro.zl x.1),vp 32 rQ hs (yq i N (fun _ _=>Ro.q0)),rowA 62 rV pR cR (oh hs N)]) (fun x=>[]) [] (fun x=>N - x.1) (0,Sb b4,0) (by exact yT _) (.c rfl (.e rfl vA .n)) ((.e (i:=0) rfl (by rfl) (.of [0,0] rfl)):zJ _ _ _) sN ?_
 rintro ⟨j,pS,cS⟩ hJ
 dsimp only at hJ
 refine qe<|k12 3 rfl<|zx rfl (fun h5=> ?_) (fun h5=> ?_)
 refine vY<|zk<|vM 1 rfl<|zm (qS rfl) zP (zkw zL) (.n) ?_
 rintro ⟨a0,a1⟩ -
 refine qZ (qA (r:=rQ) (k:=1) yb jf rfl dd dd dd (.c (x:=((0:Int):Rat)) (cs:=[a0.b,a0.l,a1.b,a1.l]) (a0,a1) rfl rfl rfl (fun g hr=>Holds.get 0 rfl hr) .n)) (fun b8 _=> ?_)
 refine qt 0 rfl .z<|vO 1 rfl (qT 0 rfl yb jf dd rfl rfl (by first|rfl|assumption|omega|(rw [Ro.zfv];done)|(rw [Z0];omega)|(simp;done)) rfl (by first|rfl|assumption|omega|(rw [Ro.zfv];done)|(rw [Z0];omega)|(simp;done)) om om) (fun _=>(.s .z)) ?_
 rintro ⟨p9,a2⟩ -
 dsimp only [aq,nq,cq]
 refine qY 1 rfl<|zG<|zi<|vM 1 rfl<|zE (qj rfl rfl)<|qY 1 rfl<|zW ((j+1),p9,a2) (by dsimp only;show j+1≤N;omega) (by dsimp only;omega) ((.e rfl vA (.of rfl)):vQ _ _) (ho:=((.e (i:=1) rfl (by first|rfl|(rw [← Ro.zqM])) (.of [1,1] rfl)):zJ _ _ _)) sN
 refine z7<|ze<|ze<|zn<|zi ?_
 have a3:(.slice pS j cS:Value)= .slice pS N cS:=by rw [show j=N by omega]
 rw [a3]
 have a4:(Ro.zl j)=((yZ N).map (fun _=>Ro.q0)):=by rw [show j=N by omega];rfl
 rw [a4]
 refine vM 2 rfl<|qZ (z6 (enc:=fun z:Option Addr×Nat×Nat=>[.slice z.1 z.2.1 z.2.2]) (ok:=fun _=>True) (h1:=fun _=>rfl) (h2:=fun _=>rfl) (k:=1) ya Z2 rfl dd dd dd (.c (x:=(pS,N,cS)) rfl rfl (fun _ _=>by trivial) .n)) (fun b13 _=> ?_)
 refine qt 0 rfl .z<|vO 3 rfl (qT 0 rfl ya Z2 dd rfl rfl (by first|rfl|assumption|omega|(rw [Ro.zfv];done)|(rw [Z0];omega)|(simp;done)) rfl (by first|rfl|assumption|omega|(rw [Ro.zfv];done)|(rw [Z0];omega)|(simp;done)) om om) (fun _=>(.s (.s (.s .z)))) ?_
 rintro ⟨a5,a6⟩ -
 refine qY 1 rfl<|zG<|zi<|vM 1 rfl<|zE (qj rfl rfl)<|qY 1 rfl<|ZH (fun w mm=>mm.rmSnoc 1 1 rfl rfl (by rw [yJ];exact hlen)) ?_
 try dsimp only [yW]
 have a7:(((oh hs N)++([(pS,N,cS)])):List (Option Addr×Nat×Nat))=(oh (hs++[((pS:Option Addr),cS)]) N):=by unfold oh;simp
 rw [a7]
 refine zW ((i+1),(hs++[((pS:Option Addr),cS)]),a5,a6) (by dsimp only;exact ⟨Oo,by rw [yU,hlen];rfl⟩) (by dsimp only;omega) ((.e rfl vA (.of rfl)):vQ _ _) (ho:=((.e (i:=0) rfl (by first|rfl|(rw [Mx.zpJ])) (.c (i:=1) rfl .n)):zJ _ _ _)) sN
 refine z7<|ze<|ze<|zn<|zi<|Zn 2 rfl ?_
 have a8:(yq i N (fun _ _=>Ro.q0))=(yq K N (fun _ _=>Ro.q0)):=by rw [show i=K by omega]
 rw [a8]
 exact zq rfl (pR,cR,hs) (hlen.trans om) (zj rfl) (by rw [show i=K by omega]) ((.of [1,0] rfl):zJ _ _ _) sN
theorem zqZ {pA:Option Addr} {cA:Nat} {A:List (List Rat)} (hA:Ro.m33 A):CB 187 [.slice pA 3 cA] [zI (rS rQ) pA cA A] (Y:=(Option Addr)×Nat) (fun y=> .slice (y.1) 3 (y.2)) (fun y=>[zI (rS rQ) (y.1) (y.2) (yG A)]):=by
 refine zg Tryz.func187 rfl rfl (fun c=> ?_)
 refine zN 0 rfl (fun hL0=> ?_)
 have hAl:=hA.l
 have hA0:=hA.r 0 dd
 refine jS 1 rfl<|qJ rfl<|vX (zM (x0:=(A.getD 0 [])) 0 0 rfl ya vC rfl zL rfl rfl (gD (d:=[]) om)) ?_
 rintro ⟨b1,o2,p3,c4⟩ -
 refine zw (zf (j:=0) 0 vF rfl rfl rfl rfl)<|kS 1 rfl ?_
 have e5:((((A.getD 0 []).length:Nat):Int):Int)=((3:Nat):Int):=Oo
 rw [e5]
 refine kS 2 rfl<|zm (q7 rfl rfl) zP (zkx dd dd) (.n) ?_
 rintro ⟨a0,a1,hs⟩ hzs
 refine jn 1 rfl<|k12 1 rfl<|zk<|z5 (X:=Nat) (fun x=>x≤3) (fun x=>[(4,Vi x)]) [3,0] (fun x=>[rowA 62 rV a0 a1 (oh hs 3),vp 32 rQ hs (Ro.tz A x 0)]) (fun x=>[]) [2] (fun x=>3 - x) 0 (by exact yT _) (.e rfl vA .n) ((.c (i:=0) rfl (.e (i:=0) rfl zL .n)):zJ _ _ _) sN ?_
 rintro i hI
 refine qe<|k12 4 rfl<|zx rfl (fun h8=> ?_) (fun h8=> ?_)
 refine vY<|zk<|k12 1 rfl<|zk<|z5 (X:=Nat) (fun x=>x≤3) (fun x=>[(5,Vi x)]) [4,3,0] (fun x=>[rowA 62 rV a0 a1 (oh hs 3),vp 32 rQ hs (Ro.tz A i x)]) (fun x=>[]) [0] (fun x=>3 - x) 0 (by exact yT _) (.e rfl vA .n) ((.of [0,0] rfl):zJ _ _ _) sN ?_
 rintro j hJ
 refine qe<|jK 3 rfl<|vX (zM (x0:=(A.getD i [])) 0 i rfl ya vC rfl zL rfl rfl (gD (d:=[]) om)) ?_
 rintro ⟨b9,o10,p11,c12⟩ -
 refine zw (zf (j:=0) 0 vF rfl rfl rfl rfl)<|vZ 2 rfl<|zx rfl (fun a2=> ?_) (fun a2=> ?_)
 refine vY<|zk ?_
 have hri:=hA.r i om
 refine vk (.c (i:=1) rfl (.c (i:=0) rfl .n))<|V4 13 (.block (.then (.then (.block (.block (.then (.then (.block (.then .ret))))))))) (OW:=[vp 32 rQ hs (Ro.tz A i j)]) (O:=[rowA 62 rV a0 a1 (oh hs 3)])<|zQ 0 rfl rfl ?_
 refine zQ 1 rfl rfl ?_
 refine qy 2 rfl (qQ 1 j rfl ya vC rfl (by first|rfl|assumption|omega|exact hA.l|(rw [Z0];omega)) rfl rfl om) ?_
 refine QM 3 rfl (qi (x0:=((rp hs j),3,(rc hs j))) (v:= .slice (rp hs j) 3 (rc hs j)) 1 j rfl vF rfl rfl (Q2 ((Ro.zaS A i j hzs).hk om)) rfl) (fun _ a7=> ?_)
 refine zQ 4 rfl rfl<|zQ 5 rfl rfl<|zQ 6 rfl rfl<|jc 7 rfl (zM (x0:=(A.getD i [])) 2 i rfl ya vC rfl zL rfl rfl (gD (d:=[]) om)) ?_
 rintro ⟨b15,o16,p17,c18⟩ -
 refine vE 8 rfl (zf (j:=0) 0 vF rfl rfl rfl rfl)<|zQ 9 rfl rfl<|jc 10 rfl (zM (x0:=((A.getD i []).getD j (0:Rat))) 1 j rfl yb qk rfl zL rfl rfl (gD (d:=(0:Rat)) om)) ?_
 rintro ⟨b19,o20,a3,a4⟩ -
 refine vi qR<|vE 11 rfl (zA (j:=0) 0 qp rfl rfl rfl (.t4 .nil))<|qy 12 rfl (jJ 0 j i rfl ((Ro.zaS A i j hzs).hk om) ((Ro.zaS A i j hzs).mk' om) ((Ro.zaS A i j hzs).row om) yb qk rfl rfl rfl om)<|zt 13 (VH (A':=fun _=>vp 32 rQ hs ((Ro.tz A i j).set j (((Ro.tz A i j).getD j []).set i ((A.getD i []).getD j (0:Rat))))) kr rfl (Jv (r:=rQ) (k:=j) (j:=i) (x0:=((A.getD i []).getD j (0:Rat))) (γ0:=(a3,a4)) ((Ro.zaS A i j hzs).hk om) ((Ro.zaS A i j hzs).mk' om) rfl rfl (by rw [(Ro.zaS A i j hzs).row om];omega) rfl rfl qk (fun g hr=>Holds.get 1 rfl hr)) (hw':=rfl) (hd:=rfl) (fun _ _=> ?_))
 refine zU kr<|zG<|zi<|vM 1 rfl<|zE (qj rfl rfl)<|qY 1 rfl<|zW (j+1) (show (j+1)≤3 from by show j+1≤3;omega) (by show 3 - (j+1)<3 - j;omega) (mR rfl) (ho:=((.c (i:=1) rfl (.e (i:=0) rfl (by first|rfl|(rw [Ro.zqG A om om])) .n)):zJ _ _ _)) ((.c (j:=6) rfl .n):q9 _ _ _)
 refine z7<|ze<|ze<|zn<|zG<|zi<|vM 1 rfl<|zE (qj rfl rfl)<|qY 1 rfl ?_
 have a8:=hA.r i om
 have a5:Ro.tz A i j=Ro.tz A (i+1) 0:=by rw [show j=3 by omega];exact Ro.zqF A i
 rw [a5]
 refine zW (i+1) (by show i+1≤3;omega) om (mR rfl) ((.of [0,0] rfl):zJ _ _ _) ((.c (j:=2) rfl .n))
 refine z7<|ze<|ze<|zn<|zi<|Zn 2 rfl<|ZH (fun w mm=>mm.rmFreeze 0 1 rfl rfl ((Ro.zaS A i 0 hzs).hl) ((Ro.zaS A i 0 hzs).rl)) ?_
 try dsimp only [yae]
 have a6:(Ro.tz A i 0:List (List Rat))=yG A:=by rw [show i=3 by omega];exact Ro.ztc A
 rw [a6]
 exact zq rfl (a0,a1) trivial (zj rfl) rfl oN (s0 rfl)
theorem zq0 {p:Option Addr} {cap:Nat} {l:List Rat} (hl3:l.length=3):CB 243 [.slice p 3 cap] [zI rQ p cap l] (Y:=(Option Addr)×Nat) (fun y=> .slice (y.1) 3 (y.2)) (fun y=>[zI (rS rQ) (y.1) (y.2) (yS l)]):=by
 refine zg Tryz.func243 rfl rfl (fun c=> ?_)
 refine zN 0 rfl (fun hL0=> ?_)
 refine jS 1 rfl<|qZ (vq (rS rQ) ya Z2) (fun b1 _=> ?_)
 refine jn 1 rfl<|k12 1 rfl<|zk<|z5 (X:=Nat×(Option Addr)×Nat) (fun x=>x.1≤3) (fun x=>[(3,.slice (x.2.1) (x.1) (x.2.2)),(4,Vi x.1)]) [2,0] (fun x=>[rowA 62 (rS rQ) (x.2.1) (x.2.2) (Ro.cl1 l x.1)]) (fun x=>[]) [0] (fun x=>3 - x.1) (0,Sb b1,0) (by exact yT _) (.c rfl (.e rfl vA .n)) ((.e (i:=0) rfl (by rfl) .n):zJ _ _ _) sN ?_
 rintro ⟨i,pR,cR⟩ hI
 dsimp only at hI
 refine qe<|k12 4 rfl<|zx rfl (fun h2=> ?_) (fun h2=> ?_)
 refine vY<|zk<|vM 3 rfl<|vX (zM (x0:=(gQ l i)) 0 i rfl yb qk rfl zL rfl rfl (gD (d:=(0:Rat)) om)) ?_
 rintro ⟨b3,o4,w5,w6⟩ -
 refine vd qR<|zw (zA (j:=0) 0 qp rfl rfl rfl (.t4 .nil))<|qZ (qA (r:=rQ) (k:=1) yb jf rfl dd dd dd (.c (x:=(gQ l i)) (cs:=[w5.b,w5.l,w6.b,w6.l]) (w5,w6) rfl rfl rfl (fun g hr=>Holds.get 1 rfl hr) .n)) (fun b7 _=> ?_)
 refine qt 0 rfl .z<|qZ (Vh 0 rfl ya Z2 rfl zL) (fun b8 _=> ?_)
 refine qt 0 rfl .z<|vO 2 rfl (qT 0 rfl ya Z2 dd rfl rfl (by first|rfl|assumption|omega|(rw [Ro.zkj];done)|(simp;done)) rfl (by first|rfl|assumption|omega|(rw [Ro.zkj];done)|(simp;done)) om om) (fun _=>(.s (.s .z))) ?_
 rintro ⟨p9,a0⟩ -
 dsimp only [aq,nq,cq]
 refine qY 1 rfl<|zG<|zi<|vM 1 rfl<|zE (qj rfl rfl)<|qY 1 rfl<|zW ((i+1),p9,a0) (by dsimp only;show i+1≤3;omega) (by dsimp only;omega) ((.e rfl vA (.of rfl)):vQ _ _) (ho:=((.e (i:=2) rfl (by first|rfl|(rw [← Ro.zoD])) .n):zJ _ _ _)) ((.c (j:=4) rfl .n):q9 _ _ _)
 refine z7<|ze<|ze<|zn<|zi<|Zn 2 rfl ?_
 have a1:(Ro.cl1 l i)=(yS l):=by rw [show i=3 by omega];exact Ro.zqN l
 rw [a1]
 refine vK 0 rfl .z ?_
 exact zq rfl (pR,cR) trivial (zj rfl) (by rw [show i=3 by omega]) oN (s0 rfl)
theorem zq1 {pA:Option Addr} {cA:Nat} {A:List (List Rat)} {pV:Option Addr} {cV:Nat} {v:List Rat} (hA:Ro.m33 A) (hv3:v.length=3) (hbA:yO A 100000) (hbv:∀i,yr (v.getD i 0)≤100000):CB 242 [.slice pA 3 cA,.slice pV 3 cV] [zI (rS rQ) pA cA A,zI (rS rQ) pV cV (yS v)] (Y:=(Option Addr)×Nat) (fun y=> .slice (y.1) 3 (y.2)) (fun y=>[zI (rS rQ) (y.1) (y.2) (Ro.mv A v)]):=by
 refine zg Tryz.func242 rfl rfl (fun c=> ?_)
 refine zN 0 rfl (fun hL0=> ?_)
 refine zN 1 rfl (fun hL1=> ?_)
 have hAl:=hA.l
 have hc0:=Ro.zkh v (i:=0) dd
 have hcl:=Ro.zkg v
 refine jS 1 rfl<|kS 3 rfl<|vX (zM (x0:=((yS v).getD 0 [])) 1 0 rfl ya vC rfl zL rfl rfl (gD (d:=[]) om)) ?_
 rintro ⟨b1,o2,p3,c4⟩ -
 refine zw (zf (j:=0) 0 vF rfl rfl rfl rfl)<|kS 1 rfl ?_
 have e5:(((((yS v).getD 0 []).length:Nat):Int):Int)=((1:Nat):Int):=Oo
 rw [e5]
 refine zm (q7 rfl rfl) zP (zkx dd dd) (.n) ?_
 rintro ⟨a0,a1,hs⟩ hzs
 refine jn 1 rfl<|k12 1 rfl<|zk<|z5 (X:=Nat) (fun x=>x≤3) (fun x=>[(6,Vi x)]) [5,0,1] (fun x=>[rowA 62 rV a0 a1 (oh hs 1),vp 32 rQ hs (Ro.mz A v x 0)]) (fun x=>[]) [2,3] (fun x=>3 - x) 0 (by exact yT _) (.e rfl vA .n) ((.c (i:=0) rfl (.e (i:=0) rfl zL .n)):zJ _ _ _) sN ?_
 rintro i hI
 refine qe<|k12 4 rfl<|zx rfl (fun h8=> ?_) (fun h8=> ?_)
 refine vY<|zk<|k12 1 rfl<|zk<|z5 (X:=Nat) (fun x=>x≤1) (fun x=>[(7,Vi x)]) [6,5,0,1] (fun x=>[rowA 62 rV a0 a1 (oh hs 1),vp 32 rQ hs (Ro.mz A v i x)]) (fun x=>[]) [0,1] (fun x=>1 - x) 0 (by exact yT _) (.e rfl vA .n) ((.of [0,0] rfl):zJ _ _ _) sN ?_
 rintro j hJ
 refine qe<|jK 2 rfl<|vX (zM (x0:=((yS v).getD 0 [])) 1 0 rfl ya vC rfl zL rfl rfl (gD (d:=[]) om)) ?_
 rintro ⟨b9,o10,p11,c12⟩ -
 refine zw (zf (j:=0) 0 vF rfl rfl rfl rfl)<|kS 1 rfl ?_
 have a3:(((((yS v).getD 0 []).length:Nat):Int):Int)=((1:Nat):Int):=Oo
 rw [a3]
 refine vZ 1 rfl<|zx rfl (fun a4=> ?_) (fun a4=> ?_)
 refine vY<|zk<|vg<|zm (qS rfl) zP (zkw zL) (.n) ?_
 rintro ⟨a5,a6⟩ -
 refine zB (zo vh rfl) (fun a2=> ?_)
 refine zh 0 rfl rfl rfl rfl qk (.t4 .nil) .z<|ZI<|k12 1 rfl<|zk<|z5 (X:=Nat×Wd×Wd) (fun x=>x.1≤3) (fun x=>[(9,Vi x.1)]) [8,7,6,5,0,1] (fun x=>[zK a2 32 (cw [x.2.1,x.2.2]),rowA 62 rV a0 a1 (oh hs 1),vp 32 rQ hs (Ro.mz A v i j)]) (fun x=>[qF true x.2.1 x.2.2 (yL (A.getD i []) v x.1)]) [3,4] (fun x=>3 - x.1) (0,a5,a6) (by exact yT _) (.e rfl vA .n) ((.of [0,0,0] rfl):zJ _ _ _) ((.e (j:=0) rfl (by rfl) .n)) ?_
 rintro ⟨k,wa,wb⟩ a7
 dsimp only at a7
 refine qe<|k12 4 rfl<|zx rfl (fun a8=> ?_) (fun a8=> ?_)
 refine vY<|zk ?_
 have hri:=hA.r i om
 have hck:=Ro.zkh v (i:=k) om
 refine Vk 17<|qy 0 rfl (za 0 qp rfl rfl (.t4 .nil))<|zQ 1 rfl rfl<|zQ 2 rfl rfl<|jc 3 rfl (zM (x0:=(A.getD i [])) 1 i rfl ya vC rfl zL rfl rfl (gD (d:=[]) om)) ?_
 rintro ⟨b19,o20,p21,c22⟩ -
 refine vE 4 rfl (zf (j:=0) 0 vF rfl rfl rfl rfl)<|zQ 5 rfl rfl<|jc 6 rfl (zM (x0:=((A.getD i []).getD k (0:Rat))) 1 k rfl yb qk rfl zL rfl rfl (gD (d:=(0:Rat)) om)) ?_
 rintro ⟨b23,o24,w25,w26⟩ -
 refine vi qR<|vE 7 rfl (zA (j:=0) 0 qp rfl rfl rfl (.t4 .nil))<|zQ 8 rfl rfl<|zQ 9 rfl rfl<|jc 10 rfl (zM (x0:=((yS v).getD k [])) 6 k rfl ya vC rfl zL rfl rfl (gD (d:=[]) om)) ?_
 rintro ⟨b27,o28,p29,c30⟩ -
 refine vE 11 rfl (zf (j:=0) 0 vF rfl rfl rfl rfl)<|zQ 12 rfl rfl<|jc 13 rfl (zM (x0:=(((yS v).getD k []).getD j (0:Rat))) 1 j rfl yb qk rfl zL rfl rfl (gD (d:=(0:Rat)) om)) ?_
 rintro ⟨b31,o32,w33,w34⟩ -
 refine vi qR<|vE 14 rfl (zA (j:=0) 0 qp rfl rfl rfl (.t4 .nil)) ?_
 have a9:((((yS v).getD k []).getD j (0:Rat)):Rat)=(v.getD k 0):=by exact Ro.zqH v om om
 rw [a9]
 refine zt 15 (zp rfl (q7 rfl rfl) zP (jH (by have h8:yr ((A.getD i []).getD k 0)≤100000:=hbA i k;have h9:=hbv k;omega)) (vj 5 1 rfl rfl) ?_)
 rintro ⟨b4,b5⟩ -
 refine zt 16 (zp rfl q7 zP (Wl (k1:=true) (u1:=wa) (v1:=wb) (q1:=(yL (A.getD i []) v k)) (k2:=true) (u2:=b4) (v2:=b5) (q2:=((A.getD i []).getD k (0:Rat))*(v.getD k 0)) (by have h8:yr ((A.getD i []).getD k 0)≤100000:=hbA i k;have h9:=hbv k;have h7:=Td.zgp (fun c=>hbA i c) hbv k;have h6:k*(2*100000+1)≤3*(2*100000+1):=yab _ om;have h5:=Big.jB ((A.getD i []).getD k 0) (v.getD k 0);omega)) (vj 9 0) ?_)
 rintro ⟨b6,b7⟩ -
 refine zt 17 (zH rfl rfl rfl rfl qk (.t4 .nil) ?_)
 refine zU kr<|zG<|zi<|vM 1 rfl<|zE (qj rfl rfl)<|qY 1 rfl<|zW ((k+1),b6,b7) (by show k+1≤3;omega) om (mR rfl) ((.of [0,0,0] rfl):zJ _ _ _) ((.e (j:=0) rfl zL (.of [11,12] rfl)))
 refine z7<|ze<|ze<|zn<|zi<|vk (.c (i:=2) rfl (.c (i:=0) rfl (.c (i:=0) rfl .n)))<|V4 7 (.block (.then (.then (.block (.block (.then (.then (.block (.then .ret))))))))) (OW:=[vp 32 rQ hs (Ro.mz A v i j)]) (O:=[zK a2 32 (cw [wa,wb]),rowA 62 rV a0 a1 (oh hs 1)])<|zQ 0 rfl rfl ?_
 refine zQ 1 rfl rfl ?_
 refine qy 2 rfl (qQ 2 i rfl ya vC rfl (by first|rfl|assumption|omega|exact hA.l|exact Ro.zkg v|(rw [Z0];omega)) rfl rfl om) ?_
 refine QM 3 rfl (qi (x0:=((rp hs i),1,(rc hs i))) (v:= .slice (rp hs i) 1 (rc hs i)) 2 i rfl vF rfl rfl (Q2 ((Ro.zaT A v i j hzs).hk om)) rfl) (fun _ c2=> ?_)
 refine zQ 4 rfl rfl<|qy 5 rfl (za 1 qp rfl rfl (.t4 .nil))<|qy 6 rfl (jJ 0 i j rfl ((Ro.zaT A v i j hzs).hk om) ((Ro.zaT A v i j hzs).mk' om) ((Ro.zaT A v i j hzs).row om) yb qk rfl rfl rfl om)<|zt 7 (VH (A':=fun _=>vp 32 rQ hs ((Ro.mz A v i j).set i (((Ro.mz A v i j).getD i []).set j (yL (A.getD i []) v k)))) kr rfl (Jv (r:=rQ) (k:=i) (j:=j) (x0:=(yL (A.getD i []) v k)) (γ0:=(wa,wb)) ((Ro.zaT A v i j hzs).hk om) ((Ro.zaT A v i j hzs).mk' om) rfl rfl (by rw [(Ro.zaT A v i j hzs).row om];omega) rfl rfl qk (fun g hr=>Holds.get 0 rfl hr)) (hw':=rfl) (hd:=rfl) (fun _ _=> ?_))
 refine zU kr<|zG<|zi<|vM 1 rfl<|zE (qj rfl rfl)<|qY 1 rfl<|zW (j+1) (show (j+1)≤1 from by show j+1≤1;omega) (by show 1 - (j+1)<1 - j;omega) (mR rfl) (ho:=((.c (i:=2) rfl (.e (i:=0) rfl (by first|rfl|(rw [← Ro.zki A v om om];rfl)|(rw [← Ro.zki A v om om,show k=3 by omega];rfl)) .n)):zJ _ _ _)) ((.of [1,2] rfl):q9 _ _ _)
 refine z7<|ze<|ze<|zn<|zG<|zi<|vM 1 rfl<|zE (qj rfl rfl)<|qY 1 rfl ?_
 have b8:Ro.mz A v i j=Ro.mz A v (i+1) 0:=by rw [show j=1 by omega];exact Ro.zqJ A v i
 rw [b8]
 refine zW (i+1) (by show i+1≤3;omega) om (mR rfl) ((.of [0,0] rfl):zJ _ _ _) ((.of [2,3] rfl))
 refine z7<|ze<|ze<|zn<|zi<|Zn 2 rfl<|ZH (fun w mm=>mm.rmFreeze 0 1 rfl rfl ((Ro.zaT A v i 0 hzs).hl) ((Ro.zaT A v i 0 hzs).rl)) ?_
 try dsimp only [yae]
 have c1:(Ro.mz A v i 0:List (List Rat))=Ro.mv A v:=by rw [show i=3 by omega];exact Ro.ztd A v
 rw [c1]
 exact zq rfl (a0,a1) trivial (zj rfl) rfl oN (s0 rfl)
theorem zq2 {pA:Option Addr} {cA:Nat} {A:List (List Rat)} {v:List Rat}:CB 241 [.slice pA 3 cA] [zI (rS rQ) pA cA (Ro.mv A v)] (Y:=(Option Addr)×Nat) (fun y=> .slice (y.1) 3 (y.2)) (fun y=>[zI rQ (y.1) (y.2) (Ro.av A v 3)]):=by
 refine zg Tryz.func241 rfl rfl (fun c=> ?_)
 refine zN 0 rfl (fun hL0=> ?_)
 have hml:=Ro.ziB A v
 refine jS 1 rfl<|qZ (vq rQ yb jf) (fun b1 _=> ?_)
 refine jn 1 rfl<|k12 1 rfl<|zk<|z5 (X:=Nat×(Option Addr)×Nat) (fun x=>x.1≤3) (fun x=>[(3,.slice (x.2.1) (x.1) (x.2.2)),(4,Vi x.1)]) [2,0] (fun x=>[rowA 32 rQ (x.2.1) (x.2.2) (Ro.av A v x.1)]) (fun x=>[]) [0] (fun x=>3 - x.1) (0,Sb b1,0) (by exact yT _) (.c rfl (.e rfl vA .n)) ((.e (i:=0) rfl (by rfl) .n):zJ _ _ _) sN ?_
 rintro ⟨i,pR,cR⟩ hI
 dsimp only at hI
 refine qe<|k12 4 rfl<|zx rfl (fun h2=> ?_) (fun h2=> ?_)
 refine vY<|zk ?_
 have hmi:=Ro.zte A v (i:=i) om
 refine vM 3 rfl<|vX (zM (x0:=((Ro.mv A v).getD i [])) 0 i rfl ya vC rfl zL rfl rfl (gD (d:=[]) om)) ?_
 rintro ⟨b3,o4,p5,c6⟩ -
 refine zw (zf (j:=0) 0 vF rfl rfl rfl rfl)<|vX (zM (x0:=(((Ro.mv A v).getD i []).getD 0 (0:Rat))) 1 0 rfl yb qk rfl zL rfl rfl (gD (d:=(0:Rat)) om)) ?_
 rintro ⟨b7,o8,w9,a0⟩ -
 refine vd qR<|zw (zA (j:=0) 0 qp rfl rfl rfl (.t4 .nil))<|qZ (qA (r:=rQ) (k:=1) yb jf rfl dd dd dd (.c (x:=(((Ro.mv A v).getD i []).getD 0 (0:Rat))) (cs:=[w9.b,w9.l,a0.b,a0.l]) (w9,a0) rfl rfl rfl (fun g hr=>Holds.get 1 rfl hr) .n)) (fun b11 _=> ?_)
 refine qt 0 rfl .z<|vO 1 rfl (qT 0 rfl yb jf dd rfl rfl (by first|rfl|assumption|omega|exact Ro.ziB A v|(rw [Ro.ziC];done)|(simp;done)) rfl (by first|rfl|assumption|omega|exact Ro.ziB A v|(rw [Ro.ziC];done)|(simp;done)) om om) (fun _=>(.s .z)) ?_
 rintro ⟨a1,a2⟩ -
 dsimp only [aq,nq,cq]
 refine qY 1 rfl<|zG<|zi<|vM 1 rfl<|zE (qj rfl rfl)<|qY 1 rfl<|zW ((i+1),a1,a2) (by dsimp only;show i+1≤3;omega) (by dsimp only;omega) ((.e rfl vA (.of rfl)):vQ _ _) (ho:=((.e (i:=1) rfl (by first|rfl|(rw [← Ro.zqK,←Ro.ztf A v om])) .n):zJ _ _ _)) ((.c (j:=5) rfl .n):q9 _ _ _)
 refine z7<|ze<|ze<|zn<|zi<|Zn 2 rfl ?_
 have a3:(Ro.av A v i)=(Ro.av A v 3):=by rw [show i=3 by omega]
 rw [a3]
 refine vK 0 rfl .z ?_
 exact zq rfl (pR,cR) trivial (zj rfl) (by rw [show i=3 by omega]) oN (s0 rfl)
theorem zq3 {pA:Option Addr} {cA:Nat} {A:List (List Rat)} {pV:Option Addr} {cV:Nat} {v:List Rat} (hA:Ro.m33 A) (hv3:v.length=3) (hbA:yO A 100000) (hbv:∀i,yr (v.getD i 0)≤100000):CB 186 [.slice pA 3 cA,.slice pV 3 cV] [zI (rS rQ) pA cA A,zI rQ pV cV v] (Y:=(Option Addr)×Nat) (fun y=> .slice (y.1) 3 (y.2)) (fun y=>[zI rQ (y.1) (y.2) (Ro.av A v 3)]):=by
 refine zg Tryz.func186 rfl rfl (fun c=> ?_)
 refine zN 0 rfl (fun hL0=> ?_)
 refine zN 1 rfl (fun hL1=> ?_)
 refine jS 1 rfl<|kS 2 rfl<|zm (qS rfl) zP (zq0 qB) (qX 1 rfl) ?_
 rintro ⟨p31,c32⟩ -
 refine zm (q7 rfl rfl) zP (zq1 qB qB qB qB) (vj 1 0 rfl rfl) ?_
 rintro ⟨p33,c34⟩ -
 refine zm (qS rfl) zP zq2 (qX 0 rfl) ?_
 rintro ⟨a0,a1⟩ -
 refine Zp 1 rfl ?_
 exact zq rfl (a0,a1) trivial (zj rfl) rfl oN (s0 rfl)
theorem zhb {z:Int} {p:Option Addr} {cap:Nat} (hz:Big.ln z≤10000000):CC 188 [.agg #[.bool (decide (z<0)),.slice p ((yM ((z).natAbs)).length) cap]] [zI (rI .u32) p cap (yM ((z).natAbs))] (Y:=Int×Bool) (fun y=>(-9223372036854775808≤y.1∧y.1≤9223372036854775807)∧(y.2=true→y.1=z)) (fun y=> .tuple #[.int .i64 (y.1),.bool (y.2)]) (fun y=>[]):=by
 refine zg Tryz.func188 rfl rfl (fun c=> ?_)
 refine zN 0 rfl (fun hL0=> ?_)
 have hdo:=Big.qG z.natAbs
 have hrz:Big.raw (decide (z<0)) (yM z.natAbs)=z:=Big.vl z
 have hz8:(yM z.natAbs).length≤10000000:=hz
 refine vg<|zB (zX rfl rfl) (fun b1=> ?_)
 refine jD 2 rfl<|zw (za 0 z4 rfl rfl (.t2 .nil))<|zm (qS rfl) zP (KV zL) (qX 0) ?_
 rintro ⟨a0,a1⟩ -
 refine zh 0 rfl rfl rfl rfl z8 (.t2 .nil) .z<|Vj<|zm (qS rfl) zP (zaq zL) (.n) ?_
 rintro ⟨p24,c25⟩ -
 refine zm (qS rfl) zP (zaq zL) (.n) ?_
 rintro ⟨p26,c27⟩ -
 refine zB (zo jo rfl) (fun b8=> ?_)
 refine zB (zo jo rfl) (fun b9=> ?_)
 refine zh 1 rfl rfl rfl rfl z8 (.t2 .nil) (.s .z)<|zh 0 rfl rfl rfl rfl z8 (.t2 .nil) .z<|ZI<|ji (X:=Unit) (fun x=>True) (fun x=>[(21,.bool (decide (((z - (-9223372036854775808:Int)).sign<0)∨(0<(z - (9223372036854775807:Int)).sign)))),(1,Vp b1)]) (fun x=>[zK b1 30 [.bool (decide (z<0)),.slice a0 ((yM ((z).natAbs)).length) a1]]) (fun x=>[zI (rI .u32) a0 a1 (yM ((z).natAbs))]) ?_ ?_
 refine zv<|zw (za 2 z4 rfl rfl (.t2 .nil))<|zw (za 1 z4 rfl rfl (.t2 .nil))<|qg (.c rfl (.c rfl .n)) zP (JJ (by first|rfl|assumption|omega|decide|exact yV hz dd) (by first|rfl|assumption|omega|decide|exact yV hz dd)) (vj 2 1) ?_
 refine kS 1 rfl<|q8 (qU rfl) (fun a6=> ?_) (fun a6=> ?_)
 refine qY 5 rfl ?_
 exact qL () Qn ((.e rfl (congrArg Value.bool JS) (.c rfl .n))) ((.c (i:=2) rfl .n):zJ _ _ _) ((.c (j:=2) rfl .n))
 refine zw (za 2 z4 rfl rfl (.t2 .nil))<|zw (za 0 z4 rfl rfl (.t2 .nil))<|qg (.c rfl (.c rfl .n)) zP (JJ (by first|rfl|assumption|omega|decide|exact yV hz dd) (by first|rfl|assumption|omega|decide|exact yV hz dd)) (vj 2 0) ?_
 refine qY 2 rfl ?_
 exact qL () Qn ((.e rfl (congrArg Value.bool JS) (.c rfl .n))) ((.c (i:=2) rfl .n):zJ _ _ _) ((.c (j:=2) rfl .n))
 rintro ⟨⟩ -
 refine zx rfl (fun a2=> ?_) (fun a2=> ?_)
 refine Zn 2 rfl<|zD ?_
 exact vD rfl (0,false) (⟨Od,fun k=>by cases k⟩) (zj rfl) (zj rfl) rfl oN sN
 have hzr: -9223372036854775808≤z∧z≤9223372036854775807:=⟨Ro.zth (fun e=>a2 (.inl e)),Ro.zti (fun e=>a2 (.inr e))⟩
 refine k83 1 rfl<|vg<|zE (zb yD rfl Zu rfl rfl)<|zw (zc 0 jQ rfl rfl rfl)<|kS 1 rfl<|zE (qx rfl rfl w6)<|vZ 1 rfl<|zk<|z5 (X:=Nat) (fun x=>x≤(yM z.natAbs).length) (fun x=>[(6,.int .i64 (Ro.acc z x)),(7,.int .i64 (((x:Nat):Int) - 1))]) [1] (fun x=>[zK b1 30 [.bool (decide (z<0)),.slice a0 ((yM ((z).natAbs)).length) a1]]) (fun x=>[]) [0] (fun x=>x) ((yM z.natAbs).length) (by exact yad _) (.e rfl (by rw [Ro.zqP]) (.e rfl vA .n)) (o0 rfl) sN ?_
 rintro k hI
 have hg1:=Big.qC hdo (k - 1)
 have hb9:=Ro.zoE hzr k
 have hb8:=Ro.zoE hzr (k - 1)
 have hs9:=fun (h:z<0) (h2:0<k)=>Ro.zkl h h2
 have hs8:=fun (h:¬z<0) (h2:0<k)=>Ro.zkm h h2
 refine qe<|k12 2 rfl<|zx rfl (fun a7=> ?_) (fun a7=> ?_)
 refine vY<|zk<|vg<|zE (zb yD rfl Jn rfl rfl)<|zw (zc 0 J5 rfl rfl rfl)<|Vc<|ZN rfl (fun a3=> ?_) (fun a3=> ?_)
 refine vM 1 rfl<|zE (qw rfl rfl w6)<|zE (zb yD rfl Zu rfl rfl)<|zw (zc 0 jQ rfl rfl rfl)<|qJ rfl ?_
 have a8:((((k:Nat):Int) - 1):Int)=(((k - 1):Nat):Int):=Oo
 rw [a8]
 refine qH 0 (k - 1) rfl Tryz.underlying28 qM rfl zL rfl rfl (gD (d:=0) om) (fun b13 o14 a4=> ?_) (x0:=((yM ((z).natAbs)).getD (k - 1) 0))
 replace a4:=zO.1 a4
 refine zw (zf (j:=0) 0 vJ rfl rfl rfl rfl)<|zE (zY (z:=((yM ((z).natAbs)).getD (k - 1) 0)) rfl (by rw [Tryz.underlying133];rfl) yi (Q9 om))<|zE (qx rfl rfl w6)<|qY 1 rfl<|zG<|zi<|vM 1 rfl<|zE (qx rfl rfl w6)<|qY 1 rfl<|zW (k - 1) (by show k - 1≤_;omega) om ((.e rfl (by rw [← Ro.zkl (of_decide_eq_true a3) om]) (.e rfl zL (.c rfl .n)))) (o0 rfl) ((.c (j:=1) rfl .n))
 refine vM 1 rfl<|zE (qw rfl rfl w6)<|zE (zb yD rfl Zu rfl rfl)<|zw (zc 0 jQ rfl rfl rfl)<|qJ rfl ?_
 have a9:((((k:Nat):Int) - 1):Int)=(((k - 1):Nat):Int):=Oo
 rw [a9]
 refine qH 0 (k - 1) rfl Tryz.underlying28 qM rfl zL rfl rfl (gD (d:=0) om) (fun b17 o18 a5=> ?_) (x0:=((yM ((z).natAbs)).getD (k - 1) 0))
 replace a5:=zO.1 a5
 refine zw (zf (j:=0) 0 vJ rfl rfl rfl rfl)<|zE (zY (z:=((yM ((z).natAbs)).getD (k - 1) 0)) rfl (by rw [Tryz.underlying133];rfl) yi (Q9 om))<|zE (qm rfl rfl w6)<|qY 1 rfl<|zG<|zi<|vM 1 rfl<|zE (qx rfl rfl w6)<|qY 1 rfl<|zW (k - 1) (by show k - 1≤_;omega) om ((.e rfl (by rw [← Ro.zkm (of_decide_eq_false a3) om]) (.e rfl zL (.c rfl .n)))) (o0 rfl) ((.c (j:=1) rfl .n))
 refine z7<|ze<|ze<|zn<|zi<|Zn 3 rfl ?_
 exact vD rfl ((Ro.acc z k),true) (⟨by rw [show k=0 by omega,Ro.zkk];exact hzr,fun _=>by rw [show k=0 by omega,Ro.zkk]⟩) (zj rfl) (zj rfl) rfl oN sN
theorem zbE {z:Int} (hz:Big.ln z≤10000000):jI yt 188 [.agg #[w1.b,w1.l]] [] [zF w1 (z)] (Y:=(Int)×(Bool)) (fun y=>(-9223372036854775808≤y.1∧y.1≤9223372036854775807)∧(y.2=true→y.1=z)) (fun y=> .tuple #[yaf yag (y.1),.bool (y.2)]) (fun y=>[]) (fun y=>[]):=by
  exact WP (fun p c=>zhb hz)
theorem jX {k1:Bool} {u1:Wd} {v1:Wd} {q1:Rat} {k2:Bool} {u2:Wd} {v2:Wd} {q2:Rat} (hl:yr q1+yr q2+1≤1099511627776) (hy:q2≠0):jI yt 43 [.agg #[u1.b,u1.l,v1.b,v1.l],.agg #[u2.b,u2.l,v2.b,v2.l]] [] [qF k1 u1 v1 (q1),qF k2 u2 v2 (q2)] (Y:=(Wd)×(Wd)) (fun y=>True) (fun y=> .tuple #[.agg #[y.1.b,y.1.l,y.2.b,y.2.l],yaf yag (0)]) (fun y=>[]) (fun y=>[qF true y.1 y.2 (q1 / q2)]):=by
  have h:= @zay k1 u1 v1 q1 k2 u2 v2 q2 hl
  rw [if_neg hy,decide_eq_true hy] at h
  exact h
theorem zlC {p:Option Addr} {n:Nat} {cap:Nat} {l:List Int} (hn:l.length=n):CC 190 [.slice p n cap] [zI (rI .i64) p cap l] (Y:=Bool) (fun y=>(y=false→∀jj,jj<n→(-0x100000≤l.getD jj 0∧l.getD jj 0≤0x100000))) (fun y=> .bool y) (fun y=>[]):=by
 refine zg Tryz.func190 rfl rfl (fun c=> ?_)
 refine zN 0 rfl (fun hL0=> ?_)
 refine jg 1 rfl<|k12 3 rfl<|zk<|z5 (X:=Nat) (fun x=>x≤n∧∀k,k<x→(-0x100000≤l.getD k 0∧l.getD k 0≤0x100000)) (fun x=>[(7,Vi x)]) [6,5] (fun x=>[]) (fun x=>[]) [0] (fun x=>n - x) 0 (by exact ⟨yT _,fun j h=>by omega⟩) (.e rfl vA .n) oN sN ?_
 rintro i hI
 obtain ⟨hi,hall⟩:=hI
 refine jg 1 rfl<|zx rfl (fun h1=> ?_) (fun h1=> ?_)
 refine vY<|zk<|vg<|qH 0 i rfl ye je rfl zL rfl rfl (gD (d:=0) om) (fun b2 o3 a0=> ?_) (x0:=(l.getD i 0))
 replace a0:=zu.1 a0
 refine zw (zf (j:=0) 0 v8 rfl rfl rfl rfl)<|vZ 1 rfl<|ji (X:=Unit) (fun x=>True) (fun x=>[(16,.bool (decide ((0x100000<(l.getD i 0))∨((l.getD i 0)<(-0x100000))))),(7,Vi i),(6,Vi n),(5,.slice p n cap)]) (fun x=>[]) (fun x=>[zI (rI .i64) p cap l]) ?_ ?_
 refine vM 2 rfl<|q8 (qU rfl) (fun h5=> ?_) (fun h5=> ?_)
 refine qY 3 rfl ?_
 exact qL () Qn ((.e rfl (congrArg Value.bool JS) (.of rfl))) oN ((.c (j:=1) rfl .n))
 refine qY 3 rfl ?_
 exact qL () Qn ((.e rfl (congrArg Value.bool JS) (.of rfl))) oN ((.c (j:=1) rfl .n))
 rintro ⟨⟩ -
 refine zx rfl (fun a1=> ?_) (fun a1=> ?_)
 refine Zn 1 rfl<|qz<|zD<|zD<|qz<|zD ?_
 exact zq rfl true (fun k=>by cases k) (zj rfl) rfl oN sN
 refine qN<|zG<|zi<|zv<|zE (qj rfl rfl)<|qY 1 rfl<|zW (i+1) (by refine ⟨Oo,fun k hk=> ?_⟩;by_cases e:k=i;rw [e];omega;exact hall k om) om (mR rfl) oN (s0 rfl)
 refine z7<|ze<|ze<|zn<|zi<|Zn 1 rfl ?_
 exact zq rfl false (fun _ k hk=>hall k om) (zj rfl) rfl oN sN
theorem zee {s:St} {z1:Int} {z2:Int} {z3:Int} (hs:s.ok) (hz1:yu z1) (hz2:yu z2) (hz3:yu z3):CC 107 [.agg #[.int .i64 (s.x),.int .i64 (s.y),.int .i64 (s.z),.int .i64 (s.a),.int .i64 (s.b),.int .i64 (s.c),.int .i64 (s.d),.int .i64 (s.f),.int .i64 (s.u),.int .i64 (s.v)],.agg #[.int .i64 z1,.int .i64 z2,.int .i64 z3]] [] (Y:=(Option Addr)×Nat×(List Rat)×Bool) (fun y=>(y.2.2.2=true→y.2.2.1=(Ro.im s z1 z2 z3)∧(yh s z1 z2 z3).getD 2 0≠0)) (fun y=> .tuple #[.slice (y.1) (y.2.2.1.length) (y.2.1),.bool (y.2.2.2)]) (fun y=>[zI rQ (y.1) (y.2.1) (y.2.2.1)]):=by
 refine zg Tryz.func107 rfl rfl (fun c=> ?_)
 have d9:=Ro.zkn hs hz1 hz2 hz3
 have hdl:=Ro.zoF s z1 z2 z3
 have hdv:=Ro.zoa hs hz1 hz2 hz3
 obtain ⟨⟨hsx,hsy,hsz⟩,⟨hsu,hsv,hsf⟩,-⟩:=hs.p
 have f5:=And.intro hsx (And.intro hsy (And.intro hsz (And.intro hsu (And.intro hsv hsf))))
 have f6:=And.intro hz1 (And.intro hz2 hz3)
 unfold yu at f5 f6
 have hf9:=Ro.VF (z:=s.f) om
 have hu9:=Ro.VF (z:=s.u) om
 have hv9:=Ro.VF (z:=s.v) om
 refine vg<|zB (zX rfl rfl) (fun b1=> ?_)
 refine zB (zX rfl rfl) (fun b2=> ?_)
 refine jD 2 rfl<|zE (zb yd rfl zep rfl rfl)<|zw (za 1 zae rfl rfl (.s2 (.skip (.t4 .nil))))<|zm (qS rfl) zP (zqY (by exact hs.q) (by exact hs.p.2.2.1) (by exact hs.p.2.2.2.1) (by exact hs.p.2.2.2.2.1) (by exact hs.p.2.2.2.2.2)) (.n) ?_
 rintro ⟨a6,a7⟩ -
 refine jn 5 rfl<|Jo 100000<|zQ 0 rfl rfl<|zC 2 rfl (zb yg rfl je rfl rfl)<|vE 3 rfl (zc 0 v8 rfl rfl rfl)<|zC 4 rfl (zb yd rfl VS rfl rfl)<|zC 5 rfl (zb yg rfl je rfl rfl)<|vE 6 rfl (zc 1 v8 rfl rfl rfl)<|zC 7 rfl (qx rfl rfl w6)<|zC 9 rfl (zb yg rfl je rfl rfl)<|vE 10 rfl (zc 0 v8 rfl rfl rfl)<|zC 11 rfl (zb yd rfl VS rfl rfl)<|zC 12 rfl (zb yg rfl je rfl rfl)<|vE 13 rfl (zc 1 v8 rfl rfl rfl)<|zC 14 rfl (qx rfl rfl w6)<|zC 16 rfl (zb yg rfl je rfl rfl)<|vE 17 rfl (zc 0 v8 rfl rfl rfl)<|zC 18 rfl (zb yd rfl VS rfl rfl)<|zC 19 rfl (zb yg rfl je rfl rfl)<|vE 20 rfl (zc 1 v8 rfl rfl rfl)<|zC 21 rfl (qx rfl rfl w6)<|zt 1 (zp rfl (qS rfl) zP (zqZ (by exact Ro.zdi _ _ _ _)) (qX 0 rfl) ?_)
 rintro ⟨a8,a9⟩ -
 refine zt 8 (zp rfl (qS rfl) zP (Qf zL) (.n) ?_)
 rintro ⟨wqa,wqb⟩ -
 refine zt 15 (zp rfl (qS rfl) zP (Qf zL) (.n) ?_)
 rintro ⟨wqc,wqd⟩ -
 refine zt 22 (zp rfl (qS rfl) zP (Qf zL) (.n) ?_)
 rintro ⟨wqe,wqf⟩ -
 refine zt 23 (V5 rfl (qA (r:=rQ) (k:=3) yb jf rfl dd dd dd (.c (x:=(((z1 - s.x):Int):Rat)) (cs:=[wqa.b,wqa.l,wqb.b,wqb.l]) (wqa,wqb) rfl rfl rfl (fun g hr=>Holds.get 2 rfl hr) (.c (x:=(((z2 - s.y):Int):Rat)) (cs:=[wqc.b,wqc.l,wqd.b,wqd.l]) (wqc,wqd) rfl rfl rfl (fun g hr=>Holds.get 1 rfl hr) (.c (x:=(((z3 - s.z):Int):Rat)) (cs:=[wqe.b,wqe.l,wqf.b,wqf.l]) (wqe,wqf) rfl rfl rfl (fun g hr=>Holds.get 0 rfl hr) .n)))) (fun b7 _=> ?_))
 refine Qw 0 rfl .z<|zt 24 (zp rfl (q7 rfl rfl) zP (zq3 (by exact Ro.zaN _) (by rfl) (by exact (Ro.zfn dd (Ro.zb9 hs)).up dd) (by exact fun i=>yV (hdv i) dd)) (vj 4 0 rfl rfl) ?_)
 rintro ⟨a4,a5⟩ -
 have f7:(Ro.av (yG (yo s.a s.b s.c s.d)) ([(((z1 - s.x):Int):Rat),(((z2 - s.y):Int):Rat),(((z3 - s.z):Int):Rat)]) 3:List Rat)=(yh s z1 z2 z3):=by rfl
 rw [f7]
 refine zC 25 rfl (zT rfl)<|zU kr<|zi<|qe<|jK 1 rfl<|vX (zM (x0:=((yh s z1 z2 z3).getD 2 (0:Rat))) 0 2 rfl yb qk rfl zL rfl rfl (gD (d:=(0:Rat)) om)) ?_
 rintro ⟨b11,o12,f8,f9⟩ -
 refine vd qR<|zw (zA (j:=0) 0 qp rfl rfl rfl (.t4 .nil))<|qg (qS rfl) zP (Ke (by exact yV (d9 2) dd)) (qX 1 rfl)<|vZ 1 rfl<|zx rfl (fun f4=> ?_) (fun f4=> ?_)
 refine Zn 2 rfl<|zD<|QR rQ ?_
 exact vD rfl (none,0,([]:List Rat),false) (fun k=>by cases k) (zj rfl) (zj rfl) rfl oN (s0 rfl)
 have e0:=Ro.ztk f4
 have hm0:=Big.jB ((s.f:Int):Rat) ((yh s z1 z2 z3).getD 0 0)
 have hm1:=Big.jB ((s.f:Int):Rat) ((yh s z1 z2 z3).getD 1 0)
 have g2:=d9 0
 have g3:=d9 1
 have g4:=d9 2
 have hx0:=Big.Qs (((s.f:Int):Rat)*(yh s z1 z2 z3).getD 0 0) e0
 have hx1:=Big.Qs (((s.f:Int):Rat)*(yh s z1 z2 z3).getD 1 0) e0
 refine vY<|vk (.c (i:=2) rfl .n)<|Jo 15<|zC 0 rfl (zb yd rfl je rfl rfl)<|vE 1 rfl (zc 0 v8 rfl rfl rfl)<|zQ 3 rfl rfl<|jc 4 rfl (zM (x0:=((yh s z1 z2 z3).getD 0 (0:Rat))) 2 0 rfl yb qk rfl zL rfl rfl (gD (d:=(0:Rat)) om)) ?_
 rintro ⟨b15,o16,d0,d1⟩ -
 refine vi qR<|vE 5 rfl (zA (j:=0) 0 qp rfl rfl rfl (.t4 .nil))<|zQ 7 rfl rfl<|jc 8 rfl (zM (x0:=((yh s z1 z2 z3).getD 2 (0:Rat))) 4 2 rfl yb qk rfl zL rfl rfl (gD (d:=(0:Rat)) om)) ?_
 rintro ⟨b19,o20,b6,b8⟩ -
 refine vi qR<|vE 9 rfl (zA (j:=0) 0 qp rfl rfl rfl (.t4 .nil))<|jP (m':=[(59,.agg (cw [b6,b8]).toArray),(55,.agg (cw [d0,d1]).toArray),(51,.int .i64 (s.f)),(8,.slice a4 3 a5),(2,Vp b1)]) (R':=[qF true b6 b8 ((yh s z1 z2 z3).getD 2 (0:Rat)),qF true d0 d1 ((yh s z1 z2 z3).getD 0 (0:Rat)),qF true f8 f9 ((yh s z1 z2 z3).getD 2 (0:Rat)),zI rQ a4 a5 (yh s z1 z2 z3),zI rQ (Sb b7) 3 ([(((z1 - s.x):Int):Rat),(((z2 - s.y):Int):Rat),(((z3 - s.z):Int):Rat)]),qF true wqe wqf (((z3 - s.z):Int):Rat),qF true wqc wqd (((z2 - s.y):Int):Rat),qF true wqa wqb (((z1 - s.x):Int):Rat),zI (rS rQ) a8 a9 (yG (yo s.a s.b s.c s.d)),zI (rS rQ) a6 a7 (yo s.a s.b s.c s.d)]) (mR rfl) (List.Perm.refl _) (List.Perm.refl _) ((.of [1,3,5,6,7,8,9,10,11,12] rfl))<|q6 (X:=Wd×Wd×Nat) (k':=0) (L':=(lb 17 131071)) (fun (a1,a2,a0)=>([(9,Vp a0),(8,.slice a4 3 a5),(2,Vp b1)],[zK a0 32 (cw [a1,a2])],[zK b1 84 [.int .i64 (s.x),.int .i64 (s.y),.int .i64 (s.z),.int .i64 (s.a),.int .i64 (s.b),.int .i64 (s.c),.int .i64 (s.d),.int .i64 (s.f),.int .i64 (s.u),.int .i64 (s.v)]],[qF true a1 a2 ((((s.f:Int):Rat)*((yh s z1 z2 z3).getD 0 (0:Rat))) / ((yh s z1 z2 z3).getD 2 (0:Rat))),zI rQ a4 a5 (yh s z1 z2 z3),zI rQ (Sb b7) 3 ([(((z1 - s.x):Int):Rat),(((z2 - s.y):Int):Rat),(((z3 - s.z):Int):Rat)]),zI (rS rQ) a8 a9 (yG (yo s.a s.b s.c s.d)),zI (rS rQ) a6 a7 (yo s.a s.b s.c s.d)])) ?_ (fun e3=> ?_)
 rintro ⟨a1,a2,a0⟩
 refine zU kr<|zi<|qe<|Jo 15<|zC 0 rfl (zb yd rfl je rfl rfl)<|vE 1 rfl (zc 1 v8 rfl rfl rfl)<|zQ 3 rfl rfl<|jc 4 rfl (zM (x0:=((yh s z1 z2 z3).getD 1 (0:Rat))) 1 1 rfl yb qk rfl zL rfl rfl (gD (d:=(0:Rat)) om)) ?_
 rintro ⟨b23,o24,d4,d5⟩ -
 refine vi qR<|vE 5 rfl (zA (j:=0) 0 qp rfl rfl rfl (.t4 .nil))<|zQ 7 rfl rfl<|jc 8 rfl (zM (x0:=((yh s z1 z2 z3).getD 2 (0:Rat))) 3 2 rfl yb qk rfl zL rfl rfl (gD (d:=(0:Rat)) om)) ?_
 rintro ⟨b27,o28,b9,c1⟩ -
 refine vi qR<|vE 9 rfl (zA (j:=0) 0 qp rfl rfl rfl (.t4 .nil))<|jP (m':=[(73,.agg (cw [b9,c1]).toArray),(69,.agg (cw [d4,d5]).toArray),(65,.int .i64 (s.f)),(9,Vp a0),(2,Vp b1)]) (R':=[qF true b9 c1 ((yh s z1 z2 z3).getD 2 (0:Rat)),qF true d4 d5 ((yh s z1 z2 z3).getD 1 (0:Rat)),qF true a1 a2 ((((s.f:Int):Rat)*((yh s z1 z2 z3).getD 0 (0:Rat))) / ((yh s z1 z2 z3).getD 2 (0:Rat))),zI rQ a4 a5 (yh s z1 z2 z3),zI rQ (Sb b7) 3 ([(((z1 - s.x):Int):Rat),(((z2 - s.y):Int):Rat),(((z3 - s.z):Int):Rat)]),zI (rS rQ) a8 a9 (yG (yo s.a s.b s.c s.d)),zI (rS rQ) a6 a7 (yo s.a s.b s.c s.d)]) (mR rfl) (List.Perm.refl _) (List.Perm.refl _) ((.of [1,3,4,5,6,7,8] rfl))<|q6 (X:=Wd×Wd×Nat) (k':=0) (L':=(lb 17 131071)) (fun (b4,b5,a3)=>([(11,Vp a3),(9,Vp a0),(2,Vp b1)],[zK a3 32 (cw [b4,b5])],[zK a0 32 (cw [a1,a2]),zK b1 84 [.int .i64 (s.x),.int .i64 (s.y),.int .i64 (s.z),.int .i64 (s.a),.int .i64 (s.b),.int .i64 (s.c),.int .i64 (s.d),.int .i64 (s.f),.int .i64 (s.u),.int .i64 (s.v)]],[qF true b4 b5 ((((s.f:Int):Rat)*((yh s z1 z2 z3).getD 1 (0:Rat))) / ((yh s z1 z2 z3).getD 2 (0:Rat))),qF true a1 a2 ((((s.f:Int):Rat)*((yh s z1 z2 z3).getD 0 (0:Rat))) / ((yh s z1 z2 z3).getD 2 (0:Rat))),zI rQ a4 a5 (yh s z1 z2 z3),zI rQ (Sb b7) 3 ([(((z1 - s.x):Int):Rat),(((z2 - s.y):Int):Rat),(((z3 - s.z):Int):Rat)]),zI (rS rQ) a8 a9 (yG (yo s.a s.b s.c s.d)),zI (rS rQ) a6 a7 (yo s.a s.b s.c s.d)])) ?_ (fun e3=> ?_)
 rintro ⟨b4,b5,a3⟩
 refine zU kr<|zi<|qe<|Jo 100000<|vE 0 rfl (za 1 qp rfl rfl (.t4 .nil))<|zC 1 rfl (zb yd rfl Qy rfl rfl)<|zC 2 rfl (zb yf rfl je rfl rfl)<|vE 3 rfl (zc 2 v8 rfl rfl rfl)<|vE 6 rfl (za 0 qp rfl rfl (.t4 .nil))<|zC 7 rfl (zb yd rfl Qy rfl rfl)<|zC 8 rfl (zb yf rfl je rfl rfl)<|vE 9 rfl (zc 2 v8 rfl rfl rfl)<|zt 4 (zp rfl (qS rfl) zP (Qf zL) (.n) ?_)
 rintro ⟨g5,g6⟩ -
 refine zt 5 (zp rfl (q7 rfl rfl) zP (Wl zL) (vj 2 0 rfl rfl) ?_)
 rintro ⟨e4,e5⟩ -
 refine zt 10 (zp rfl (qS rfl) zP (Qf zL) (.n) ?_)
 rintro ⟨g7,g8⟩ -
 refine zt 11 (zp rfl (q7 rfl rfl) zP (Wl zL) (vj 3 0 rfl rfl) ?_)
 rintro ⟨e6,e7⟩ -
 refine zt 12 (zp rfl (qS rfl) zP (Qf zL) (.n) ?_)
 rintro ⟨e8,e9⟩ -
 refine zt 13 (V5 rfl (qA (r:=rQ) (k:=3) yb jf rfl dd dd dd (.c (x:=(((((s.f:Int):Rat)*((yh s z1 z2 z3).getD 0 (0:Rat))) / ((yh s z1 z2 z3).getD 2 (0:Rat)))+((s.u:Int):Rat))) (cs:=[e4.b,e4.l,e5.b,e5.l]) (e4,e5) rfl rfl rfl (fun g hr=>Holds.get 3 rfl hr) (.c (x:=(((((s.f:Int):Rat)*((yh s z1 z2 z3).getD 1 (0:Rat))) / ((yh s z1 z2 z3).getD 2 (0:Rat)))+((s.v:Int):Rat))) (cs:=[e6.b,e6.l,e7.b,e7.l]) (e6,e7) rfl rfl rfl (fun g hr=>Holds.get 1 rfl hr) (.c (x:=((1:Int):Rat)) (cs:=[e8.b,e8.l,e9.b,e9.l]) (e8,e9) rfl rfl rfl (fun g hr=>Holds.get 0 rfl hr) .n)))) (fun g0 _=> ?_))
 refine zC 14 rfl (zT rfl)<|zC 15 rfl (zT rfl)<|zU kr<|zi<|vv ?_
 have g1:[(((((s.f:Int):Rat)*((yh s z1 z2 z3).getD 0 (0:Rat))) / ((yh s z1 z2 z3).getD 2 (0:Rat)))+((s.u:Int):Rat)),(((((s.f:Int):Rat)*((yh s z1 z2 z3).getD 1 (0:Rat))) / ((yh s z1 z2 z3).getD 2 (0:Rat)))+((s.v:Int):Rat)),((1:Int):Rat)]=(Ro.im s z1 z2 z3):=by rfl
 rw [g1]
 refine vK 0 rfl .z ?_
 exact vD rfl (Sb g0,3,(Ro.im s z1 z2 z3),true) (fun _=>⟨rfl,e0⟩) (zj rfl) (zj rfl) rfl oN (s0 rfl)
 refine q6 (X:=Wd×Wd×Nat) (k':=2) (L':=(lb 17 32767)) (fun (b4,b5,a3)=>([(11,Vp a3),(76,.int .i64 0),(75,.agg (cw [b4,b5]).toArray),(9,Vp a0),(2,Vp b1)],[zK a3 32 (cw [wz,wz])],[zK a0 32 (cw [a1,a2]),zK b1 84 [.int .i64 (s.x),.int .i64 (s.y),.int .i64 (s.z),.int .i64 (s.a),.int .i64 (s.b),.int .i64 (s.c),.int .i64 (s.d),.int .i64 (s.f),.int .i64 (s.u),.int .i64 (s.v)]],[qF true b4 b5 ((((s.f:Int):Rat)*((yh s z1 z2 z3).getD 1 (0:Rat))) / ((yh s z1 z2 z3).getD 2 (0:Rat))),qF true a1 a2 ((((s.f:Int):Rat)*((yh s z1 z2 z3).getD 0 (0:Rat))) / ((yh s z1 z2 z3).getD 2 (0:Rat))),zI rQ a4 a5 (yh s z1 z2 z3),zI rQ (Sb b7) 3 ([(((z1 - s.x):Int):Rat),(((z2 - s.y):Int):Rat),(((z3 - s.z):Int):Rat)]),zI (rS rQ) a8 a9 (yG (yo s.a s.b s.c s.d)),zI (rS rQ) a6 a7 (yo s.a s.b s.c s.d)])) ?_ (fun d6=> ?_)
 rintro ⟨b4,b5,a3⟩
 refine jt 15 kr<|zH rfl rfl rfl rfl qk (.t4 .nil)<|zC 16 rfl (zT rfl) ?_
 exact qn (e3 (b4,b5,a3)) kr (mR rfl) .rfl .rfl ((.of [0,1,2,3,4,5] rfl))
 refine q6 (X:=Wd×Wd) (k':=3) (L':=(lb 17 16383)) (fun (b4,b5)=>([(76,.int .i64 0),(75,.agg (cw [b4,b5]).toArray),(9,Vp a0),(2,Vp b1)],[],[zK a0 32 (cw [a1,a2]),zK b1 84 [.int .i64 (s.x),.int .i64 (s.y),.int .i64 (s.z),.int .i64 (s.a),.int .i64 (s.b),.int .i64 (s.c),.int .i64 (s.d),.int .i64 (s.f),.int .i64 (s.u),.int .i64 (s.v)]],[qF true b4 b5 ((((s.f:Int):Rat)*((yh s z1 z2 z3).getD 1 (0:Rat))) / ((yh s z1 z2 z3).getD 2 (0:Rat))),qF true a1 a2 ((((s.f:Int):Rat)*((yh s z1 z2 z3).getD 0 (0:Rat))) / ((yh s z1 z2 z3).getD 2 (0:Rat))),zI rQ a4 a5 (yh s z1 z2 z3),zI rQ (Sb b7) 3 ([(((z1 - s.x):Int):Rat),(((z2 - s.y):Int):Rat),(((z3 - s.z):Int):Rat)]),zI (rS rQ) a8 a9 (yG (yo s.a s.b s.c s.d)),zI (rS rQ) a6 a7 (yo s.a s.b s.c s.d)])) ?_ (fun f0=> ?_)
 rintro ⟨b4,b5⟩
 refine jt 14 kr<|jr rfl (zo vh rfl) (fun a3 _=> ?_)
 exact qn (d6 (b4,b5,a3)) kr (mR rfl) .rfl .rfl ((.of [0,1,2,3,4,5] rfl))
 refine q6 (X:=Wd×Wd×Nat) (k':=6) (L':=(lb 17 17407)) (fun (c2,c3,a3)=>([(11,Vp a3),(70,.agg (cw [c2,c3]).toArray),(73,.agg (cw [b9,c1]).toArray),(9,Vp a0),(2,Vp b1)],[zK a3 32 (cw [wz,wz])],[zK a0 32 (cw [a1,a2]),zK b1 84 [.int .i64 (s.x),.int .i64 (s.y),.int .i64 (s.z),.int .i64 (s.a),.int .i64 (s.b),.int .i64 (s.c),.int .i64 (s.d),.int .i64 (s.f),.int .i64 (s.u),.int .i64 (s.v)]],[qF true c2 c3 (((s.f:Int):Rat)*((yh s z1 z2 z3).getD 1 (0:Rat))),qF true b9 c1 ((yh s z1 z2 z3).getD 2 (0:Rat)),qF true a1 a2 ((((s.f:Int):Rat)*((yh s z1 z2 z3).getD 0 (0:Rat))) / ((yh s z1 z2 z3).getD 2 (0:Rat))),zI rQ a4 a5 (yh s z1 z2 z3),zI rQ (Sb b7) 3 ([(((z1 - s.x):Int):Rat),(((z2 - s.y):Int):Rat),(((z3 - s.z):Int):Rat)]),zI (rS rQ) a8 a9 (yG (yo s.a s.b s.c s.d)),zI (rS rQ) a6 a7 (yo s.a s.b s.c s.d)])) ?_ (fun d7=> ?_)
 rintro ⟨c2,c3,a3⟩
 refine jt 10 kr<|zp rfl (q7 rfl rfl) zP (jX zL zL) (vj 0 1 rfl rfl) ?_
 rintro ⟨b4,b5⟩ -
 refine zQ 11 rfl rfl<|zC 12 rfl (qD rfl rfl)<|zC 13 rfl (qD rfl rfl) ?_
 exact qn (d6 (b4,b5,a3)) kr (mR rfl) .rfl .rfl ((.of [0,3,4,5,6,7] rfl))
 refine q6 (X:=Wd×Wd) (k':=7) (L':=(lb 17 1023)) (fun (c2,c3)=>([(70,.agg (cw [c2,c3]).toArray),(73,.agg (cw [b9,c1]).toArray),(9,Vp a0),(2,Vp b1)],[],[zK a0 32 (cw [a1,a2]),zK b1 84 [.int .i64 (s.x),.int .i64 (s.y),.int .i64 (s.z),.int .i64 (s.a),.int .i64 (s.b),.int .i64 (s.c),.int .i64 (s.d),.int .i64 (s.f),.int .i64 (s.u),.int .i64 (s.v)]],[qF true c2 c3 (((s.f:Int):Rat)*((yh s z1 z2 z3).getD 1 (0:Rat))),qF true b9 c1 ((yh s z1 z2 z3).getD 2 (0:Rat)),qF true a1 a2 ((((s.f:Int):Rat)*((yh s z1 z2 z3).getD 0 (0:Rat))) / ((yh s z1 z2 z3).getD 2 (0:Rat))),zI rQ a4 a5 (yh s z1 z2 z3),zI rQ (Sb b7) 3 ([(((z1 - s.x):Int):Rat),(((z2 - s.y):Int):Rat),(((z3 - s.z):Int):Rat)]),zI (rS rQ) a8 a9 (yG (yo s.a s.b s.c s.d)),zI (rS rQ) a6 a7 (yo s.a s.b s.c s.d)])) ?_ (fun f1=> ?_)
 rintro ⟨c2,c3⟩
 refine Qq 10 14 kr ?_ ?_
 refine zp rfl (q7 rfl rfl) zP (jX zL zL) (vj 0 1 rfl rfl) ?_
 rintro ⟨b4,b5⟩ -
 refine zQ 11 rfl rfl<|zC 12 rfl (qD rfl rfl)<|zC 13 rfl (qD rfl rfl) ?_
 exact qn (f0 (b4,b5)) kr (mR rfl) .rfl .rfl ((.of [0,3,4,5,6,7] rfl))
 refine jr rfl (zo vh rfl) (fun a3 _=> ?_)
 exact qn (d7 (c2,c3,a3)) kr (mR rfl) .rfl .rfl ((.of [0,1,2,3,4,5,6] rfl))
 refine q6 (X:=Wd×Wd×Nat) (k':=7) (L':=(lb 17 17343)) (fun (c4,c5,a3)=>([(11,Vp a3),(66,.agg (cw [c4,c5]).toArray),(73,.agg (cw [b9,c1]).toArray),(69,.agg (cw [d4,d5]).toArray),(9,Vp a0),(2,Vp b1)],[zK a3 32 (cw [wz,wz])],[zK a0 32 (cw [a1,a2]),zK b1 84 [.int .i64 (s.x),.int .i64 (s.y),.int .i64 (s.z),.int .i64 (s.a),.int .i64 (s.b),.int .i64 (s.c),.int .i64 (s.d),.int .i64 (s.f),.int .i64 (s.u),.int .i64 (s.v)]],[qF true c4 c5 ((s.f:Int):Rat),qF true b9 c1 ((yh s z1 z2 z3).getD 2 (0:Rat)),qF true d4 d5 ((yh s z1 z2 z3).getD 1 (0:Rat)),qF true a1 a2 ((((s.f:Int):Rat)*((yh s z1 z2 z3).getD 0 (0:Rat))) / ((yh s z1 z2 z3).getD 2 (0:Rat))),zI rQ a4 a5 (yh s z1 z2 z3),zI rQ (Sb b7) 3 ([(((z1 - s.x):Int):Rat),(((z2 - s.y):Int):Rat),(((z3 - s.z):Int):Rat)]),zI (rS rQ) a8 a9 (yG (yo s.a s.b s.c s.d)),zI (rS rQ) a6 a7 (yo s.a s.b s.c s.d)])) ?_ (fun d8=> ?_)
 rintro ⟨c4,c5,a3⟩
 refine jt 6 kr<|zp rfl (q7 rfl rfl) zP (jH zL) (vj 0 2 rfl rfl) ?_
 rintro ⟨c2,c3⟩ -
 exact qn (d7 (c2,c3,a3)) kr (mR rfl) .rfl .rfl ((.of [0,2,4,5,6,7,8] rfl))
 refine q6 (X:=Wd×Wd) (k':=8) (L':=(lb 17 959)) (fun (c4,c5)=>([(66,.agg (cw [c4,c5]).toArray),(73,.agg (cw [b9,c1]).toArray),(69,.agg (cw [d4,d5]).toArray),(9,Vp a0),(2,Vp b1)],[],[zK a0 32 (cw [a1,a2]),zK b1 84 [.int .i64 (s.x),.int .i64 (s.y),.int .i64 (s.z),.int .i64 (s.a),.int .i64 (s.b),.int .i64 (s.c),.int .i64 (s.d),.int .i64 (s.f),.int .i64 (s.u),.int .i64 (s.v)]],[qF true c4 c5 ((s.f:Int):Rat),qF true b9 c1 ((yh s z1 z2 z3).getD 2 (0:Rat)),qF true d4 d5 ((yh s z1 z2 z3).getD 1 (0:Rat)),qF true a1 a2 ((((s.f:Int):Rat)*((yh s z1 z2 z3).getD 0 (0:Rat))) / ((yh s z1 z2 z3).getD 2 (0:Rat))),zI rQ a4 a5 (yh s z1 z2 z3),zI rQ (Sb b7) 3 ([(((z1 - s.x):Int):Rat),(((z2 - s.y):Int):Rat),(((z3 - s.z):Int):Rat)]),zI (rS rQ) a8 a9 (yG (yo s.a s.b s.c s.d)),zI (rS rQ) a6 a7 (yo s.a s.b s.c s.d)])) ?_ (fun f2=> ?_)
 rintro ⟨c4,c5⟩
 refine Qq 6 14 kr ?_ ?_
 refine zp rfl (q7 rfl rfl) zP (jH zL) (vj 0 2 rfl rfl) ?_
 rintro ⟨c2,c3⟩ -
 exact qn (f1 (c2,c3)) kr (mR rfl) .rfl .rfl ((.of [0,2,4,5,6,7,8] rfl))
 refine jr rfl (zo vh rfl) (fun a3 _=> ?_)
 exact qn (d8 (c4,c5,a3)) kr (mR rfl) .rfl .rfl ((.of [0,1,2,3,4,5,6,7] rfl))
 refine q6 (X:=Nat) (k':=8) (L':=(lb 17 17339)) (fun a3=>([(11,Vp a3),(73,.agg (cw [b9,c1]).toArray),(69,.agg (cw [d4,d5]).toArray),(65,.int .i64 (s.f)),(9,Vp a0),(2,Vp b1)],[zK a3 32 (cw [wz,wz])],[zK a0 32 (cw [a1,a2]),zK b1 84 [.int .i64 (s.x),.int .i64 (s.y),.int .i64 (s.z),.int .i64 (s.a),.int .i64 (s.b),.int .i64 (s.c),.int .i64 (s.d),.int .i64 (s.f),.int .i64 (s.u),.int .i64 (s.v)]],[qF true b9 c1 ((yh s z1 z2 z3).getD 2 (0:Rat)),qF true d4 d5 ((yh s z1 z2 z3).getD 1 (0:Rat)),qF true a1 a2 ((((s.f:Int):Rat)*((yh s z1 z2 z3).getD 0 (0:Rat))) / ((yh s z1 z2 z3).getD 2 (0:Rat))),zI rQ a4 a5 (yh s z1 z2 z3),zI rQ (Sb b7) 3 ([(((z1 - s.x):Int):Rat),(((z2 - s.y):Int):Rat),(((z3 - s.z):Int):Rat)]),zI (rS rQ) a8 a9 (yG (yo s.a s.b s.c s.d)),zI (rS rQ) a6 a7 (yo s.a s.b s.c s.d)])) ?_ (fun f3=> ?_)
 rintro a3
 refine jt 2 kr<|zp rfl (qS rfl) zP (Qf zL) (.n) ?_
 rintro ⟨c4,c5⟩ -
 exact qn (d8 (c4,c5,a3)) kr (mR rfl) .rfl .rfl ((.of [0,1,2,3,4,5,6,7] rfl))
 refine Qq 2 14 kr ?_ ?_
 refine zp rfl (qS rfl) zP (Qf zL) (.n) ?_
 rintro ⟨c4,c5⟩ -
 exact qn (f2 (c4,c5)) kr (mR rfl) .rfl .rfl ((.of [0,1,2,3,4,5,6,7] rfl))
 refine jr rfl (zo vh rfl) (fun a3 _=> ?_)
 exact qn (f3 a3) kr (mR rfl) .rfl .rfl ((.of [0,1,2,3,4,5,6] rfl))
 refine q6 (X:=Wd×Wd×Nat) (k':=2) (L':=(lb 17 32767)) (fun (a1,a2,a0)=>([(9,Vp a0),(62,.int .i64 0),(61,.agg (cw [a1,a2]).toArray),(8,.slice a4 3 a5),(2,Vp b1)],[zK a0 32 (cw [wz,wz])],[zK b1 84 [.int .i64 (s.x),.int .i64 (s.y),.int .i64 (s.z),.int .i64 (s.a),.int .i64 (s.b),.int .i64 (s.c),.int .i64 (s.d),.int .i64 (s.f),.int .i64 (s.u),.int .i64 (s.v)]],[qF true a1 a2 ((((s.f:Int):Rat)*((yh s z1 z2 z3).getD 0 (0:Rat))) / ((yh s z1 z2 z3).getD 2 (0:Rat))),zI rQ a4 a5 (yh s z1 z2 z3),zI rQ (Sb b7) 3 ([(((z1 - s.x):Int):Rat),(((z2 - s.y):Int):Rat),(((z3 - s.z):Int):Rat)]),zI (rS rQ) a8 a9 (yG (yo s.a s.b s.c s.d)),zI (rS rQ) a6 a7 (yo s.a s.b s.c s.d)])) ?_ (fun d6=> ?_)
 rintro ⟨a1,a2,a0⟩
 refine jt 15 kr<|zH rfl rfl rfl rfl qk (.t4 .nil)<|zC 16 rfl (zT rfl) ?_
 exact qn (e3 (a1,a2,a0)) kr (mR rfl) .rfl .rfl ((.of [0,1,2,3,4] rfl))
 refine q6 (X:=Wd×Wd) (k':=3) (L':=(lb 17 16383)) (fun (a1,a2)=>([(62,.int .i64 0),(61,.agg (cw [a1,a2]).toArray),(8,.slice a4 3 a5),(2,Vp b1)],[],[zK b1 84 [.int .i64 (s.x),.int .i64 (s.y),.int .i64 (s.z),.int .i64 (s.a),.int .i64 (s.b),.int .i64 (s.c),.int .i64 (s.d),.int .i64 (s.f),.int .i64 (s.u),.int .i64 (s.v)]],[qF true a1 a2 ((((s.f:Int):Rat)*((yh s z1 z2 z3).getD 0 (0:Rat))) / ((yh s z1 z2 z3).getD 2 (0:Rat))),zI rQ a4 a5 (yh s z1 z2 z3),zI rQ (Sb b7) 3 ([(((z1 - s.x):Int):Rat),(((z2 - s.y):Int):Rat),(((z3 - s.z):Int):Rat)]),zI (rS rQ) a8 a9 (yG (yo s.a s.b s.c s.d)),zI (rS rQ) a6 a7 (yo s.a s.b s.c s.d)])) ?_ (fun f0=> ?_)
 rintro ⟨a1,a2⟩
 refine jt 14 kr<|jr rfl (zo vh rfl) (fun a0 _=> ?_)
 exact qn (d6 (a1,a2,a0)) kr (mR rfl) .rfl .rfl ((.of [0,1,2,3,4] rfl))
 refine q6 (X:=Wd×Wd×Nat) (k':=6) (L':=(lb 17 17407)) (fun (c6,c7,a0)=>([(9,Vp a0),(56,.agg (cw [c6,c7]).toArray),(59,.agg (cw [b6,b8]).toArray),(8,.slice a4 3 a5),(2,Vp b1)],[zK a0 32 (cw [wz,wz])],[zK b1 84 [.int .i64 (s.x),.int .i64 (s.y),.int .i64 (s.z),.int .i64 (s.a),.int .i64 (s.b),.int .i64 (s.c),.int .i64 (s.d),.int .i64 (s.f),.int .i64 (s.u),.int .i64 (s.v)]],[qF true c6 c7 (((s.f:Int):Rat)*((yh s z1 z2 z3).getD 0 (0:Rat))),qF true b6 b8 ((yh s z1 z2 z3).getD 2 (0:Rat)),zI rQ a4 a5 (yh s z1 z2 z3),zI rQ (Sb b7) 3 ([(((z1 - s.x):Int):Rat),(((z2 - s.y):Int):Rat),(((z3 - s.z):Int):Rat)]),zI (rS rQ) a8 a9 (yG (yo s.a s.b s.c s.d)),zI (rS rQ) a6 a7 (yo s.a s.b s.c s.d)])) ?_ (fun d7=> ?_)
 rintro ⟨c6,c7,a0⟩
 refine jt 10 kr<|zp rfl (q7 rfl rfl) zP (jX zL zL) (vj 0 1 rfl rfl) ?_
 rintro ⟨a1,a2⟩ -
 refine zQ 11 rfl rfl<|zC 12 rfl (qD rfl rfl)<|zC 13 rfl (qD rfl rfl) ?_
 exact qn (d6 (a1,a2,a0)) kr (mR rfl) .rfl .rfl ((.of [0,3,4,5,6] rfl))
 refine q6 (X:=Wd×Wd) (k':=7) (L':=(lb 17 1023)) (fun (c6,c7)=>([(56,.agg (cw [c6,c7]).toArray),(59,.agg (cw [b6,b8]).toArray),(8,.slice a4 3 a5),(2,Vp b1)],[],[zK b1 84 [.int .i64 (s.x),.int .i64 (s.y),.int .i64 (s.z),.int .i64 (s.a),.int .i64 (s.b),.int .i64 (s.c),.int .i64 (s.d),.int .i64 (s.f),.int .i64 (s.u),.int .i64 (s.v)]],[qF true c6 c7 (((s.f:Int):Rat)*((yh s z1 z2 z3).getD 0 (0:Rat))),qF true b6 b8 ((yh s z1 z2 z3).getD 2 (0:Rat)),zI rQ a4 a5 (yh s z1 z2 z3),zI rQ (Sb b7) 3 ([(((z1 - s.x):Int):Rat),(((z2 - s.y):Int):Rat),(((z3 - s.z):Int):Rat)]),zI (rS rQ) a8 a9 (yG (yo s.a s.b s.c s.d)),zI (rS rQ) a6 a7 (yo s.a s.b s.c s.d)])) ?_ (fun f1=> ?_)
 rintro ⟨c6,c7⟩
 refine Qq 10 14 kr ?_ ?_
 refine zp rfl (q7 rfl rfl) zP (jX zL zL) (vj 0 1 rfl rfl) ?_
 rintro ⟨a1,a2⟩ -
 refine zQ 11 rfl rfl<|zC 12 rfl (qD rfl rfl)<|zC 13 rfl (qD rfl rfl) ?_
 exact qn (f0 (a1,a2)) kr (mR rfl) .rfl .rfl ((.of [0,3,4,5,6] rfl))
 refine jr rfl (zo vh rfl) (fun a0 _=> ?_)
 exact qn (d7 (c6,c7,a0)) kr (mR rfl) .rfl .rfl ((.of [0,1,2,3,4,5] rfl))
 refine q6 (X:=Wd×Wd×Nat) (k':=7) (L':=(lb 17 17343)) (fun (c8,c9,a0)=>([(9,Vp a0),(52,.agg (cw [c8,c9]).toArray),(59,.agg (cw [b6,b8]).toArray),(55,.agg (cw [d0,d1]).toArray),(8,.slice a4 3 a5),(2,Vp b1)],[zK a0 32 (cw [wz,wz])],[zK b1 84 [.int .i64 (s.x),.int .i64 (s.y),.int .i64 (s.z),.int .i64 (s.a),.int .i64 (s.b),.int .i64 (s.c),.int .i64 (s.d),.int .i64 (s.f),.int .i64 (s.u),.int .i64 (s.v)]],[qF true c8 c9 ((s.f:Int):Rat),qF true b6 b8 ((yh s z1 z2 z3).getD 2 (0:Rat)),qF true d0 d1 ((yh s z1 z2 z3).getD 0 (0:Rat)),zI rQ a4 a5 (yh s z1 z2 z3),zI rQ (Sb b7) 3 ([(((z1 - s.x):Int):Rat),(((z2 - s.y):Int):Rat),(((z3 - s.z):Int):Rat)]),zI (rS rQ) a8 a9 (yG (yo s.a s.b s.c s.d)),zI (rS rQ) a6 a7 (yo s.a s.b s.c s.d)])) ?_ (fun d8=> ?_)
 rintro ⟨c8,c9,a0⟩
 refine jt 6 kr<|zp rfl (q7 rfl rfl) zP (jH zL) (vj 0 2 rfl rfl) ?_
 rintro ⟨c6,c7⟩ -
 exact qn (d7 (c6,c7,a0)) kr (mR rfl) .rfl .rfl ((.of [0,2,4,5,6,7] rfl))
 refine q6 (X:=Wd×Wd) (k':=8) (L':=(lb 17 959)) (fun (c8,c9)=>([(52,.agg (cw [c8,c9]).toArray),(59,.agg (cw [b6,b8]).toArray),(55,.agg (cw [d0,d1]).toArray),(8,.slice a4 3 a5),(2,Vp b1)],[],[zK b1 84 [.int .i64 (s.x),.int .i64 (s.y),.int .i64 (s.z),.int .i64 (s.a),.int .i64 (s.b),.int .i64 (s.c),.int .i64 (s.d),.int .i64 (s.f),.int .i64 (s.u),.int .i64 (s.v)]],[qF true c8 c9 ((s.f:Int):Rat),qF true b6 b8 ((yh s z1 z2 z3).getD 2 (0:Rat)),qF true d0 d1 ((yh s z1 z2 z3).getD 0 (0:Rat)),zI rQ a4 a5 (yh s z1 z2 z3),zI rQ (Sb b7) 3 ([(((z1 - s.x):Int):Rat),(((z2 - s.y):Int):Rat),(((z3 - s.z):Int):Rat)]),zI (rS rQ) a8 a9 (yG (yo s.a s.b s.c s.d)),zI (rS rQ) a6 a7 (yo s.a s.b s.c s.d)])) ?_ (fun f2=> ?_)
 rintro ⟨c8,c9⟩
 refine Qq 6 14 kr ?_ ?_
 refine zp rfl (q7 rfl rfl) zP (jH zL) (vj 0 2 rfl rfl) ?_
 rintro ⟨c6,c7⟩ -
 exact qn (f1 (c6,c7)) kr (mR rfl) .rfl .rfl ((.of [0,2,4,5,6,7] rfl))
 refine jr rfl (zo vh rfl) (fun a0 _=> ?_)
 exact qn (d8 (c8,c9,a0)) kr (mR rfl) .rfl .rfl ((.of [0,1,2,3,4,5,6] rfl))
 refine q6 (X:=Nat) (k':=8) (L':=(lb 17 17339)) (fun a0=>([(9,Vp a0),(59,.agg (cw [b6,b8]).toArray),(55,.agg (cw [d0,d1]).toArray),(51,.int .i64 (s.f)),(8,.slice a4 3 a5),(2,Vp b1)],[zK a0 32 (cw [wz,wz])],[zK b1 84 [.int .i64 (s.x),.int .i64 (s.y),.int .i64 (s.z),.int .i64 (s.a),.int .i64 (s.b),.int .i64 (s.c),.int .i64 (s.d),.int .i64 (s.f),.int .i64 (s.u),.int .i64 (s.v)]],[qF true b6 b8 ((yh s z1 z2 z3).getD 2 (0:Rat)),qF true d0 d1 ((yh s z1 z2 z3).getD 0 (0:Rat)),zI rQ a4 a5 (yh s z1 z2 z3),zI rQ (Sb b7) 3 ([(((z1 - s.x):Int):Rat),(((z2 - s.y):Int):Rat),(((z3 - s.z):Int):Rat)]),zI (rS rQ) a8 a9 (yG (yo s.a s.b s.c s.d)),zI (rS rQ) a6 a7 (yo s.a s.b s.c s.d)])) ?_ (fun f3=> ?_)
 rintro a0
 refine jt 2 kr<|zp rfl (qS rfl) zP (Qf zL) (.n) ?_
 rintro ⟨c8,c9⟩ -
 exact qn (d8 (c8,c9,a0)) kr (mR rfl) .rfl .rfl ((.of [0,1,2,3,4,5,6] rfl))
 refine Qq 2 14 kr ?_ ?_
 refine zp rfl (qS rfl) zP (Qf zL) (.n) ?_
 rintro ⟨c8,c9⟩ -
 exact qn (f2 (c8,c9)) kr (mR rfl) .rfl .rfl ((.of [0,1,2,4,5,9,10] rfl))
 refine jr rfl (zo vh rfl) (fun a0 _=> ?_)
 exact qn (f3 a0) kr (mR rfl) .rfl .rfl ((.of [0,1,3,4,8,9] rfl))
theorem zbF {p:Option Addr} {cap:Nat} {l:List Rat} (hl3:l.length=3) (hb:∀i,yr (l.getD i 0)≤100):CC 108 [.slice p 3 cap] [zI rQ p cap l] (Y:=Int×Int×Bool) (fun y=>(-9223372036854775808≤y.1∧y.1≤9223372036854775807)∧(-9223372036854775808≤y.2.1∧y.2.1≤9223372036854775807)∧(y.2.2=true→((y.1:Int):Rat)=l.getD 0 0∧((y.2.1:Int):Rat)=l.getD 1 0∧(-0x100000≤y.1∧y.1≤0x100000)∧(-0x100000≤y.2.1∧y.2.1≤0x100000))) (fun y=> .tuple #[.agg #[.int .i64 (y.1),.int .i64 (y.2.1)],.bool (y.2.2)]) (fun y=>[]):=by
 refine zg Tryz.func108 rfl rfl (fun c=> ?_)
 refine zN 0 rfl (fun hL0=> ?_)
 refine vg<|zB (zo zpo rfl) (fun b1=> ?_)
 refine jD 1 rfl<|qJ rfl<|vX (zM (x0:=(gQ l 0)) 0 0 rfl yb qk rfl zL rfl rfl (gD (d:=(0:Rat)) om)) ?_
 rintro ⟨b2,o3,w4,w5⟩ -
 refine vd qR<|zE (zb ym rfl z8 rfl rfl)<|zw (zA (j:=0) 0 z4 rfl rfl rfl (.t2 .nil))<|Vf (jp 1 rfl) (fun _ _=> ?_)
 refine zm (qS rfl) zP (zbE (by exact yV (Big.v9 _) (yV (hb _) dd))) (qX 0 rfl) ?_
 rintro ⟨X,bx⟩ hsx
 refine jD 5 rfl<|qJ rfl<|vX (zM (x0:=(gQ l 1)) 4 1 rfl yb qk rfl zL rfl rfl (gD (d:=(0:Rat)) om)) ?_
 rintro ⟨b6,o7,w9,w10⟩ -
 refine vd qR<|zE (zb ym rfl z8 rfl rfl)<|zw (zA (j:=0) 0 z4 rfl rfl rfl (.t2 .nil))<|Vf (jp 1 rfl) (fun _ _=> ?_)
 refine zm (qS rfl) zP (zbE (by exact yV (Big.v9 _) (yV (hb _) dd))) (qX 0 rfl) ?_
 rintro ⟨Y,by9⟩ hsy
 refine jD 5 rfl<|zm (qS rfl) zP (zmR zL) (.n) ?_
 rintro a5 -
 refine zB (zo jo rfl) (fun b12=> ?_)
 refine zh 0 rfl rfl rfl rfl z8 (.t2 .nil) .z<|Vc<|ji (X:=Bool) (fun x=>(x=true→((X:Int):Rat)=l.getD 0 0∧((Y:Int):Rat)=l.getD 1 0∧(-0x100000≤X∧X≤0x100000)∧(-0x100000≤Y∧Y≤0x100000))) (fun x=>[(3,.bool x),(2,Vp b1)]) (fun x=>[zK b1 82 [.int .i64 X,.int .i64 Y]]) (fun x=>[]) ?_ ?_
 refine vk (.c (i:=1) rfl (.c (i:=0) rfl .n))<|Vk 30<|zQ 0 rfl rfl<|zQ 1 rfl rfl<|zC 2 rfl (qr zpo rfl yf (.c je (.c je .n)) (.c rfl (.c rfl .n)) (.c rfl rfl rfl (.take .nil) (.c rfl rfl rfl (.skip (.take .nil)) .n)))<|zQ 3 rfl rfl<|zlX 4 rfl rfl kr kr rfl rfl (qU rfl) (fun a0=> ?_) (fun a0=> ?_)
 refine zQ 5 rfl rfl<|zC 6 rfl (jx rfl rfl)<|zlX 7 rfl rfl kr kr rfl rfl (qU rfl) (fun a1=> ?_) (fun a1=> ?_)
 refine zQ 8 rfl rfl<|jc 9 rfl (zM (x0:=(gQ l 0)) 9 0 rfl yb qk rfl zL rfl rfl (gD (d:=(0:Rat)) om)) ?_
 rintro ⟨b13,o14,w15,w17⟩ -
 refine vi qR<|zC 10 rfl (zb ym rfl z8 rfl rfl)<|vE 11 rfl (zA (j:=2) 0 z4 rfl rfl rfl (.s2 (.t2 .nil)))<|qy 12 rfl (za 1 z4 rfl rfl (.t2 .nil))<|ZG (jp 1 rfl) (fun _ _=> ?_)
 refine zt 13 (jU rfl (q7 rfl rfl) zP zcL (vj 1 4 rfl rfl) ?_)
 refine zC 14 rfl (jx rfl rfl)<|zcl 15 rfl rfl kr kr rfl rfl (qU rfl) (fun a2=> ?_) (fun a2=> ?_)
 refine zQ 16 rfl rfl<|jc 17 rfl (zM (x0:=(gQ l 1)) 13 1 rfl yb qk rfl zL rfl rfl (gD (d:=(0:Rat)) om)) ?_
 rintro ⟨b18,o19,w20,w21⟩ -
 refine vi qR<|zC 18 rfl (zb ym rfl z8 rfl rfl)<|vE 19 rfl (zA (j:=2) 0 z4 rfl rfl rfl (.s2 (.t2 .nil)))<|qy 20 rfl (za 1 z4 rfl rfl (.t2 .nil))<|ZG (jp 1 rfl) (fun _ _=> ?_)
 refine zt 21 (jU rfl (q7 rfl rfl) zP zcL (vj 1 8 rfl rfl) ?_)
 refine zC 22 rfl (jx rfl rfl)<|zcl 23 rfl rfl kr kr rfl rfl (qU rfl) (fun a3=> ?_) (fun a3=> ?_)
 refine zQ 24 rfl rfl<|zQ 25 rfl rfl<|zt 26 (V5 rfl (z6 (enc:=fun z:Int=>[.int .i64 z]) (ok:=Vb .i64) (h1:=fun _=>rfl) (h2:=fun _=>rfl) (k:=2) ye Ky rfl dd dd dd (.c (x:=X) rfl rfl (fun _ _=>by exact zu.2 om) (.c (x:=Y) rfl rfl (fun _ _=>by exact zu.2 om) .n))) (fun b22 _=> ?_))
 refine Qw 0 rfl .z<|zt 27 (zp rfl (qS rfl) zP (zlC zL) (qX 0 rfl) ?_)
 rintro a4 hfar
 refine zC 28 rfl (Zo rfl)<|zC 29 rfl (jx rfl rfl)<|zt 30 (zH rfl rfl rfl rfl Qy (.t2 .nil) ?_)
 refine zC 31 rfl (zT rfl)<|zU kr ?_
 exact qL (!a4) (show ((!a4)=true→((X:Int):Rat)=l.getD 0 0∧((Y:Int):Rat)=l.getD 1 0∧(-0x100000≤X∧X≤0x100000)∧(-0x100000≤Y∧Y≤0x100000)) from by first|(intro e;cases e;done)|(intro k;exact Ro.zgT (hsx.2 a0) (hsy.2 a1) a2 a3 (hfar (by simpa using k)))) ((.c rfl (.c rfl .n)):vQ _ _) (ho:=(o0 rfl)) sN
 refine qO 24 rfl<|qO 25 rfl<|qO 26 rfl<|qO 27 rfl<|qO 28 rfl<|zC 29 rfl (jx rfl rfl)<|zt 30 (zH rfl rfl rfl rfl Qy (.t2 .nil) ?_)
 refine zC 31 rfl (zT rfl)<|zU kr ?_
 exact qL false (by first|(intro e;cases e;done)|(intro k;exact Ro.zgT (hsx.2 a0) (hsy.2 a1) a2 a3 (hfar (by simpa using k)))) ((.e rfl (congrArg Value.bool JS) (.c rfl .n))) (o0 rfl) sN
 refine qO 16 rfl<|qO 17 rfl<|qO 18 rfl<|qO 19 rfl<|qO 20 rfl<|qO 21 rfl<|zC 22 rfl (jx rfl rfl)<|zQ 23 rfl rfl<|qO 24 rfl<|qO 25 rfl<|qO 26 rfl<|qO 27 rfl<|qO 28 rfl<|zC 29 rfl (jx rfl rfl)<|zt 30 (zH rfl rfl rfl rfl Qy (.t2 .nil) ?_)
 refine zC 31 rfl (zT rfl)<|zU kr ?_
 exact qL false (show (false=true→((X:Int):Rat)=l.getD 0 0∧((Y:Int):Rat)=l.getD 1 0∧(-0x100000≤X∧X≤0x100000)∧(-0x100000≤Y∧Y≤0x100000)) from by first|(intro e;cases e;done)|(intro k;exact Ro.zgT (hsx.2 a0) (hsy.2 a1) a2 a3 (hfar (by simpa using k)))) ((.e rfl (congrArg Value.bool JS) (.c rfl .n)):vQ _ _) (ho:=(o0 rfl)) sN
 refine qO 8 rfl<|qO 9 rfl<|qO 10 rfl<|qO 11 rfl<|qO 12 rfl<|qO 13 rfl<|zC 14 rfl (jx rfl rfl)<|zQ 15 rfl rfl<|qO 16 rfl<|qO 17 rfl<|qO 18 rfl<|qO 19 rfl<|qO 20 rfl<|qO 21 rfl<|zC 22 rfl (jx rfl rfl)<|zQ 23 rfl rfl<|qO 24 rfl<|qO 25 rfl<|qO 26 rfl<|qO 27 rfl<|qO 28 rfl<|zC 29 rfl (jx rfl rfl)<|zt 30 (zH rfl rfl rfl rfl Qy (.t2 .nil) ?_)
 refine zC 31 rfl (zT rfl)<|zU kr ?_
 exact qL false (by first|(intro e;cases e;done)|(intro k;exact Ro.zgT (hsx.2 a0) (hsy.2 a1) a2 a3 (hfar (by simpa using k)))) ((.e rfl (congrArg Value.bool JS) (.c rfl .n))) (o0 rfl) sN
 refine qO 5 rfl<|zC 6 rfl (jx rfl rfl)<|zQ 7 rfl rfl<|qO 8 rfl<|qO 9 rfl<|qO 10 rfl<|qO 11 rfl<|qO 12 rfl<|qO 13 rfl<|zC 14 rfl (jx rfl rfl)<|zQ 15 rfl rfl<|qO 16 rfl<|qO 17 rfl<|qO 18 rfl<|qO 19 rfl<|qO 20 rfl<|qO 21 rfl<|zC 22 rfl (jx rfl rfl)<|zQ 23 rfl rfl<|qO 24 rfl<|qO 25 rfl<|qO 26 rfl<|qO 27 rfl<|qO 28 rfl<|zC 29 rfl (jx rfl rfl)<|zt 30 (zH rfl rfl rfl rfl Qy (.t2 .nil) ?_)
 refine zC 31 rfl (zT rfl)<|zU kr ?_
 exact qL false (show (false=true→((X:Int):Rat)=l.getD 0 0∧((Y:Int):Rat)=l.getD 1 0∧(-0x100000≤X∧X≤0x100000)∧(-0x100000≤Y∧Y≤0x100000)) from by first|(intro e;cases e;done)|(intro k;exact Ro.zgT (hsx.2 a0) (hsy.2 a1) a2 a3 (hfar (by simpa using k)))) ((.e rfl (congrArg Value.bool JS) (.c rfl .n)):vQ _ _) (ho:=(o0 rfl)) sN
 rintro g9 hC
 refine vv ?_
 exact vD rfl (X,Y,g9) (⟨hsx.1,hsy.1,hC⟩) (zy 0 zmc rfl rfl (.t2 .nil)) (zj rfl) rfl oN sN
end Sp
namespace Ro
open Mx Big
abbrev D2 (x y:List Rat) (i j:Nat):Rat:=x.getD i 0*y.getD j 0 - x.getD j 0*y.getD i 0
abbrev Sq (x y w:List Rat) (i j:Nat):Rat:=D2 w y i j / D2 x y i j
abbrev Tq (x y w:List Rat) (i j:Nat):Rat:=D2 x w i j / D2 x y i j
def ztp (x y w:List Rat) (lo hi:Rat):Prop:=(∃i j,i<9∧j<9∧D2 x y i j≠0)∧∀i j,i<9→j<9→D2 x y i j≠0→Tq x y w i j≠0∧lo≤Sq x y w i j / Tq x y w i j∧Sq x y w i j / Tq x y w i j≤hi
def ztq (x y w:List Rat):Prop:=(∀i j,i<9→j<9→D2 x y i j=0)∧(∃k,k<9∧y.getD k 0≠0)∧∃q:Rat,∀k,k<9→w.getD k 0=q*y.getD k 0
def Hit (x y w:List Rat) (lo hi:Rat):Prop:=ztp x y w lo hi∨ztq x y w
theorem cle {a b:Rat} (h:a≤b):Zv (a - b)≤0:=zsi.2 Og
def Quo (y w:List Rat) (i:Nat) (kb:Bool) (code:Int) (q:Rat):Prop:=(kb=false∧code=14∧∀k,k<i→y.getD k 0=0)∨(kb=true∧code=0∧∃k,k<9∧y.getD k 0≠0∧q=w.getD k 0 / y.getD k 0)
theorem Quo.start (y w:List Rat) (q:Rat):Quo y w 0 false 14 q:= .inl ⟨rfl,rfl,fun k h=>by omega⟩
theorem Quo.found {y w:List Rat} {i:Nat} {q:Rat} (hi:i<9) (h:y.getD i 0≠0) (e:q=w.getD i 0 / y.getD i 0):Quo y w (i+1) true 0 q:= .inr ⟨rfl,rfl,i,hi,h,e⟩
theorem Quo.skip {y w:List Rat} {i:Nat} {kb:Bool} {code:Int} {q:Rat} (h:Quo y w i kb code q) (k:¬(y.getD i 0≠0∧code≠0)):Quo y w (i+1) kb code q:=by
  rcases h with ⟨h1,h2,h3⟩|h
  · refine .inl ⟨h1, h2, fun j hj => ?_⟩
    by_cases e:j=i
    · subst e;exact Classical.byContradiction fun z=>k ⟨z,Oo⟩
    · exact h3 j Oo
  · exact .inr h
theorem Quo.flag {y w:List Rat} {i:Nat} {kb:Bool} {code:Int} {q:Rat} (h:Quo y w i kb code q) (k:code=0):kb=true:=by
  rcases h with ⟨_,h2,_⟩|⟨h1,_⟩
  · omega
  · exact h1
theorem Quo.hq {y w:List Rat} {i:Nat} {kb:Bool} {code:Int} {q:Rat} (h:Quo y w i kb code q) (k:code=0) (hw:∀i,yr (w.getD i 0)≤3000000) (hy:∀i,yr (y.getD i 0)≤1000):yr q≤10000000:=by
  rcases h with ⟨_,h2,_⟩|⟨_,_,j,_,hj,e⟩
  · omega
  · rw [e]
    have:=Qs (w.getD j 0) hj;have:=hw j;have:=hy j
    omega
theorem Quo.hit {y w:List Rat} {kb:Bool} {code:Int} {q:Rat} (h:Quo y w 9 kb code q) (h1:∃k,k<9∧y.getD k 0≠0) (h2:∃q:Rat,∀k,k<9→w.getD k 0=q*y.getD k 0):code=0∧∀k,k<9→w.getD k 0=q*y.getD k 0:=by
  obtain ⟨k,hk,hk0⟩:=h1
  obtain ⟨r,hr⟩:=h2
  rcases h with ⟨_,_,h3⟩|⟨_,h4,j,hj,hj0,e⟩
  · exact absurd (h3 k hk) hk0
  · refine ⟨h4, fun i hi => ?_⟩
    have:q=r:=by
      rw [e,hr j hj,Rat.div_def,Rat.mul_assoc,Rat.mul_inv_cancel _ hj0,Rat.mul_one]
    rw [this];exact hr i hi
structure okP (q:Pc):Prop where
  m1:m33 q.1
  m2:m33 q.2.1
  b1:∀i,yr (q.1.flatten.getD i 0)≤1000
  b2:∀i,yr (q.2.1.flatten.getD i 0)≤1000
  e1:yr q.2.2.1≤100000000000
  e2:yr q.2.2.2≤100000000000
def zq4 (w:List Rat) (q:Pc):Prop:=Hit q.1.flatten q.2.1.flatten w q.2.2.1 q.2.2.2
end Ro
end Go.Proofs.YtpdbimfnhglhpaaGreat
